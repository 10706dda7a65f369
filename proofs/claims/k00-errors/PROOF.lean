import PyProof.Rows.All
import Wide.All
import OpenK.AllK
import Wide.FinOn
import KE.OsRunLaw
import HandS.ForMost
import HandS.ForExc
import HandS.IsInst
import HandS.TupAny
import HandS.Wide
import HandS.TupMul
import HandS.TryMany
import HandS.More
import PyProof.LongRange
import HandS.Lambda
import HandS.Zip
import HandS.Style
import PyProof.StrOps2
import HandS.ExcInit
import HandS.ExcField
import HandS.Deep
import HandS.ExcIs
import KE.GoesEnum
import HandS.SetFor
import HandS.Strs
import PyProof.Rows.SortShellAny
import HandS.TryOnly
import HandS.Dict
import HandS.Conv
import HandS.OwnEq
import HandS.ExcValue
import PySem.Challenge.RW_guessedworlds_k00_errors_keep_what_is_pa
set_option Elab.async false
set_option linter.all false
set_option maxRecDepth 100000
set_option maxHeartbeats 4000000
namespace Hd
open PySem PySem.W PyProof.Rows PySem.Calls HeadRun
abbrev rr : OpenRow := OpenLaw.row PySem.Challenge.rw_guessedworlds_k00_errors_keep_what_is_pa
abbrev pp : Program := PySem.Challenge.rw_guessedworlds_k00_errors_keep_what_is_pa.prog
theorem keep {r : OpenRow} {α : Type} {loose : List PySem.Str} {XP : (PySem.Str → Option Value) → Heap → Prop} {Yf : Shared → α} (h : ∀ r : OpenRow, r.Holds) : r.Holds := h r
section
local macro_rules
  | `(term| $f:ident $args*) => do
    if args.any fun a => a.raw.isOfKind ``Lean.Parser.Term.syntheticHole && a.raw[1].getId.eraseMacroScopes == `hl then
      let out := args.filter fun a => a.raw.isOfKind ``Lean.Parser.Term.namedArgument && [`loose, `XP, `Yf].contains a.raw[1].getId.eraseMacroScopes
      `(Hd.keep $out* (by assumption))
    else Lean.Macro.throwUnsupported
set_option maxHeartbeats 0 in
theorem pre : (∀ r : OpenRow, r.Holds) → PySem.Challenge.rw_guessedworlds_k00_errors_keep_what_is_pa.Holds := by
  intro h
  w_on; o_law; k_head
end
set_option maxHeartbeats 0
noncomputable abbrev qq : Program := Hd.pre.view_39
def loose0 : List PySem.Str := []
def lv0 : List (PySem.Str × WData) := []
def as0 : List Addr := [2, 3, 15, 22, 23, 24, 25, 28, 35, 36, 37, 40, 47, 48, 49, 52, 59, 61, 62, 64, 65, 66, 67, 68, 71, 78, 80, 81, 83, 84, 85, 86, 87, 90, 97, 99, 100, 102, 103, 104, 105, 106, 109, 116, 118, 119, 121, 122, 123, 124, 125, 128, 135, 136, 137, 140, 147, 148, 149, 152, 159, 160, 161, 164, 171, 172, 173, 176, 183, 184, 185, 188, 195, 196, 197, 200, 207, 209, 210, 212, 213, 214, 215, 216, 219, 226, 227, 228, 231, 238, 239, 240, 243, 250, 252, 253, 255, 256, 257, 258, 259, 262, 269, 271, 272, 274, 275, 276, 277, 278, 281, 288, 289, 290, 293, 300, 301, 302, 305, 312, 313, 314, 317, 324, 325, 326, 329, 336, 337, 338, 341, 348, 350, 351, 353, 354, 355, 356, 357, 360, 367, 368, 369, 372, 379, 380, 381, 384, 391, 392, 393, 396, 403, 404, 405, 408, 415, 416, 417, 420, 427, 428, 429, 432, 439, 441, 442, 444, 445, 446, 447, 448, 451, 458, 459, 460, 463, 470, 471, 472, 475, 482, 483, 484, 487, 494, 495, 496, 499, 506, 508, 509, 511, 512, 513, 514, 515, 518, 525, 526, 527, 530, 537, 539, 540, 542, 543, 544, 545, 546, 549, 556, 557, 558, 561, 568, 569, 570, 573, 580, 581, 582, 585, 592, 594, 595, 597, 598, 599, 600, 601, 604, 611, 612, 613, 616, 623, 624, 625, 628, 635, 636, 637, 640, 647, 648, 649, 652, 659, 660, 661, 664, 671, 673, 674, 676, 677, 678, 679, 680, 683, 685, 686, 688, 689, 690, 692, 693, 695, 696, 697, 699, 700, 702, 703, 704, 706, 707, 709, 710, 711, 713, 714, 716, 717, 718, 720, 721, 723, 724, 725, 727, 728, 730, 731, 732, 734, 735, 737, 738, 739, 741, 742, 744, 745, 746, 748, 749, 751, 752, 753, 755, 756, 758, 759, 760, 763, 764]
def LW : List PySem.Str := []
noncomputable def xt (s : Shared) : Bool := xlAt qq lv0 s && recOk (RowW.records rr.toRowW) s
theorem ek (P : Params) : as0 = (Hd.pre.heap_39 P).map (·.1) := by kernel_rfl
theorem kx : @PySem.Heap.keysOk = @PySem.Heap.keysOk := rfl
name_quick keysZ for PySem.Heap.keysOk by kx
theorem tx : @PyProof.Rows.tablesOk = @PyProof.Rows.tablesOk := rfl
name_quick tabZ for PyProof.Rows.tablesOk by tx
theorem px : @PyProof.Rows.plainSeenE = @PyProof.Rows.plainSeenE := rfl
name_quick plsZ for PyProof.Rows.plainSeenE by px
theorem ax : @PySem.Heap.accountedOkI = @PySem.Heap.accountedOkI := rfl
name_quick accZ for PySem.Heap.accountedOkI by ax
theorem lx : @PySem.W.looseW = @PySem.W.looseW := rfl
name_quick looZ for PySem.W.looseW by lx
theorem dx : @PyProof.Rows.plainSeenD = @PyProof.Rows.plainSeenD := rfl
name_quick pldZ for PyProof.Rows.plainSeenD by dx
def defN : Stmt → Option PySem.Str
  | .FunctionDef n .. => some n
  | _ => none
def nodupB : List PySem.Str → Bool
  | [] => true
  | x :: xs => !xs.contains x && nodupB xs
def uniqD (p : Program) : Bool := nodupB (p.main.body.filterMap defN)
def isD (name : PySem.Str) (st : Stmt) : Bool := match st with | .FunctionDef n .. => n == name | _ => false
theorem defs_none {name : PySem.Str} : ∀ {L : List Stmt}, name ∉ L.filterMap defN → L.filter (isD name) = []
  | [], _ => rfl
  | st :: L, h => by
    cases e : defN st with
    | none =>
      rw [List.filterMap_cons_none e] at h
      have z : isD name st = false := by
        cases st <;> first | rfl | (unfold defN at e; cases e)
      rw [List.filter_cons, z]
      exact defs_none h
    | some n =>
      rw [List.filterMap_cons_some e] at h
      have z : isD name st = false := by
        cases st <;> first | rfl | skip
        unfold defN at e
        cases e
        unfold isD
        exact beq_eq_false_iff_ne.mpr fun q => h (by rw [q]; exact List.mem_cons_self)
      rw [List.filter_cons, z]
      exact defs_none fun q => h (List.mem_cons_of_mem _ q)
theorem defs_one {name : PySem.Str} : ∀ {L : List Stmt} {st : Stmt}, nodupB (L.filterMap defN) = true → st ∈ L → defN st = some name → L.filter (isD name) = [st]
  | [], _, _, h, _ => by cases h
  | s0 :: L, st, u, h, e => by
    cases e0 : defN s0 with
    | none =>
      rw [List.filterMap_cons_none e0] at u
      have z : isD name s0 = false := by
        cases s0 <;> first | rfl | (unfold defN at e0; cases e0)
      rw [List.filter_cons, z]
      rcases List.mem_cons.mp h with rfl | h
      · rw [e] at e0
        cases e0
      · exact defs_one u h e
    | some n =>
      rw [List.filterMap_cons_some e0] at u
      unfold nodupB at u
      rw [Bool.and_eq_true, Bool.not_eq_true'] at u
      obtain ⟨u1, u2⟩ := u
      have nn : n ∉ L.filterMap defN := fun q => by
        rw [List.contains_iff_mem.mpr q] at u1
        cases u1
      rcases List.mem_cons.mp h with rfl | h
      · rw [e] at e0
        cases e0
        have z : isD name st = true := by
          cases st <;> first | (unfold defN at e; cases e; done) | skip
          unfold defN at e
          cases e
          unfold isD
          exact beq_self_eq_true _
        rw [List.filter_cons, z, defs_none nn]
        rfl
      · have hm : name ∈ L.filterMap defN := List.mem_filterMap.mpr ⟨st, h, e⟩
        have z : isD name s0 = false := by
          cases s0 <;> first | rfl | skip
          unfold defN at e0
          cases e0
          unfold isD
          exact beq_eq_false_iff_ne.mpr fun q => nn (by rw [q]; exact hm)
        rw [List.filter_cons, z]
        exact defs_one u2 h e
def recsL (p : Program) : List DefRec := p.main.body.filterMap fun st => match st with
  | .FunctionDef name a b [] _ [] sc _ _ pos => (match a.defaults, kwLiteralsOf? a.kwonlyargs a.kw_defaults with
      | [], some [] => some ⟨name, a, b, sc, pos⟩
      | _, _ => none)
  | _ => none
def wdefsL (p : Program) : List (DefRec × List (PySem.Str × Expr)) := p.main.body.filterMap fun st => match st with
  | .FunctionDef name a b [] _ [] sc _ _ pos => (match kwWritten? a.kwonlyargs a.kw_defaults with
      | some kw => if a.defaults.isEmpty && kw.isEmpty then none else some (⟨name, a, b, sc, pos⟩, kw)
      | none => none)
  | _ => none
theorem theDef_one {p : Program} (u : uniqD p = true) {st : Stmt} (h : st ∈ p.main.body) {name : PySem.Str} (e : defN st = some name) : p.theDef name = (match [st] with | [.FunctionDef _ a b [] _ [] sc _ _ _] => some (a, b, sc) | _ => none) := by
  show (match p.main.body.filter (isD name) with | [.FunctionDef _ a b [] _ [] sc _ _ _] => some (a, b, sc) | _ => none) = _
  rw [defs_one u h e]
theorem fm_congr {α β : Type} {f g : α → Option β} : ∀ {l : List α}, (∀ x ∈ l, f x = g x) → l.filterMap f = l.filterMap g
  | [], _ => rfl
  | x :: l, h => by
    rw [List.filterMap_cons, List.filterMap_cons, h x List.mem_cons_self, fm_congr fun y hy => h y (List.mem_cons_of_mem _ hy)]
theorem recs_lin {p : Program} (u : uniqD p = true) : recsOf p = recsL p := by
  refine fm_congr fun st h => ?_
  cases st <;> try rfl
  rename_i name a b dl r tl sc ts bd pos
  dsimp only
  rw [theDef_one u h rfl]
  cases dl <;> cases tl <;> rfl
theorem wdefs_lin {p : Program} (u : uniqD p = true) : wdefsOf p = wdefsL p := by
  refine fm_congr fun st h => ?_
  cases st <;> try rfl
  rename_i name a b dl r tl sc ts bd pos
  dsimp only
  rw [theDef_one u h rfl]
  cases dl <;> cases tl <;> rfl

noncomputable def seenL (q : Program) (s : Shared) : Seen := seen ((recsL q).map (·.name)) (ownsOf q) [] { s with gens := #[] }
def expL (q : Program) : Seen := ⟨(recsL q).map fun d => some d.shape, true, [], true, true, true, 0⟩
noncomputable def tabsL (q : Program) (s : Shared) : Bool := (((recsL q).all fun d => s.heap.tab0Ok d.name) && s.heap.bmainOk && valsOk q s.heap) && (!importsNone q || s.heap.noSeerOk)
noncomputable def wideL (q : Program) (s : Shared) : List (Option FnShape) × Bool := ((wdefsL q).map fun d => shapeAtK s.heap d.1.name, ((wdefsL q).all fun d => s.heap.restOk (q.nameAt false d.1.name) d.1.name && dfltAt s.heap d) && (wlitsOf q).all (constAt s.heap))
def wideGL (q : Program) : List (Option FnShape) × Bool := ((wdefsL q).map fun d => some d.1.shape, true)
theorem y_seen : @seenL = @seenL := rfl
name_quick ySeen for seenL by y_seen
theorem y_tabs : @tabsL = @tabsL := rfl
name_quick yTabs for tabsL by y_tabs
theorem y_wide : @wideL = @wideL := rfl
name_quick yWide for wideL by y_wide
theorem left_gen {p q : Program} {loose LW : List PySem.Str} {Xt : Shared → Bool} {K : Params → Frag} {as : List Addr} {ek : ∀ P, as = (K P).map (·.1)} {N M : Nat}
    (e : opening p = plainProg p.main.scope.names) (hN : Nat.ble 600 N = true) (f : ∀ s, fenceModules? p s = some s) (le : Nat.ble M N = true) (lw : looseW q loose = LW) (uq : uniqD q = true)
    (ga : ∀ (w : World) (os : OsState), (endF (stepQ (denQ tabQ) p w) M p w os).map (fun s => (looksF p (boot_heap w.params) s.abs, (seenQ q loose (importedModules p.main.body) Xt s.abs).2.1, (seenQ q loose (importedModules p.main.body) Xt s.abs).2.2.2.2.2.2.2.2, as.map (getT s), PySem.W.Fast.plsZ q LW s.abs, PySem.W.Fast.pldZ q loose s.abs)) = some ((true, bltViewBooted, clsGoodW q loose, (K w.params).map fun x => some x.2, plainGoodE q LW, plainGoodD q loose))) (gb : ∀ (w : World) (os : OsState), (endF (stepQ (denQ tabQ) p w) M p w os).map (fun s => PySem.W.Fast.ySeen q s.abs) = some (expL q)) (gc : ∀ (w : World) (os : OsState), (endF (stepQ (denQ tabQ) p w) M p w os).map (fun s => PySem.W.Fast.yTabs q s.abs) = some (true)) (gd : ∀ (w : World) (os : OsState), (endF (stepQ (denQ tabQ) p w) M p w os).map (fun s => ((seenQ q loose (importedModules p.main.body) Xt s.abs).2.2.2.2.1, Xt s.abs, (PySem.W.Fast.accZ s.abs.heap (importedModules p.main.body) && s.abs.heap.isNs mainGlobals && s.abs.heap.isNs builtinsNs && (s.abs.gens.size == 0)))) = some ((pinGoodD (drecsOf q), true, true))) (ge : ∀ (w : World) (os : OsState), (endF (stepQ (denQ tabQ) p w) M p w os).map (fun s => (PySem.W.Fast.keysZ s.abs.heap LW ((recsL q).map (·.name)) ((litsOf q).map (·.1)) ((clssOf q LW).map (·.name)), PySem.W.Fast.tabZ q s.abs.heap)) = some ((true, true))) (gf : ∀ (w : World) (os : OsState), (endF (stepQ (denQ tabQ) p w) M p w os).map (fun s => PySem.W.Fast.yWide q s.abs) = some (wideGL q)) :
    LeftO p q loose Xt (Hook.obs (kHook K as ek)) (Hook.val (kHook K as ek)) N true :=
  HeadRun.left_oneK (M := M) e hN f le fun w os => by
    obtain ⟨s, hs, e⟩ := Option.map_eq_some_iff.mp (ga w os)
    have g : ∀ {β : Type} {F : SharedT → β} {b : β}, (endF (stepQ (denQ tabQ) p w) M p w os).map F = some b → F s = b := fun h => by
      rw [hs] at h
      exact Option.some.inj h
    obtain ⟨a1, e⟩ := Prod.mk.inj e
    obtain ⟨a2, e⟩ := Prod.mk.inj e
    obtain ⟨a3, e⟩ := Prod.mk.inj e
    obtain ⟨a4, e⟩ := Prod.mk.inj e
    obtain ⟨e1, b2⟩ := Prod.mk.inj e
    have b1 := g (gb w os)
    have c1 := g (gc w os)
    have e := g (gd w os)
    obtain ⟨d1, e⟩ := Prod.mk.inj e
    obtain ⟨d2, d3⟩ := Prod.mk.inj e
    have e := g (ge w os)
    obtain ⟨f1, g1⟩ := Prod.mk.inj e
    have h1 := g (gf w os)
    rw [hs]
    rw [← PySem.W.Fast.keysZ_eq] at f1
    rw [← PySem.W.Fast.tabZ_eq] at g1
    rw [← PySem.W.Fast.plsZ_eq] at e1
    rw [← PySem.W.Fast.pldZ_eq] at b2
    rw [← PySem.W.Fast.ySeen_eq] at b1
    rw [← PySem.W.Fast.yTabs_eq] at c1
    rw [← PySem.W.Fast.yWide_eq] at h1
    rw [← PySem.W.Fast.accZ_eq] at d3
    simp only [Bool.and_eq_true] at d3
    obtain ⟨⟨⟨d3, d4⟩, d5⟩, d6⟩ := d3
    have e3 : (seenQ q loose (importedModules p.main.body) Xt s.abs).2.2.1 = true := by
      rw [← seenQ_eq]
      show (Heap.keysOk s.abs.heap (looseW q loose) ((recsOf q).map (·.name)) ((litsOf q).map (·.1)) ((clssOf q (looseW q loose)).map (·.name)) && s.abs.heap.accountedOkI (importedModules p.main.body) && s.abs.heap.isNs mainGlobals && s.abs.heap.isNs builtinsNs && tablesOk q s.abs.heap && Xt s.abs && (s.abs.gens.size == 0)) = true
      rw [lw, recs_lin uq, f1, d3, d4, d5, g1, d2, d6]
      rfl
    have e6 : (seenQ q loose (importedModules p.main.body) Xt s.abs).2.2.2.2.2.1 = plainGoodE q (looseW q loose) := by
      rw [← seenQ_eq]
      show plainSeenE q (looseW q loose) s.abs = _
      rw [lw]
      exact e1
    have eb1 : (seenQ q loose (importedModules p.main.body) Xt s.abs).1 = expectedOf q := by
      rw [← seenQ_eq]
      show seen ((recsOf q).map (·.name)) (ownsOf q) [] { s.abs with gens := #[] } = ⟨(recsOf q).map fun d => some d.shape, true, [], true, true, true, 0⟩
      rw [recs_lin uq]
      exact b1
    have ec1 : (seenQ q loose (importedModules p.main.body) Xt s.abs).2.2.2.1 = true := by
      rw [← seenQ_eq]
      show ((((recsOf q).all fun d => s.abs.heap.tab0Ok d.name) && s.abs.heap.bmainOk && valsOk q s.abs.heap) && (!importsNone q || s.abs.heap.noSeerOk)) = true
      rw [recs_lin uq]
      exact c1
    have eb2 : (seenQ q loose (importedModules p.main.body) Xt s.abs).2.2.2.2.2.2.1 = plainGoodD q loose := by
      rw [← seenQ_eq]
      exact b2
    have eh1 : (seenQ q loose (importedModules p.main.body) Xt s.abs).2.2.2.2.2.2.2.1 = wideGood q := by
      rw [← seenQ_eq]
      show ((wdefsOf q).map fun d => shapeAtK s.abs.heap d.1.name, ((wdefsOf q).all fun d => s.abs.heap.restOk (q.nameAt false d.1.name) d.1.name && dfltAt s.abs.heap d) && (wlitsOf q).all (constAt s.abs.heap)) = ((wdefsOf q).map fun d => some d.1.shape, true)
      rw [wdefs_lin uq]
      exact h1
    refine congrArg some (Prod.ext a1 (Prod.ext ?_ a4))
    exact Prod.ext eb1 (Prod.ext a2 (Prod.ext e3 (Prod.ext ec1 (Prod.ext d1 (Prod.ext e6 (Prod.ext eb2 (Prod.ext eh1 a3)))))))
theorem uq : uniqD qq = true := by kernel_rfl
theorem lw : looseW qq loose0 = LW := (congrFun (congrFun PySem.W.Fast.looZ_eq qq) loose0).trans (by kernel_rfl)
theorem ga (w : World) (os : OsState) : (endF (stepQ (denQ tabQ) pp w) 22126 pp w os).map (fun s => (looksF pp (boot_heap w.params) s.abs, (seenQ qq loose0 (importedModules pp.main.body) xt s.abs).2.1, (seenQ qq loose0 (importedModules pp.main.body) xt s.abs).2.2.2.2.2.2.2.2, as0.map (getT s), PySem.W.Fast.plsZ qq LW s.abs, PySem.W.Fast.pldZ qq loose0 s.abs)) = some ((true, bltViewBooted, clsGoodW qq loose0, (Hd.pre.heap_39 w.params).map fun x => some x.2, plainGoodE qq LW, plainGoodD qq loose0)) := by kernel_rfl
theorem gb (w : World) (os : OsState) : (endF (stepQ (denQ tabQ) pp w) 22126 pp w os).map (fun s => PySem.W.Fast.ySeen qq s.abs) = some (expL qq) := by kernel_rfl
theorem gc (w : World) (os : OsState) : (endF (stepQ (denQ tabQ) pp w) 22126 pp w os).map (fun s => PySem.W.Fast.yTabs qq s.abs) = some (true) := by kernel_rfl
theorem gd (w : World) (os : OsState) : (endF (stepQ (denQ tabQ) pp w) 22126 pp w os).map (fun s => ((seenQ qq loose0 (importedModules pp.main.body) xt s.abs).2.2.2.2.1, xt s.abs, (PySem.W.Fast.accZ s.abs.heap (importedModules pp.main.body) && s.abs.heap.isNs mainGlobals && s.abs.heap.isNs builtinsNs && (s.abs.gens.size == 0)))) = some ((pinGoodD (drecsOf qq), true, true)) := by kernel_rfl
theorem ge (w : World) (os : OsState) : (endF (stepQ (denQ tabQ) pp w) 22126 pp w os).map (fun s => (PySem.W.Fast.keysZ s.abs.heap LW ((recsL qq).map (·.name)) ((litsOf qq).map (·.1)) ((clssOf qq LW).map (·.name)), PySem.W.Fast.tabZ qq s.abs.heap)) = some ((true, true)) := by kernel_rfl
theorem gf (w : World) (os : OsState) : (endF (stepQ (denQ tabQ) pp w) 22126 pp w os).map (fun s => PySem.W.Fast.yWide qq s.abs) = some (wideGL qq) := by kernel_rfl
theorem left : LeftO pp qq loose0 xt (Hook.obs (kHook Hd.pre.heap_39 as0 ek)) (Hook.val (kHook Hd.pre.heap_39 as0 ek)) 22826 true :=
  left_gen (M := 22126) (by kernel_rfl) (by rfl) (fun s => by kernel_rfl) (by rfl) lw uq ga gb gc gd ge gf
end Hd
set_option maxHeartbeats 4000000
/-! room in which no guard stands (repr may be asked), defs by such room, things that are frozen -/
namespace VD
open PySem PySem.Spec PyProof.Rows L2

/-- a list that is never written: the script, one that was frozen -/
def CL (K : PySem.W.Frag) (H : Hp) (a : Addr) (xs : List V) : Prop :=
  (∃ o, H a = some (.frz o (.lst xs))) ∨ ∃ (its : Array Value) (n : Nat), K.lookup a = some { cls := .type "list", data := .seq its n } ∧ its.size ≤ sizeLine ∧ Vals xs its.toList
theorem CL.sq {K : PySem.W.Frag} {H : Hp} {a : Addr} {xs : List V} (h : CL K H a xs) : SqL K H a xs := by
  rcases h with h | ⟨its, n, h1, h2, h3⟩
  · exact .inl (.inr h)
  · exact .inr ⟨_, its, n, h1, rfl, rfl, rfl, h2, h3⟩
/-- a list, as it stands -/
def LC (K : PySem.W.Frag) (H : Hp) (a : Addr) (xs : List V) : Prop := H a = some (.lst xs) ∨ CL K H a xs
theorem LC.sq {K : PySem.W.Frag} {H : Hp} {a : Addr} {xs : List V} (h : LC K H a xs) : SqL K H a xs := h.elim (fun h => .inl (.inl h)) CL.sq
section
variable {X : Cx} {pins : List (Addr × Obj)} {σ : L2.St} {H : Hp} {s : Shared} {l : Addr} {xs : List V}
theorem LC.at_ (I : Inv X pins σ H s) (h : LC X.K H l xs) : xs.length ≤ sizeLine ∧ ∃ (its : List Value) (n : Nat), Vals xs its ∧ xs.length = its.length ∧ s.heap.get? l = some { cls := .type "list", data := .seq its.toArray n } := by
  rcases h with h | ⟨o, h⟩ | ⟨its, n, h1, h2, h3⟩
  · exact I.lstM h
  · obtain ⟨_, z, its, n, r, e⟩ := (show ObjOk X.prog X.w H s.heap l (.frz o (.lst xs)) from I.hok l _ h)
    exact ⟨z, its, n, r, r.length, e⟩
  · have e := h3.length
    exact ⟨by rw [e]; simpa using h2, its.toList, n, h3, e, by simpa using I.kIn l _ h1⟩
def rCatC (K : PySem.W.Frag) : R2 := fun x y H Q => ∃ l b xs zs, x = .ref l ∧ y = .ref b ∧ LC K H l xs ∧ LC K H b zs ∧ xs.length + zs.length ≤ sizeLine ∧ ∀ p, H p = none → Q (.ref p) (upd H p (.lst (xs ++ zs)))
theorem op_catC : OpR X (binaryOp .Add) (rCatC X.K) := by
  intro pins s σ H x y v u Q I rx ry h
  obtain ⟨l, b, xs, zs, rfl, rfl, hx, hy, hz, q⟩ := h
  obtain rfl : v = Value.ref l := rx
  obtain rfl : u = Value.ref b := ry
  obtain ⟨_, its, n, r, hl, e⟩ := hx.at_ I
  obtain ⟨_, its2, n2, r2, hl2, e2⟩ := hy.at_ I
  refine PySem.P.add_list e e2 ?_ (by rw [List.size_toArray, List.size_toArray, ← hl, ← hl2]; exact hz)
  rw [show its.toArray ++ its2.toArray = (its ++ its2).toArray by simp]
  exact ⟨.ref _, _, I.lnew (t' := s.toks) (r.append r2) (by rw [List.length_append]; exact hz), rfl, q _ I.fresh⟩
end
structure RoomG (k : Nat) (A : Around) : Prop where
  r : Room k A
  g : A.guards = some []
section
variable {A : Around} {j k : Nat}
theorem RoomG.mono (h : RoomG k A) (l : j ≤ k) : RoomG j A := ⟨h.r.mono l, h.g⟩
theorem RoomG.units (h : RoomG k A) : A.units + 64 < cLine := h.r.units
theorem RoomG.deeper (h : RoomG (k + 1) A) (env : Env) : RoomG k (A.deeper env) := ⟨h.r.deeper env, h.g⟩
theorem RoomG.make (h : RoomG (k + 1) A) (C : Addr) (us : List Value) : RoomG k (A.under (.builtin "type.__call__" ⟨.ref C :: us, []⟩)) := ⟨h.r.make C us [], by
  have e : (Code.builtin "type.__call__" ⟨.ref C :: us, []⟩).guards = [] := by simp [Code.guards, Code.isGuard, guardIds]
  show pushGuards (Code.builtin "type.__call__" ⟨.ref C :: us, []⟩).guards A.guards = some []
  rw [e, h.g]; rfl⟩
end
structure FnG (P : Program) (w : World) (K : PySem.W.Frag) (mg : Str → Option Value) (base : Heap) (CX : CXT) (k : Nat) (f : Addr) (fd : FuncData) (ps : List Str) (sp : Sp) : Prop where
  len : ∀ vs H Q E, sp vs H Q E → vs.length = ps.length
  go : ∀ (A : Around) (outer : List Env) (s : Shared) (H : Hp) (args : Args) (us : List Value) (vs : List V) (Q : VK) (E : XK), RoomG k A → Env0 P w K mg base A outer s H → BindsTo s fd args (ps.zip us) → Vals vs us → sp vs H Q E →
    codeAny (model P w) A (.call (.ref f) args) (CR CX outer P w H s Q E) s
section
variable {P : Program} {w : World} {K : PySem.W.Frag} {mg : Str → Option Value} {base : Heap} {CX : CXT}
theorem FnG.of {k : Nat} {f : Addr} {fd : FuncData} {ps : List Str} {sp : Sp} (F : FnOk P w K mg base CX k f fd ps sp) : FnG P w K mg base CX k f fd ps sp := ⟨F.len, fun A outer s H args us vs Q E hr => F.run A outer s H args us vs Q E hr.r⟩
/-- a def by its body -/
theorem fnG_of {k : Nat} {f : Addr} {nm qual : Str} {prm : Arguments} {bd : List Stmt} {scp : Scope} {dV kV doc pm cdv ct oc : Value} {an od : Option Addr} {osl : Array (Option Value)} {N ps : List Str} {sp : Sp}
    (look : K.lookup f = some ⟨oc, od, .func (PySem.W.fnOf nm qual prm bd scp dV kV doc pm an cdv ct), osl⟩) (cod : PySem.W.codeIn K cdv qual = true) (Sc : FnScope N ps scp) (len : ∀ vs H Q E, sp vs H Q E → vs.length = ps.length)
    (bod : ∀ (A : Around) (outer : List Env) (s : Shared) (H : Hp) (vs : List V) (Q : VK) (E : XK), RoomG k (A.deeper (envOfC qual scp s.heap.objs.size f cdv)) → sp vs H Q E →
      ∃ t, PSs (cxOf CX P w K mg base N qual scp f cdv A outer s H E) bd t ∧ t { nx := fun _ H' => Q .non H', rt := Q } (start N vs) H) : FnG P w K mg base CX (k + 1) f (PySem.W.fnOf nm qual prm bd scp dV kV doc pm an cdv ct) ps sp := by
  constructor
  · exact len
  intro A outer s H args us vs Q E room env0 bind rel want
  have KX : K.In s.heap := env0.mod.kin.keeps fun b o e => (env0.bs b o e).1
  have kinds : ∀ y ∈ ps.zip us, scp.names.lookup y.1 = some .local ∨ (scp.names.lookup y.1 = some .cell ∧ ((cellsFrom (s.heap.objs.size + 1) scp.names []).lookup y.1).isSome = true) := by
    rintro ⟨n, v⟩ hy
    rcases Sc.par n (List.of_mem_zip hy).1 with q | q
    · exact .inl q
    · exact .inr ⟨q, PySem.W.cellsFrom_some _ _ _ (.inl q)⟩
  refine codeAny_call_function room.r.depth (KX _ _ look) rfl Sc.co Sc.gen rfl (PySem.W.codeRec_of KX cod) (bind _ _ _ _ (wpAny_newFunctionEnv_cells Sc.kind kinds fun env he s1 x => ?_))
  subst he
  refine ⟨(env0.mod.nolimit.keeps fun b o e => (env0.bs b o e).1).keeps x.toInCall.keep, codeAny_func ?_⟩
  obtain ⟨t, ht, hq⟩ := bod A outer s H vs Q E (room.deeper _) want
  refine wpAny_mono (ht.run [] s1 (start N vs) H _ (inv_start Sc room.r.hd env0 (len _ _ _ _ want) rel x) hq) (fun fl s' ends => ?_) fun e s' ends => ends
  cases fl with
  | brk => obtain ⟨_, _, _, q⟩ := ends; exact q.elim
  | cont => obtain ⟨_, _, _, q⟩ := ends; exact q.elim
  | next => obtain ⟨σ', H', J, q⟩ := ends; exact ⟨.non, H', J.os, J.bare, J.base, J.hok, rfl, q⟩
  | ret u => obtain ⟨v, σ', H', J, rv, q⟩ := ends; exact ⟨v, H', J.os, J.bare, J.base, J.hok, rv, q⟩
theorem funG {x qual : Str} {st : Stmt} {f : Addr} {fd : FuncData} {N ps : List Str} {k : Nat} {sp : Sp} (F : Fun K x qual st f fd) (Sc : FnScope N ps (defScope st)) (len : ∀ vs H Q E, sp vs H Q E → vs.length = ps.length)
    (bod : ∀ (cdv : Value) (A : Around) (outer : List Env) (s : Shared) (H : Hp) (vs : List V) (Q : VK) (E : XK), RoomG k (A.deeper (envOfC qual (defScope st) s.heap.objs.size f cdv)) → sp vs H Q E →
      ∃ t, PSs (cxOf (L2.CX P w) P w K mg base N qual (defScope st) f cdv A outer s H E) (defBody st) t ∧ t { nx := fun _ H' => Q .non H', rt := Q } (start N vs) H) : FnG P w K mg base (L2.CX P w) (k + 1) f fd ps sp := by
  obtain ⟨oc, od, kV, doc, pm, an, cdv, ct, osl, rfl, lk, hcd⟩ := F.ex
  exact fnG_of lk hcd Sc len (bod cdv)
end
section
variable {X : Cx} {CX : CXT} {k : Nat} {f C : Addr} {fd : FuncData} {ps : List Str} {sp : Sp} {E : L2.St → XK} {x m : Str} {p pos apos : Pos} {e o : Expr} {es : List Expr} {ta : TE} {t : TA}
theorem run_G {pins : List (Addr × Obj)} {σ : L2.St} {H : Hp} {s : Shared} {Q : VK} {us : List Value} {vs : List V} (F : FnG X.prog X.w X.K X.mg X.base CX k f fd ps sp) (hr : RoomG k X.A) (hb : Binds X.K fd ps []) (hx : PassesAt CX X σ (E σ)) (I : Inv X pins σ H s) (r : Vals vs us)
    (h : sp vs H Q (E σ)) : wpAny (model X.prog X.w) X.A (call (.ref f) us) (EP X pins σ Q) X.xe s := by
  have b := hb s us I.kIn (by rw [List.append_nil, ← r.length]; exact F.len _ _ _ _ h)
  rw [List.append_nil] at b
  refine wpAny_call (codeAny_mono (F.go X.A X.stack s H ⟨us, []⟩ us vs Q (E σ) hr I.env0 b r h) fun res s' hq => ?_)
  match res, hq with
  | .error e, hq => exact hx pins H s e s' I hq
  | .ok (.ret u), hq => exact I.after hq
  | .ok .next, hq => exact False.elim hq
  | .ok .brk, hq => exact False.elim hq
  | .ok .cont, hq => exact False.elim hq
theorem pe_callG (F : FnG X.prog X.w X.K X.mg X.base CX k f fd ps sp) (hr : RoomG k X.A) (hg : Gl X x) (hm : X.mg x = some (.ref f)) (hk : PySem.W.keepIn X.K (.ref f) = true) (hb : Binds X.K fd ps []) (hx : ∀ σ, PassesAt CX X σ (E σ)) (ha : PA X (e :: es) t)
    (hdb : (x == ("__debug__" : Str)) = false := by decide) (he : starEach (e :: es) X.env = (false, eval e X.env) :: starEach es X.env := by rfl) (hpl : (backTo pos (starEach es X.env)).any (·.1) = false := by rfl) : PE X (.Call (.Name x p) (e :: es) [] pos) (tCallS sp E t) := by
  constructor
  intro pins s σ H Q I h
  refine wpAny_Call_Name_kw (ld_glob I hg hm ?_ hdb)
  exact PySem.W.callWith_K (h₀ := X.base) I.ok.mod.kin hk (thn (ha.run pos pins s σ H _ I h) fun us s1 ⟨vs, H1, I1, r, q⟩ => ⟨I1.kIn, run_G F hr hb (hx σ) I1 r q⟩) he hpl
/-- o.m(..), by one of several classes; an instance that is frozen, too -/
def InsAt (H : Hp) (a C dx : Addr) (fs : List (Str × V)) : Prop := H a = some (.ins C dx fs) ∨ ∃ ob, H a = some (.frz ob (.ins C dx fs))
theorem insAt_get {P : Program} {w : World} {H : Hp} {h : Heap} {a dx : Addr} {fs : List (Str × V)} (hok : HOk P w H h) (e : InsAt H a C dx fs) : ∃ mA, ObjM h a dx C mA ∧ (∀ f, RelO (fs.lookup f) (mA f)) ∧ PySem.Within mA (fs.map (·.1)) := by
  have z : ObjOk P w H h a (.ins C dx fs) := by
    rcases e with e | ⟨ob, e⟩
    · exact hok a _ e
    · exact (show ObjOk P w H h a (.frz ob (.ins C dx fs)) from hok a _ e).2
  obtain ⟨d, z, ne, ob, mA, n, r, q⟩ := z
  exact ⟨mA, ⟨ob, n, ne⟩, r, q⟩
structure MTab (X : Cx) (CX : CXT) (m : Str) (k : Nat) (E : L2.St → XK) (C f : Addr) (sp : Sp) : Prop where
  c : Cls X.K C
  hm : Meth X.K C m f
  go : ∃ (k' : Nat) (fd : FuncData) (ps : List Str), k' ≤ k ∧ FnG X.prog X.w X.K X.mg X.base CX k' f fd ps sp ∧ Binds X.K fd ps []
/-- e.f of an instance, frozen or not -/
def tFldG (K : PySem.W.Frag) (cs : List Addr) (ta : TE) (f : Str) : TE := fun σ H Q => ta σ H fun x H1 => ∃ a C dx fs v, x = .ref a ∧ InsAt H1 a C dx fs ∧ C ∈ cs ∧ fs.lookup f = some v ∧ Q v H1
/-! C(..) -/
end
/-! ### a thing is frozen: it stays as it is from here on -/
def canFrz : HO → Bool
  | .lst _ | .dK _ | .ins _ _ _ => true
  | _ => false
section
variable {X : Cx} {pins : List (Addr × Obj)} {σ : L2.St} {H : Hp} {s : Shared} {a : Addr} {u : HO}
theorem Inv.freeze (I : Inv X pins σ H s) (e : H a = some u) (hu : canFrz u = true) : ∃ o, Inv X pins σ (upd H a (.frz o u)) s := by
  obtain ⟨o, ho⟩ := objOk_get (I.hok a u e)
  have ne : ∀ b z, H b = some z → canFrz z = false → b ≠ a := fun b z hb hz q => by
    subst q; rw [e] at hb; cases hb; rw [hu] at hz; cases hz
  have own : ∀ b c, H b = some (.own c) → upd H a (.frz o u) b = some (.own c) := fun b c hb => by rw [upd_ne (ne b _ hb rfl)]; exact hb
  have tup : ∀ b c, H b = some (.tup c) → upd H a (.frz o u) b = some (.tup c) := fun b c hb => by rw [upd_ne (ne b _ hb rfl)]; exact hb
  have off : ∀ b, H b = none → upd H a (.frz o u) b = none := fun b hb => by rw [upd_ne (fun q => by subst q; rw [e] at hb; cases hb)]; exact hb
  refine ⟨o, I.ok, I.os, I.bare, ⟨I.base.keep, I.base.slot, fun b ob q n hx => off b (I.base.free b ob q n hx), I.base.there, fun b xs q => tup b xs (I.base.tups b xs q), fun b ob z q => ?_, fun b ps q => ?_⟩, I.loc, I.cell, off _ I.free, fun x c hx => off _ (I.freeC x c hx), fun p hp => ?_, fun b z hz => ?_, I.len⟩
  · have h1 := I.base.frzs b ob z q
    rw [upd_ne (ne b _ h1 rfl)]; exact h1
  · obtain ⟨more, h1⟩ := I.base.tbls b ps q
    exact ⟨more, by rw [upd_ne (ne b _ h1 rfl)]; exact h1⟩
  · obtain ⟨h1, h2, h3⟩ := I.pin p hp
    exact ⟨h1, off _ h2, h3⟩
  · by_cases hb : b = a
    · subst hb
      rw [upd_same] at hz
      cases hz
      refine ⟨ho, (I.hok b u e).stay (fun _ _ _ h => h) (fun c hc => own c b hc) tup⟩
    · rw [upd_ne hb] at hz
      exact (I.hok b z hz).stay (fun _ _ _ h => h) (fun c hc => own c b hc) tup
/-- an expression whose value is frozen behind it -/
theorem pe_frz {x : Expr} {t : TE} (h : PE X x t) : PE X x (fun σ H Q => t σ H fun v H1 => Q v H1 ∨ ∃ a u, v = .ref a ∧ H1 a = some u ∧ canFrz u = true ∧ ∀ o, Q v (upd H1 a (.frz o u))) := by
  constructor
  intro pins s σ H Q I q
  refine thn (h.run pins s σ H _ I q) fun u s1 ⟨v, H1, I1, r, z⟩ => ?_
  rcases z with z | ⟨a, w, rfl, e, hu, z⟩
  · exact ⟨v, H1, I1, r, z⟩
  · obtain ⟨o, I2⟩ := Inv.freeze I1 e hu
    exact ⟨_, _, I2, r, z o⟩
end
/-! ### the end of a law -/
section
end
/-! ### range of any size -/
section
theorem turn_long {P : Program} {w : World} {K : PySem.W.Frag} {tg : Expr} (it : Addr) (lo : Int) (n : Nat) : Turn P w K tg (Itr lo n) [it] it (fun i h => IsLongIter h it (lo + (i : Nat) * 1) ((n : Int) - (i : Nat)) 1) := by
  have one : ∀ b ∈ [it], b = it := fun b hb => by simpa using hb
  refine ⟨by simp, fun i h st b hb => ?_, fun i h h' st k => k it (by simp) _ st, ?_, ?_, fun _ _ _ _ _ st h => wpAny_pyIter_longiter st h⟩
  · obtain rfl := one b hb
    refine ⟨_, st, fun v z => ?_⟩
    cases (show Data.fields _ = Data.cell v from z)
  · intro X hP hw hK hc i pins s σ H E I hf st hg
    subst hP hw hK
    obtain ⟨f0, f1, f2, f3, f4, f5⟩ := hf it (by simp)
    have hg' : i < n := hg
    refine wpAny_pyNext_long_item st (by omega) fun h' st' sb => ?_
    have I1 : Inv X pins σ H { s with heap := h', toks := s.toks + 1 } := I.turned (fun b o hb e => (sb.2 b hb).trans e) f0 f1 f3 f4 f5
    have e1 : lo + (i : Nat) * 1 + 1 = lo + ((i + 1 : Nat) : Int) * 1 := by omega
    have e2 : (n : Int) - (i : Nat) - 1 = (n : Int) - ((i + 1 : Nat) : Int) := by omega
    rw [e1, e2] at st'
    refine ⟨_, rfl, go_of (s := { s with heap := h', toks := s.toks + 1 }) (n := "longrange_iterator") st' rfl rfl (by decide) ⟨.int (lo + i), H, I1, ⟨s.toks, ?_⟩, ⟨rfl, rfl⟩, st', fun b hb => (hf b hb).1⟩⟩
    rw [Int.mul_one]
  · intro X hP hw hK hc i pins s σ H E I hf st hg
    subst hP hw hK
    obtain ⟨f0, f1, f2, f3, f4, f5⟩ := hf it (by simp)
    exact wpAny_pyNext_long_end (I.ok.hd hc) st (by have : n ≤ i := hg; omega) fun h' eb => ⟨rfl, I.turned (t' := s.toks) (fun b o hb e => eb b o hb e) f0 f1 f3 f4 f5⟩
variable {X : Cx} {tg : Expr}
theorem range_itA {pins : List (Addr × Obj)} {σ : L2.St} {H : Hp} {s : Shared} {R : It → Hp → Prop} {E : Value → Shared → Prop} {lo hi : Int} {t u v : Tok} {tk : Nat} (I : Inv X pins σ H s) (q : R (Itr lo (hi - lo).toNat) H) :
    wpAny (model X.prog X.w) X.A (pyIter (.ref s.heap.objs.size)) (PIE X pins σ tg R) E { s with heap := s.heap.push { cls := .type "range", data := .fields #[.int lo t, .int hi u, .int 1 v] }, toks := tk } := by
  let g := s.heap.push { cls := .type "range", data := .fields #[.int lo t, .int hi u, .int 1 v] }
  have I1 : Inv X pins σ H { s with heap := g, toks := tk } := I.kept fun b o e => Heap.get?_push_of_some _ e
  have e1 : lo + ((0 : Nat) : Int) * 1 = lo := by simp
  have e2 : (((hi - lo).toNat : Nat) : Int) - ((0 : Nat) : Int) = Builtin.Range.rangeSize lo hi 1 := by rw [rangeSize_one]; split <;> omega
  have fresh : ∀ b ∈ [g.objs.size], FpOk X pins H b := fun b hb => by
    obtain rfl : b = g.objs.size := by simpa using hb
    exact I1.fpOk (Nat.le_refl _) (I1.hok.fresh (Nat.le_refl _))
  cases hs : Builtin.Range.small lo hi 1 with
  | true =>
    refine wpAny_pyIter_range (IsRange.new ..) hs ⟨g.objs.size, [g.objs.size], _, _, H, rfl, I1.kept (t' := tk) fun b o e => Heap.get?_push_of_some _ e, turn_range _ lo (hi - lo).toNat, ?_, fresh, q⟩
    show IsRangeIter _ _ (lo + ((0 : Nat) : Int) * 1) ((((hi - lo).toNat : Nat) : Int) - ((0 : Nat) : Int)) 1
    rw [e1, e2]
    exact Heap.get?_push_size _ rfl
  | false =>
    refine wpAny_pyIter_longrange (IsRange.new ..) hs ⟨g.objs.size, [g.objs.size], _, _, H, rfl, I1.kept (t' := tk) fun b o e => Heap.get?_push_of_some _ e, turn_long _ lo (hi - lo).toNat, ?_, fresh, q⟩
    show IsLongIter _ _ (lo + ((0 : Nat) : Int) * 1) ((((hi - lo).toNat : Nat) : Int) - ((0 : Nat) : Int)) 1
    rw [e1, e2]
    exact Heap.get?_push_size _ rfl
def iRngA1 (ta : TA) : TI := fun σ H R => ta σ H fun vs H1 => ∃ j : Int, vs = [.int j] ∧ R (Itr 0 j.toNat) H1
theorem pi_rangeA1 {a : Expr} {ta : TA} {p pos : Pos} (hg : Gl X "range") (hm : X.mg "range" = none) (ha : PA X [a] ta) (hs : starEach [a] X.env = [(false, eval a X.env)] := by rfl) : PI X tg (.Call (.Name "range" p) [a] [] pos) (iRngA1 ta) := by
  constructor
  intro pins s σ H R I h
  refine Call_ (ld_blt I hg hm boot_range (PyProof.Rows.callWith_type1 (thn (ha.run pos pins s σ H _ I h) fun us s1 ⟨vs, H1, I1, r1, j, e, q⟩ => ?_) hs rfl))
  subst e
  cases r1 with
  | cons r rr =>
    cases rr
    obtain ⟨t, rfl⟩ := r
    exact call_range_1 (range_itA I1 (by simpa using q))
end
end VD

/-! data by value: tuples are plain data, lists and instances stand in a store -/
namespace VD
open PySem PySem.Spec PyProof.Rows L2

inductive Dv where
  | non | bl (b : Bool) | int (i : Int) | str (x : Str) | ty (n : String) | ref (a : Addr) | tup (ds : List Dv) | rol (ds : List Dv)
  /-- a dict by value, an instance by value -/
  | rod (ks : List Key) (ds : List Dv) | obj (C : Addr) (ns : List Str) (ds : List Dv)
instance : Inhabited Dv := ⟨.non⟩

/-- what stands at a stored address -/
inductive MO where
  | lst (ds : List Dv) | dK (kvs : List (Key × Dv)) | ins (C dx : Addr) (fs : List (Str × Dv)) | xd (fs : List (Str × Dv))
  /-- a table of code objects, a code object -/
  | tab | cod (σ : L2.St) (ρ : List (Option Dv))
  /-- an exception object that is held as a value: its class, its dict -/
  | ex (cls : Value) (d : Option Addr)
/-- the name of the lambdas of a law -/
def qLam : Str := ("law" : Str) ++ ".<locals>." ++ "<lambda>"
/-- the exception object at a -/
def ExV (cls : Value) (d : Option Addr) (a : Addr) : HO := .ext fun h => ∃ (oe : Obj) (vs : Array Value), h.get? a = some oe ∧ Zc cls d oe ∧ oe.data = .fields vs
abbrev Sto := Addr → Option MO
abbrev Rho := List (Option Dv)
def put (S : Sto) (a : Addr) (m : MO) : Sto := fun b => if b = a then some m else S b
theorem put_same {S : Sto} {a : Addr} {m : MO} : put S a m a = some m := by unfold put; rw [if_pos rfl]
theorem put_ne {S : Sto} {a b : Addr} {m : MO} (h : b ≠ a) : put S a m b = S b := by unfold put; rw [if_neg h]
theorem put_put {S : Sto} {a : Addr} {m n : MO} : put (put S a m) a n = put S a n := by
  funext b; unfold put; split <;> rfl
theorem put_comm {S : Sto} {a b : Addr} {m n : MO} (h : a ≠ b) : put (put S a m) b n = put (put S b n) a m := by
  funext c; unfold put; by_cases h1 : c = b <;> by_cases h2 : c = a <;> simp [h1, h2] <;> simp_all
theorem put_self {S : Sto} {a : Addr} {m : MO} (h : S a = some m) : put S a m = S := by
  funext b; unfold put; split
  · rename_i e; rw [e, h]
  · rfl
theorem ne_of {S : Sto} {a b : Addr} {m : MO} (h : S a = some m) (h' : S b = none) : a ≠ b := by
  intro e; rw [e, h'] at h; cases h
/-- less is known -/
def Sub (S T : Sto) : Prop := ∀ a m, S a = some m → T a = some m
theorem Sub.refl (S : Sto) : Sub S S := fun _ _ h => h
theorem Sub.trans {S T U : Sto} (h : Sub S T) (g : Sub T U) : Sub S U := fun a m e => g a m (h a m e)
theorem Sub.new {S : Sto} {a : Addr} {m : MO} (h : S a = none) : Sub S (put S a m) := fun b n e => by
  rw [put_ne (ne_of e h)]; exact e
theorem Sub.put {S T : Sto} {a : Addr} {m : MO} (h : Sub S T) : Sub (put S a m) (put T a m) := fun b n e => by
  unfold VD.put at e ⊢
  split
  · rename_i q; rw [if_pos q] at e; exact e
  · rename_i q; rw [if_neg q] at e; exact h _ _ e

/-- a store without the object at p -/
def rm (S : Sto) (p : Addr) : Sto := fun b => if b = p then none else S b
theorem rm_same {S : Sto} {p : Addr} : rm S p p = none := if_pos rfl
theorem rm_ne {S : Sto} {p b : Addr} (h : b ≠ p) : rm S p b = S b := if_neg h
theorem rm_put {S : Sto} {p : Addr} {m : MO} (h : S p = none) : rm (put S p m) p = S := by
  funext b
  unfold rm put
  split
  · rename_i e; rw [e, h]
  · rfl
section
variable (K : PySem.W.Frag) (H : Hp)
mutual
inductive Rep : V → Dv → Prop
  | non : Rep .non .non
  | bl (b : Bool) : Rep (.bl b) (.bl b)
  | int (i : Int) : Rep (.int i) (.int i)
  | str (x : Str) : Rep (.str x) (.str x)
  | ty (n : String) : Rep (.ty n) (.ty n)
  | ref (a : Addr) : Rep (.ref a) (.ref a)
  | tup {a : Addr} {xs : List V} {ds : List Dv} : SqT K H a xs → RepL xs ds → Rep (.ref a) (.tup ds)
  | rol {a : Addr} {xs : List V} {ds : List Dv} : CL K H a xs → RepL xs ds → Rep (.ref a) (.rol ds)
  | rod {a : Addr} {o : Obj} {ks : List Key} {vs : List V} {ds : List Dv} : H a = some (.frz o (.dK (ks.zip vs))) → ks.length = vs.length → RepL vs ds → Rep (.ref a) (.rod ks ds)
  | obj {a C dx : Addr} {o : Obj} {ns : List Str} {vs : List V} {ds : List Dv} : H a = some (.frz o (.ins C dx (ns.zip vs))) → ns.length = vs.length → RepL vs ds → Rep (.ref a) (.obj C ns ds)
inductive RepL : List V → List Dv → Prop
  | nil : RepL [] []
  | cons {v : V} {vs : List V} {d : Dv} {ds : List Dv} : Rep v d → RepL vs ds → RepL (v :: vs) (d :: ds)
end
end
section
variable {K : PySem.W.Frag} {H H' H1 H2 : Hp}
/-- tuples stay -/
structure Tk (K : PySem.W.Frag) (H H' : Hp) : Prop where
  t : ∀ a xs, SqT K H a xs → SqT K H' a xs
  c : ∀ a xs, CL K H a xs → CL K H' a xs
  f : ∀ a o u, H a = some (.frz o u) → H' a = some (.frz o u)
  x : ∀ a φ, H a = some (.ext φ) → H' a = some (.ext φ)
  b : ∀ P, LamX.TabS H P qLam → LamX.TabS H' P qLam
theorem Tk.refl (H : Hp) : Tk K H H := ⟨fun _ _ h => h, fun _ _ h => h, fun _ _ _ h => h, fun _ _ h => h, fun _ h => h⟩
theorem Tk.trans (h : Tk K H H1) (g : Tk K H1 H2) : Tk K H H2 := ⟨fun a xs e => g.t a xs (h.t a xs e), fun a xs e => g.c a xs (h.c a xs e), fun a o u e => g.f a o u (h.f a o u e), fun a φ e => g.x a φ (h.x a φ e), fun P e => g.b P (h.b P e)⟩
/-- what may be written anew -/
def Wr (o : HO) : Prop := ((∀ xs, o ≠ .tup xs) ∧ (∀ ob u, o ≠ .frz ob u)) ∧ (∀ φ, o ≠ .ext φ) ∧ ∀ ps, o ≠ .tbl ps
theorem Tk.of (h : ∀ a o, H a = some o → Wr o ∨ H' a = some o) : Tk K H H' := by
  have hf : ∀ a ob u, H a = some (.frz ob u) → H' a = some (.frz ob u) := fun a ob u e => by
    rcases h _ _ e with ⟨⟨_, q⟩, _⟩ | q
    · exact absurd rfl (q _ _)
    · exact q
  have hx : ∀ a φ, H a = some (.ext φ) → H' a = some (.ext φ) := fun a φ e => by
    rcases h _ _ e with ⟨_, q, _⟩ | q
    · exact absurd rfl (q _)
    · exact q
  refine ⟨fun a xs e => ?_, fun a xs e => ?_, hf, hx, fun P ⟨ps, h1, h2, h3⟩ => ?_⟩
  · rcases e with (e | ⟨o, e⟩) | e
    · rcases h _ _ e with ⟨⟨q, _⟩, _⟩ | q
      · exact absurd rfl (q xs)
      · exact .inl (.inl q)
    · exact .inl (.inr ⟨o, hf _ _ _ e⟩)
    · exact .inr e
  · rcases e with ⟨o, e⟩ | e
    · exact .inl ⟨o, hf _ _ _ e⟩
    · exact .inr e
  · refine ⟨ps, ?_, h2, fun pos cv hc => ?_⟩
    · rcases h _ _ h1 with ⟨_, _, z⟩ | z
      · exact absurd rfl (z _)
      · exact z
    · obtain ⟨c, e1, e2⟩ := h3 pos cv hc
      exact ⟨c, e1, hx _ _ e2⟩
theorem Tk.new {p : Addr} {o : HO} (h : H p = none) : Tk K H (upd H p o) := Tk.of fun a u e => .inr (by rw [upd_ne (ne_of_none e h)]; exact e)
theorem Tk.same (h : Same H H') : Tk K H H' := Tk.of fun a u e => .inr (h a u e)
theorem Tk.write {p : Addr} {o u : HO} (h : H p = some u) (q : Wr u) : Tk K H (upd H p o) := Tk.of fun a x e => by
  by_cases z : a = p
  · subst z; rw [h] at e; cases e; exact .inl q
  · exact .inr (by rw [upd_ne z]; exact e)
mutual
theorem Rep.mono (t : Tk K H H') : ∀ {v : V} {d : Dv}, Rep K H v d → Rep K H' v d
  | _, _, .non => .non
  | _, _, .bl b => .bl b
  | _, _, .int b => .int b
  | _, _, .str b => .str b
  | _, _, .ty b => .ty b
  | _, _, .ref b => .ref b
  | _, _, .tup h l => .tup (t.t _ _ h) (RepL.mono t l)
  | _, _, .rol h l => .rol (t.c _ _ h) (RepL.mono t l)
  | _, _, .rod h e l => .rod (t.f _ _ _ h) e (RepL.mono t l)
  | _, _, .obj h e l => .obj (t.f _ _ _ h) e (RepL.mono t l)
theorem RepL.mono (t : Tk K H H') : ∀ {vs : List V} {ds : List Dv}, RepL K H vs ds → RepL K H' vs ds
  | _, _, .nil => .nil
  | _, _, .cons h l => .cons (Rep.mono t h) (RepL.mono t l)
end
theorem RepL.length : ∀ {vs : List V} {ds : List Dv}, RepL K H vs ds → vs.length = ds.length
  | _, _, .nil => rfl
  | _, _, .cons _ l => congrArg (· + 1) (RepL.length l)
theorem RepL.get : ∀ {vs : List V} {ds : List Dv} {i : Nat} {d : Dv}, RepL K H vs ds → ds[i]? = some d → ∃ v, vs[i]? = some v ∧ Rep K H v d
  | _, _, _, _, .nil, e => by simp at e
  | _, _, 0, _, .cons h _, e => by simp at e; subst e; exact ⟨_, rfl, h⟩
  | _, _, i + 1, d, .cons _ l, e => by
    obtain ⟨v, h1, h2⟩ := RepL.get (i := i) (d := d) l (by simpa using e)
    exact ⟨v, by simpa using h1, h2⟩
theorem RepL.append : ∀ {vs : List V} {ds : List Dv} {us : List V} {es : List Dv}, RepL K H vs ds → RepL K H us es → RepL K H (vs ++ us) (ds ++ es)
  | _, _, _, _, .nil, q => q
  | _, _, _, _, .cons h l, q => .cons h (RepL.append l q)
theorem RepL.take : ∀ {vs : List V} {ds : List Dv} (n : Nat), RepL K H vs ds → RepL K H (vs.take n) (ds.take n)
  | _, _, 0, _ => .nil
  | _, _, _ + 1, .nil => .nil
  | _, _, n + 1, .cons h l => .cons h (RepL.take n l)
theorem RepL.drop : ∀ {vs : List V} {ds : List Dv} (n : Nat), RepL K H vs ds → RepL K H (vs.drop n) (ds.drop n)
  | _, _, 0, q => q
  | _, _, _ + 1, .nil => .nil
  | _, _, n + 1, .cons _ l => RepL.drop n l
theorem RepL.set : ∀ {vs : List V} {ds : List Dv} {v : V} {d : Dv} (n : Nat), RepL K H vs ds → Rep K H v d → RepL K H (vs.set n v) (ds.set n d)
  | _, _, _, _, _, .nil, _ => .nil
  | _, _, _, _, 0, .cons _ l, q => .cons q l
  | _, _, _, _, n + 1, .cons h l, q => .cons h (RepL.set n l q)
theorem RepL.rep {vs : List V} {ds : List Dv} (h : RepL K H vs ds) : ∀ k : Nat, RepL K H (List.replicate k vs).flatten (List.replicate k ds).flatten
  | 0 => .nil
  | k + 1 => by
    rw [List.replicate_succ, List.replicate_succ, List.flatten_cons, List.flatten_cons]
    exact h.append (RepL.rep h k)
theorem RepL.nil_iff {vs : List V} {ds : List Dv} (h : RepL K H vs ds) : vs = [] ↔ ds = [] := by
  cases h <;> simp
/-! inversions -/
theorem Rep.i_non {v : V} (h : Rep K H v .non) : v = .non := by cases h; rfl
theorem Rep.i_bl {v : V} {b : Bool} (h : Rep K H v (.bl b)) : v = .bl b := by cases h; rfl
theorem Rep.i_int {v : V} {b : Int} (h : Rep K H v (.int b)) : v = .int b := by cases h; rfl
theorem Rep.i_str {v : V} {b : Str} (h : Rep K H v (.str b)) : v = .str b := by cases h; rfl
theorem Rep.i_ty {v : V} {b : String} (h : Rep K H v (.ty b)) : v = .ty b := by cases h; rfl
theorem Rep.i_ref {v : V} {b : Addr} (h : Rep K H v (.ref b)) : v = .ref b := by cases h; rfl
theorem Rep.i_tup {v : V} {ds : List Dv} (h : Rep K H v (.tup ds)) : ∃ a xs, v = .ref a ∧ SqT K H a xs ∧ RepL K H xs ds := by
  cases h with | tup h l => exact ⟨_, _, rfl, h, l⟩
theorem Rep.i_rol {v : V} {ds : List Dv} (h : Rep K H v (.rol ds)) : ∃ a xs, v = .ref a ∧ CL K H a xs ∧ RepL K H xs ds := by
  cases h with | rol h l => exact ⟨_, _, rfl, h, l⟩
theorem Rep.i_rod {v : V} {ks : List Key} {ds : List Dv} (h : Rep K H v (.rod ks ds)) : ∃ a o vs, v = .ref a ∧ H a = some (.frz o (.dK (ks.zip vs))) ∧ ks.length = vs.length ∧ RepL K H vs ds := by
  cases h with | rod h e l => exact ⟨_, _, _, rfl, h, e, l⟩
theorem RepL.ints : ∀ {vs : List V} {ns : List Int}, RepL K H vs (ns.map Dv.int) → vs = ns.map V.int
  | _, [], .nil => rfl
  | _, _ :: _, .cons h l => by rw [h.i_int, RepL.ints l]; rfl
theorem RepL.of_ints : ∀ (ns : List Int), RepL K H (ns.map V.int) (ns.map Dv.int)
  | [] => .nil
  | i :: r => .cons (.int i) (RepL.of_ints r)
theorem RepL.cons_i {vs : List V} {d : Dv} {ds : List Dv} (h : RepL K H vs (d :: ds)) : ∃ v r, vs = v :: r ∧ Rep K H v d ∧ RepL K H r ds := by
  cases h with | cons h l => exact ⟨_, _, rfl, h, l⟩
theorem RepL.nil_i {vs : List V} (h : RepL K H vs []) : vs = [] := by cases h; rfl

end
structure RepS (K : PySem.W.Frag) (H : Hp) (σ : L2.St) (ρ : Rho) : Prop where
  len : σ.length = ρ.length
  at_ : ∀ (i : Nat) (d : Dv), ρ[i]? = some (some d) → ∃ v, σ[i]? = some (some v) ∧ Rep K H v d
section
variable {K : PySem.W.Frag} {H H' H1 H2 : Hp} {σ : L2.St} {ρ : Rho}
theorem RepS.mono (t : Tk K H H') (h : RepS K H σ ρ) : RepS K H' σ ρ := ⟨h.len, fun i d e => by
  obtain ⟨v, h1, h2⟩ := h.at_ i d e
  exact ⟨v, h1, h2.mono t⟩⟩
end
section
variable {K : PySem.W.Frag} {H H' H1 H2 : Hp}
/-! the store -/
def RepF (K : PySem.W.Frag) (H : Hp) : List (Str × V) → List (Str × Dv) → Prop := Paired fun p q => p.1 = q.1 ∧ Rep K H p.2 q.2
def RepK (K : PySem.W.Frag) (H : Hp) : List (Key × V) → List (Key × Dv) → Prop := Paired fun p q => p.1 = q.1 ∧ Rep K H p.2 q.2
theorem RepF.mono (t : Tk K H H') {gs : List (Str × V)} {fs : List (Str × Dv)} (h : RepF K H gs fs) : RepF K H' gs fs := Paired.mapP h fun _ _ q => ⟨q.1, q.2.mono t⟩
theorem RepK.mono (t : Tk K H H') {gs : List (Key × V)} {fs : List (Key × Dv)} (h : RepK K H gs fs) : RepK K H' gs fs := Paired.mapP h fun _ _ q => ⟨q.1, q.2.mono t⟩
def RepO (K : PySem.W.Frag) (H : Hp) (a : Addr) : MO → Prop
  | .lst ds => ∃ xs, H a = some (.lst xs) ∧ RepL K H xs ds
  | .dK kvs => ∃ gs, H a = some (.dK gs) ∧ RepK K H gs kvs
  | .ins C dx fs => ∃ gs, H a = some (.ins C dx gs) ∧ RepF K H gs fs
  | .xd fs => ∃ gs, H a = some (.xd gs) ∧ RepF K H gs fs
  | .tab => LamX.TabS H a qLam
  | .cod σ ρ => H a = some (LamX.CodeO a qLam) ∧ RepS K H σ ρ
  | .ex cls d => H a = some (ExV cls d a)
theorem RepO.mono (t : Tk K H H') {a : Addr} {m : MO} (e : ∀ o, H a = some o → H' a = some o) (h : RepO K H a m) : RepO K H' a m := by
  cases m with
  | lst ds => obtain ⟨gs, h1, h2⟩ := h; exact ⟨gs, e _ h1, h2.mono t⟩
  | dK kvs => obtain ⟨gs, h1, h2⟩ := h; exact ⟨gs, e _ h1, h2.mono t⟩
  | ins C dx fs => obtain ⟨gs, h1, h2⟩ := h; exact ⟨gs, e _ h1, h2.mono t⟩
  | xd fs => obtain ⟨gs, h1, h2⟩ := h; exact ⟨gs, e _ h1, h2.mono t⟩
  | tab => exact t.b _ h
  | cod σ ρ => exact ⟨t.x _ _ h.1, h.2.mono t⟩
  | ex cls d => exact e _ h
theorem RepO.mlst {a : Addr} {xs : List V} {ds : List Dv} (h : H a = some (.lst xs)) (r : RepL K H xs ds) : RepO K H a (.lst ds) := ⟨xs, h, r⟩
theorem RepO.mdK {a : Addr} {gs : List (Key × V)} {kvs : List (Key × Dv)} (h : H a = some (.dK gs)) (r : RepK K H gs kvs) : RepO K H a (.dK kvs) := ⟨gs, h, r⟩
theorem RepO.mxd {a : Addr} {gs : List (Str × V)} {fs : List (Str × Dv)} (h : H a = some (.xd gs)) (r : RepF K H gs fs) : RepO K H a (.xd fs) := ⟨gs, h, r⟩
theorem wr_lst {ys : List V} : Wr (HO.lst ys) := by refine ⟨⟨?_, ?_⟩, ?_, ?_⟩ <;> intros <;> intro h <;> cases h
theorem wr_dK {ys : List (Key × V)} : Wr (HO.dK ys) := by refine ⟨⟨?_, ?_⟩, ?_, ?_⟩ <;> intros <;> intro h <;> cases h
theorem RepO.there {a : Addr} {m : MO} (h : RepO K H a m) : ∃ o, H a = some o := by
  cases m with
  | lst ds => obtain ⟨gs, h1, h2⟩ := h; exact ⟨_, h1⟩
  | dK kvs => obtain ⟨gs, h1, h2⟩ := h; exact ⟨_, h1⟩
  | ins C dx fs => obtain ⟨gs, h1, h2⟩ := h; exact ⟨_, h1⟩
  | xd fs => obtain ⟨gs, h1, h2⟩ := h; exact ⟨_, h1⟩
  | tab => obtain ⟨ps, h1, _⟩ := h; exact ⟨_, h1⟩
  | cod σ ρ => exact ⟨_, h.1⟩
  | ex cls d => exact ⟨_, h⟩
def Abs (K : PySem.W.Frag) (H : Hp) (S : Sto) : Prop := ∀ a m, S a = some m → RepO K H a m
theorem Abs.sub {S T : Sto} (h : Abs K H T) (s : Sub S T) : Abs K H S := fun a m e => h a m (s a m e)
theorem Abs.free {S : Sto} (h : Abs K H S) {p : Addr} (n : H p = none) : S p = none := by
  cases e : S p with
  | none => rfl
  | some m =>
    obtain ⟨o, q⟩ := (h p m e).there
    rw [n] at q; cases q
theorem Abs.new {S : Sto} {p : Addr} {o : HO} {m : MO} (h : Abs K H S) (n : H p = none) (q : RepO K (upd H p o) p m) : Abs K (upd H p o) (put S p m) := fun a k e => by
  by_cases z : a = p
  · subst z; rw [put_same] at e; cases e; exact q
  · rw [put_ne z] at e
    exact (h a k e).mono (Tk.new n) fun u hu => by rw [upd_ne z]; exact hu
theorem Abs.tup {S : Sto} {p : Addr} {o : HO} (h : Abs K H S) (n : H p = none) : Abs K (upd H p o) S := fun a k e =>
  (h a k e).mono (Tk.new n) fun u hu => by rw [upd_ne (ne_of_none hu n)]; exact hu
theorem Abs.write {S : Sto} {p : Addr} {o u : HO} {m : MO} (h : Abs K H S) (e : H p = some u) (q : Wr u) (r : RepO K (upd H p o) p m) : Abs K (upd H p o) (put S p m) := fun a k ek => by
  by_cases z : a = p
  · subst z; rw [put_same] at ek; cases ek; exact r
  · rw [put_ne z] at ek
    exact (h a k ek).mono (Tk.write e q) fun v hv => by rw [upd_ne z]; exact hv
/-- what is stored is in the heap or in the written part -/
theorem Abs.same {S : Sto} (h : Abs K H S) (e : Same H H') : Abs K H' S := fun a m q => (h a m q).mono (Tk.same e) (e a)
end

/-! slots -/
section
variable {K : PySem.W.Frag} {H H' : Hp} {σ : L2.St} {ρ : Rho}
theorem RepS.set {v : V} {d : Dv} (h : RepS K H σ ρ) (i : Nat) (r : Rep K H v d) : RepS K H (σ.set i (some v)) (ρ.set i (some d)) := by
  refine ⟨by simp [h.len], fun j e q => ?_⟩
  by_cases hj : i = j
  · subst hj
    by_cases hl : i < ρ.length
    · rw [List.getElem?_set_self hl] at q
      cases q
      exact ⟨v, List.getElem?_set_self (by rw [h.len]; exact hl), r⟩
    · rw [List.getElem?_eq_none (by simp; omega)] at q; cases q
  · rw [List.getElem?_set_ne hj] at q ⊢
    exact h.at_ j e q
theorem RepS.setN (h : RepS K H σ ρ) (i : Nat) : RepS K H (σ.set i none) (ρ.set i none) := by
  refine ⟨by simp [h.len], fun j e q => ?_⟩
  by_cases hj : i = j
  · subst hj
    by_cases hl : i < ρ.length
    · rw [List.getElem?_set_self hl] at q; cases q
    · rw [List.getElem?_eq_none (by simp; omega)] at q; cases q
  · rw [List.getElem?_set_ne hj] at q ⊢
    exact h.at_ j e q
def wipeD (ρ : Rho) : List Nat → Rho
  | [] => ρ
  | v :: vs => (wipeD ρ vs).set v none
theorem RepS.wipe (h : RepS K H σ ρ) : ∀ vs, RepS K H (wipe σ vs) (wipeD ρ vs)
  | [] => h
  | v :: vs => (RepS.wipe h vs).setN v
def startD (N : List Str) (ds : List Dv) : Rho := ds.map some ++ List.replicate (N.length - ds.length) none
theorem RepS.start {N : List Str} : ∀ {vs : List V} {ds : List Dv}, RepL K H vs ds → RepS K H (start N vs) (startD N ds) := fun {vs ds} r => by
  have hl := r.length
  refine ⟨by simp [L2.start, startD, hl], fun i d e => ?_⟩
  unfold startD at e
  unfold L2.start
  by_cases hi : i < ds.length
  · rw [List.getElem?_append_left (by simpa using hi), List.getElem?_map] at e
    obtain ⟨d', e1, e2⟩ : ∃ d', ds[i]? = some d' ∧ d' = d := by
      cases q : ds[i]? with
      | none => rw [q] at e; cases e
      | some d' => rw [q] at e; cases e; exact ⟨_, rfl, rfl⟩
    subst e2
    obtain ⟨v, h1, h2⟩ := r.get e1
    exact ⟨v, by rw [List.getElem?_append_left (by simp; omega), List.getElem?_map, h1]; rfl, h2⟩
  · rw [List.getElem?_append_right (by simpa using hi)] at e
    rw [List.getElem?_replicate] at e
    split at e <;> cases e
end
end VD

namespace VD
open PySem PySem.Spec PyProof.Rows L2

abbrev QD := Dv → Sto → Prop
abbrev XD := Value → Option Addr → Sto → Prop
abbrev DE := Rho → Sto → QD → XD → Prop
abbrev DT := Rho → Sto → (Bool → Sto → Prop) → XD → Prop
abbrev DA := Rho → Sto → (List Dv → Sto → Prop) → XD → Prop
abbrev DO := Rho → Sto → (Option Int → Sto → Prop) → XD → Prop
structure DEnds where
  nx : Rho → Sto → Prop
  rt : Dv → Sto → Prop
  bk : Rho → Sto → Prop := fun _ _ => False
  ct : Rho → Sto → Prop := fun _ _ => False
  ex : Value → Option Addr → Rho → Sto → Prop := fun _ _ _ _ => False
abbrev DS := DEnds → Rho → Sto → Prop
abbrev W0 : WX := fun _ _ _ _ => False
abbrev X0 : XD := fun _ _ _ => False

section
variable (K : PySem.W.Frag) (W : WX)
def Lk (H : Hp) (Qh : QD) (Q : VK) : Prop := ∀ d S' v H', Qh d S' → Tk K H H' → Rep K H' v d → Abs K H' S' → Q v H'
def LkT (H : Hp) (Qh : Bool → Sto → Prop) (Q : Bool → Hp → Prop) : Prop := ∀ b S' H', Qh b S' → Tk K H H' → Abs K H' S' → Q b H'
def LkA (H : Hp) (Qh : List Dv → Sto → Prop) (Q : List V → Hp → Prop) : Prop := ∀ ds S' vs H', Qh ds S' → Tk K H H' → RepL K H' vs ds → Abs K H' S' → Q vs H'
def LkO (H : Hp) (Qh : Option Int → Sto → Prop) (Q : Option Int → Hp → Prop) : Prop := ∀ o S' H', Qh o S' → Tk K H H' → Abs K H' S' → Q o H'
def LkG (H : Hp) (Qh : Rho → Sto → Prop) (Q : L2.St → Hp → Prop) : Prop := ∀ ρ' S' σ' H', Qh ρ' S' → Tk K H H' → RepS K H' σ' ρ' → Abs K H' S' → Q σ' H'
def Lx (σ : L2.St) (H : Hp) (Xh : XD) : Prop := ∀ c da S' H', Xh c da S' → Tk K H H' → Abs K H' S' → W c da σ H'
structure LkS (H : Hp) (Dh : DEnds) (D : Ends) : Prop where
  nx : LkG K H Dh.nx D.nx
  rt : Lk K H Dh.rt D.rt
  bk : LkG K H Dh.bk D.bk
  ct : LkG K H Dh.ct D.ct
  ex : ∀ c da, LkG K H (Dh.ex c da) (W c da)
def low (de : DE) : TE := fun σ H Q => ∃ ρ S Qh Xh, RepS K H σ ρ ∧ Abs K H S ∧ de ρ S Qh Xh ∧ Lk K H Qh Q ∧ Lx K W σ H Xh
def lowT (dt : DT) : TT := fun σ H Q => ∃ ρ S Qh Xh, RepS K H σ ρ ∧ Abs K H S ∧ dt ρ S Qh Xh ∧ LkT K H Qh Q ∧ Lx K W σ H Xh
def lowA (da : DA) : TA := fun σ H Q => ∃ ρ S Qh Xh, RepS K H σ ρ ∧ Abs K H S ∧ da ρ S Qh Xh ∧ LkA K H Qh Q ∧ Lx K W σ H Xh
def lowS (ds : DS) : TS := fun D σ H => ∃ ρ S Dh, RepS K H σ ρ ∧ Abs K H S ∧ ds Dh ρ S ∧ LkS K W H Dh D
end
section
variable {K : PySem.W.Frag} {W : WX} {H H1 : Hp} {σ : L2.St}
theorem Lk.mono {Qh : QD} {Q : VK} (k : Lk K H Qh Q) (t : Tk K H H1) : Lk K H1 Qh Q := fun d S v H' q t' => k d S v H' q (t.trans t')
theorem LkT.mono {Qh : Bool → Sto → Prop} {Q : Bool → Hp → Prop} (k : LkT K H Qh Q) (t : Tk K H H1) : LkT K H1 Qh Q := fun d S H' q t' => k d S H' q (t.trans t')
theorem LkA.mono {Qh : List Dv → Sto → Prop} {Q : List V → Hp → Prop} (k : LkA K H Qh Q) (t : Tk K H H1) : LkA K H1 Qh Q := fun d S v H' q t' => k d S v H' q (t.trans t')
theorem LkO.mono {Qh : Option Int → Sto → Prop} {Q : Option Int → Hp → Prop} (k : LkO K H Qh Q) (t : Tk K H H1) : LkO K H1 Qh Q := fun d S H' q t' => k d S H' q (t.trans t')
theorem LkG.mono {Qh : Rho → Sto → Prop} {Q : L2.St → Hp → Prop} (k : LkG K H Qh Q) (t : Tk K H H1) : LkG K H1 Qh Q := fun d S v H' q t' => k d S v H' q (t.trans t')
theorem Lx.mono {Xh : XD} (k : Lx K W σ H Xh) (t : Tk K H H1) : Lx K W σ H1 Xh := fun c d S H' q t' => k c d S H' q (t.trans t')
theorem LkS.mono {Dh : DEnds} {D : Ends} (k : LkS K W H Dh D) (t : Tk K H H1) : LkS K W H1 Dh D := ⟨k.nx.mono t, k.rt.mono t, k.bk.mono t, k.ct.mono t, fun c d => (k.ex c d).mono t⟩
theorem Lk.now {Qh : QD} {Q : VK} (k : Lk K H Qh Q) {d : Dv} {S : Sto} {v : V} (q : Qh d S) (r : Rep K H v d) (a : Abs K H S) : Q v H := k d S v H q (Tk.refl H) r a
end

/-! weaker readings -/
section
variable {X : Cx}
theorem pei {e : Expr} {t t' : TE} (h : PE X e t) (i : ∀ σ H Q, t' σ H Q → t σ H Q) : PE X e t' := ⟨fun pins s σ H Q I q => h.run pins s σ H Q I (i σ H Q q)⟩
theorem pti {e : Expr} {t t' : TT} (h : PT X e t) (i : ∀ σ H Q, t' σ H Q → t σ H Q) : PT X e t' := ⟨fun pins s σ H Q I q => h.run pins s σ H Q I (i σ H Q q)⟩
theorem pwi {e : Expr} {t t' : TT} (h : PW X e t) (i : ∀ σ H Q, t' σ H Q → t σ H Q) : PW X e t' := ⟨fun wh pins s σ H Q I q => h.run wh pins s σ H Q I (i σ H Q q)⟩
theorem pai {e : List Expr} {t t' : TA} (h : PA X e t) (i : ∀ σ H Q, t' σ H Q → t σ H Q) : PA X e t' := ⟨fun pos pins s σ H Q I q => h.run pos pins s σ H Q I (i σ H Q q)⟩
theorem psi {e : Stmt} {t t' : TS} (h : PS X e t) (i : ∀ D σ H, t' D σ H → t D σ H) : PS X e t' := ⟨fun pins s σ H D I q => h.run pins s σ H D I (i D σ H q)⟩
theorem pssi {e : List Stmt} {t t' : TS} (h : PSs X e t) (i : ∀ D σ H, t' D σ H → t D σ H) : PSs X e t' := ⟨fun pins s σ H D I q => h.run pins s σ H D I (i D σ H q)⟩
end

section
variable {X : Cx} {W : WX} {a b c e : Expr} {da db dc de : DE} {pos : Pos} {es : List Expr} {das : DA}

/-! names, constants -/
def dVar (i : Nat) : DE := fun ρ S Q _ => ∃ d, ρ[i]? = some (some d) ∧ Q d S
def dC (d : Dv) : DE := fun _ S Q _ => Q d S
theorem low_var (i : Nat) : ∀ σ H Q, low X.K W (dVar i) σ H Q → tVar i σ H Q := fun σ H Q ⟨ρ, S, Qh, Xh, hσ, hS, h, k, x⟩ => by
  obtain ⟨d, e, q⟩ := h
  obtain ⟨v, e', r⟩ := hσ.at_ i d e
  exact ⟨v, e', k.now q r hS⟩
theorem dv (i : Nat) {x : Str} {pos : Pos} (hN : X.N[i]? = some x := by rfl) (hv : Vis X.env.scope x := by first | exact Or.inl rfl | exact Or.inr (Or.inl rfl) | exact Or.inr (Or.inr rfl)) (hd : (x == ("__debug__" : Str)) = false := by decide)
    (hcd : (x == ("__classdict__" : Str)) = false := by decide) : PE X (.Name x pos) (low X.K W (dVar i)) := pei (pv i hN hv hd hcd) (low_var i)
theorem low_c {v : V} {d : Dv} (r : ∀ H, Rep X.K H v d) : ∀ σ H Q, low X.K W (dC d) σ H Q → tC v σ H Q := fun σ H Q ⟨ρ, S, Qh, Xh, hσ, hS, h, k, x⟩ => k.now h (r H) hS
theorem d_int {i j pos} : PE X (.Constant (.int i) j pos) (low X.K W (dC (.int i))) := pei pe_int (low_c fun _ => .int i)
theorem d_bl {b j pos} : PE X (.Constant (.bool b) j pos) (low X.K W (dC (.bl b))) := pei pe_bl (low_c fun _ => .bl b)
theorem d_non {j pos} : PE X (.Constant .none j pos) (low X.K W (dC .non)) := pei pe_non (low_c fun _ => .non)
theorem d_str {x j pos} : PE X (.Constant (.str x) j pos) (low X.K W (dC (.str x))) := pei pe_str (low_c fun _ => .str x)
/-- a written value as data -/
inductive VRep (K : PySem.W.Frag) : Value → Dv → Prop
  | mk {u : Value} {v : V} {d : Dv} (r : RelV v u) (h : ∀ H, Rep K H v d) : VRep K u d
theorem d_glob {x : Str} {u : Value} {d : Dv} {pos : Pos} (hm : X.mg x = some u) (r : VRep X.K u d) (hg : Gl X x := by rfl) (hd : (x == ("__debug__" : Str)) = false := by decide) : PE X (.Name x pos) (low X.K W (dC d)) := by
  cases r with | mk r h => exact pei (pe_glob hg hm r hd) (low_c h)
theorem d_bltn {x : Str} {v : V} {u : Value} {d : Dv} {pos : Pos} (hm : X.mg x = none) (hv : bootBuiltins x = some u) (r : RelV v u) (h : ∀ H, Rep X.K H v d) (hg : Gl X x := by rfl) (hn : x ≠ "__name__" := by decide) (hd : (x == ("__debug__" : Str)) = false := by decide) :
    PE X (.Name x pos) (low X.K W (dC d)) := pei (pe_bltn hg hm hv r hn hd) (low_c h)

/-! arguments -/
def dNil : DA := fun _ S Q _ => Q [] S
def dCons (da : DE) (dr : DA) : DA := fun ρ S Q X => da ρ S (fun x S1 => dr ρ S1 (fun xs S2 => Q (x :: xs) S2) X) X
theorem da_nil : PA X [] (lowA X.K W dNil) := pai pa_nil fun σ H Q ⟨ρ, S, Qh, Xh, hσ, hS, h, k, x⟩ => k [] S [] H h (Tk.refl H) .nil hS
theorem da_cons (ha : PE X e (low X.K W de)) (hr : PA X es (lowA X.K W das)) (hs : starEach (e :: es) X.env = (false, eval e X.env) :: starEach es X.env := by rfl) : PA X (e :: es) (lowA X.K W (dCons de das)) :=
  pai (pa_cons ha hr hs) fun σ H Q ⟨ρ, S, Qh, Xh, hσ, hS, h, k, x⟩ => ⟨ρ, S, _, Xh, hσ, hS, h, fun d S1 v H1 q1 t1 r1 a1 => ⟨ρ, S1, _, Xh, hσ.mono t1, a1, q1, fun ds S2 vs H2 q2 t2 r2 a2 => k _ S2 _ H2 q2 (t1.trans t2) (.cons (r1.mono t2) r2) a2, x.mono t1⟩, x⟩

/-! two-place operators -/
abbrev RD2 := Dv → Dv → Sto → QD → Prop
def LR2 (K : PySem.W.Frag) (r : R2) (rd : RD2) : Prop := ∀ x y H dx dy S Qh Q, Rep K H x dx → Rep K H y dy → Abs K H S → rd dx dy S Qh → Lk K H Qh Q → r x y H Q
def dOp (rd : RD2) (da db : DE) : DE := fun ρ S Q X => da ρ S (fun x S1 => db ρ S1 (fun y S2 => rd x y S2 Q) X) X
theorem low_op {r : R2} {rd : RD2} (hl : LR2 X.K r rd) : ∀ σ H Q, low X.K W (dOp rd da db) σ H Q → tOp r (low X.K W da) (low X.K W db) σ H Q := fun σ H Q ⟨ρ, S, Qh, Xh, hσ, hS, h, k, x⟩ =>
  ⟨ρ, S, _, Xh, hσ, hS, h, fun d1 S1 v1 H1 q1 t1 r1 a1 => ⟨ρ, S1, _, Xh, hσ.mono t1, a1, q1, fun d2 S2 v2 H2 q2 t2 r2 a2 => hl v1 v2 H2 d1 d2 S2 Qh Q (r1.mono t2) r2 a2 q2 (k.mono (t1.trans t2)), x.mono t1⟩, x⟩
theorem d_op {op : Operator} {r : R2} {rd : RD2} (ho : OpR X (binaryOp op) r) (hl : LR2 X.K r rd) (ha : PE X a (low X.K W da)) (hb : PE X b (low X.K W db)) : PE X (.BinOp a op b pos) (low X.K W (dOp rd da db)) := pei (pe_op ho ha hb) (low_op hl)
theorem d_cmp {op : CmpOp} {r : R2} {rd : RD2} (ho : OpR X (compareOp op) r) (hl : LR2 X.K r rd) (ha : PE X a (low X.K W da)) (hb : PE X b (low X.K W db)) (hm : behindInMarks op b = false := by first | exact nomark _ | rfl) :
    PE X (.Compare a [op] [b] pos) (low X.K W (dOp rd da db)) := pei (pe_cmpR ho ha hb hm) (low_op hl)
/-- an expression's truth, a bool -/
def dTest (de : DE) : DT := fun ρ S Q X => de ρ S (fun x S1 => match x with | .bl b => Q b S1 | _ => False) X
theorem low_tB {σ H} {Q : Bool → Hp → Prop} : lowT X.K W (dTest de) σ H Q → (low X.K W de) σ H (fun x H1 => ∃ c, x = .bl c ∧ Q c H1) := fun ⟨ρ, S, Qh, Xh, hσ, hS, h, k, x⟩ =>
  ⟨ρ, S, _, Xh, hσ, hS, h, fun d1 S1 v1 H1 q1 t1 r1 a1 => by
    cases d1 with
    | bl b => exact ⟨b, r1.i_bl, k b S1 H1 q1 t1 a1⟩
    | _ => exact q1.elim, x⟩
theorem t_cmp {op : CmpOp} {r : R2} {rd : RD2} (ho : OpR X (compareOp op) r) (hl : LR2 X.K r rd) (ha : PE X a (low X.K W da)) (hb : PE X b (low X.K W db)) (hm : behindInMarks op b = false := by first | exact nomark _ | rfl) :
    PT X (.Compare a [op] [b] pos) (lowT X.K W (dTest (dOp rd da db))) := pti (pt_cmpR ho ha hb hm) fun σ H Q h => by
  obtain ⟨ρ, S, Qh, Xh, hσ, hS, h, k, x⟩ := low_tB h
  exact low_op hl σ H _ ⟨ρ, S, Qh, Xh, hσ, hS, h, k, x⟩
theorem t_val (h : PE X e (low X.K W de)) (he : ∀ whole, isTrue e X.env whole = (do let v ← whole; standAt e.pos; holding [v] (truthy v)) := by intro _; rfl) : PT X e (lowT X.K W (dTest de)) := pti (pt_val h he) fun σ H Q q => low_tB q
def dChain (r r' : RD2) (da db dc : DE) : DE := fun ρ S Q X => da ρ S (fun x S1 => db ρ S1 (fun y S2 => r x y S2 fun z S3 => match z with
  | .bl true => dc ρ S3 (fun u S4 => r' y u S4 Q) X
  | .bl false => Q (.bl false) S3
  | _ => False) X) X
end

/-! builtins -/
abbrev RDC := List Dv → Sto → QD → Prop
def LRC (K : PySem.W.Frag) (r : List V → Hp → VK → Prop) (rd : RDC) : Prop := ∀ vs H ds S Qh Q, RepL K H vs ds → Abs K H S → rd ds S Qh → Lk K H Qh Q → r vs H Q
def dCB (rd : RDC) (das : DA) : DE := fun ρ S Q X => das ρ S (fun ds S1 => rd ds S1 Q) X
section
variable {X : Cx} {W : WX} {a b c e : Expr} {da db dc de : DE} {pos p : Pos} {es : List Expr} {das : DA} {x : Str} {id T : String} {r : List V → Hp → VK → Prop} {rd : RDC}
theorem low_cb (hl : LRC X.K r rd) : ∀ σ H Q, low X.K W (dCB rd das) σ H Q → tCB r (lowA X.K W das) σ H Q := fun σ H Q ⟨ρ, S, Qh, Xh, hσ, hS, h, k, x⟩ =>
  ⟨ρ, S, _, Xh, hσ, hS, h, fun ds S1 vs H1 q1 t1 r1 a1 => hl vs H1 ds S1 Qh Q r1 a1 q1 (k.mono t1), x⟩
theorem d_callB (hc : CallR X (.builtin id) r) (hl : LRC X.K r rd) (hm : X.mg x = none) (hv : bootBuiltins x = some (.builtin id)) (ha : PA X (e :: es) (lowA X.K W das)) (hg : Gl X x := by rfl) (hn : x ≠ "__name__" := by decide) (hdb : (x == ("__debug__" : Str)) = false := by decide)
    (he : starEach (e :: es) X.env = (false, eval e X.env) :: starEach es X.env := by rfl) (hpl : (backTo pos (starEach es X.env)).any (·.1) = false := by rfl) : PE X (.Call (.Name x p) (e :: es) [] pos) (low X.K W (dCB rd das)) := pei (pe_callB hc hg hm hv ha hn hdb he hpl) (low_cb hl)
theorem d_callTy (hc : CallR X (.type T) r) (hl : LRC X.K r rd) (hm : X.mg x = none) (hv : bootBuiltins x = some (.type T)) (ha : PA X (e :: es) (lowA X.K W das)) (hg : Gl X x := by rfl) (hn : x ≠ "__name__" := by decide) (hdb : (x == ("__debug__" : Str)) = false := by decide)
    (he : starEach (e :: es) X.env = (false, eval e X.env) :: starEach es X.env := by rfl) (hpl : (backTo pos (starEach es X.env)).any (·.1) = false := by rfl) : PE X (.Call (.Name x p) (e :: es) [] pos) (low X.K W (dCB rd das)) := pei (pe_callTy hc hg hm hv ha hn hdb he hpl) (low_cb hl)

/-! own defs -/
abbrev SpD := List Dv → Sto → QD → XD → Prop
def LxE (K : PySem.W.Frag) (H : Hp) (Xh : XD) (E : XK) : Prop := ∀ c da S' H', Xh c da S' → Tk K H H' → Abs K H' S' → E c da H'
def lowF (K : PySem.W.Frag) (sp : SpD) : Sp := fun vs H Q E => ∃ ds S Qh Xh, RepL K H vs ds ∧ Abs K H S ∧ sp ds S Qh Xh ∧ Lk K H Qh Q ∧ LxE K H Xh E
def dCall (sp : SpD) (das : DA) : DE := fun ρ S Q X => das ρ S (fun ds S1 => sp ds S1 Q X) X
variable {sp : SpD} {k : Nat} {f : Addr} {fd : FuncData} {ps : List Str}
abbrev FnD (P : Program) (w : World) (K : PySem.W.Frag) (mg : Str → Option Value) (base : Heap) (k : Nat) (f : Addr) (fd : FuncData) (ps : List Str) (sp : SpD) : Prop := FnG P w K mg base (L2.CX P w) k f fd ps (lowF K sp)
theorem d_call (F : FnD X.prog X.w X.K X.mg X.base k f fd ps sp) (hr : RoomG k X.A) (hm : X.mg x = some (.ref f)) (hk : PySem.W.keepIn X.K (.ref f) = true) (hb : Binds X.K fd ps []) (tk : Takes X W) (ha : PA X (e :: es) (lowA X.K W das))
    (hg : Gl X x := by rfl) (hdb : (x == ("__debug__" : Str)) = false := by decide) (he : starEach (e :: es) X.env = (false, eval e X.env) :: starEach es X.env := by rfl) (hpl : (backTo pos (starEach es X.env)).any (·.1) = false := by rfl) :
    PE X (.Call (.Name x p) (e :: es) [] pos) (low X.K W (dCall sp das)) :=
  pei (pe_callG F hr hg hm hk hb (fun σ => passAt tk σ) ha hdb he hpl) fun σ H Q ⟨ρ, S, Qh, Xh, hσ, hS, h, k, x⟩ => ⟨ρ, S, _, Xh, hσ, hS, h, fun ds S1 vs H1 q1 t1 r1 a1 => ⟨ds, S1, Qh, Xh, r1, a1, q1, k.mono t1, x.mono t1⟩, x⟩
end

section
variable {X : Cx} {W : WX} {a b c e o : Expr} {da db dc de : DE} {pos p apos : Pos} {es : List Expr} {das : DA} {x m f : Str} {sp : SpD} {k : Nat} {g C : Addr} {fd : FuncData} {ps : List Str}
/-! ### instances -/
/-- what stands there is an instance: its class, its fields -/
def insOf (d : Dv) (S : Sto) (R : Addr → List Str → List Dv → Prop) : Prop := match d with
  | .obj C ns ds => R C ns ds
  | .ref a => match S a with
    | some (.ins C _ fs) => R C (fs.map (·.1)) (fs.map (·.2))
    | _ => False
  | _ => False
/-- the field f of such -/
def getF (f : Str) : List Str → List Dv → Option Dv
  | n :: ns, d :: ds => if (f == n) = true then some d else getF f ns ds
  | _, _ => none
theorem repF_zip {K : PySem.W.Frag} {H : Hp} : ∀ {gs : List (Str × V)} {fs : List (Str × Dv)}, RepF K H gs fs → RepL K H (gs.map (·.2)) (fs.map (·.2)) ∧ gs = (fs.map (·.1)).zip (gs.map (·.2)) ∧ gs.map (·.1) = fs.map (·.1)
  | _, _, .nil => ⟨.nil, rfl, rfl⟩
  | (g, v) :: gs, (n, d) :: fs, .cons ⟨e, r⟩ t => by
    dsimp only at e r
    obtain ⟨h1, h2, h3⟩ := repF_zip t
    subst e
    refine ⟨.cons r h1, ?_, by simp [h3]⟩
    simp only [List.map_cons, List.zip_cons_cons]
    rw [← h2]
/-- e.f -/
def dFld (cs : List Addr) (f : Str) (de : DE) : DE := fun ρ S Q X => de ρ S (fun x S1 => insOf x S1 fun C ns ds => C ∈ cs ∧ ∃ d, getF f ns ds = some d ∧ Q d S1) X
/-! methods -/
def dMeth (tab : List (Addr × SpD)) (m : Str) (dO : DE) (das : DA) : DE := fun ρ S Q X => dO ρ S (fun x S1 => insOf x S1 fun C ns ds => getF m ns ds = none ∧ ∃ sp, (C, sp) ∈ tab ∧ das ρ S1 (fun vs S2 => sp (x :: vs) S2 Q X) X) X
/-- the class C, its method m at level up to k -/
structure MT (X : Cx) (m : Str) (k : Nat) (C : Addr) (sp : SpD) : Prop where
  c : Cls X.K C
  go : ∃ g, Meth X.K C m g ∧ ∃ (k' : Nat) (fd : FuncData) (ps : List Str), k' ≤ k ∧ FnD X.prog X.w X.K X.mg X.base k' g fd ps sp ∧ Binds X.K fd ps []
/-! C(..): kept in the store -/
/-- what is made is frozen: a list, a dict, an instance by its value -/
def frzD (d : Dv) (S : Sto) (Q : QD) : Prop := match d with
  | .ref a => match S a with
    | some (.lst xs) => Q (.rol xs) (rm S a)
    | some (.dK kvs) => Q (.rod (kvs.map (·.1)) (kvs.map (·.2))) (rm S a)
    | some (.ins C _ fs) => Q (.obj C (fs.map (·.1)) (fs.map (·.2))) (rm S a)
    | _ => False
  | d => Q d S
theorem lk_frzD {K : PySem.W.Frag} {H1 : Hp} {S1 : Sto} {v1 : V} {d1 : Dv} {Qh : QD} {Q : VK} (r1 : Rep K H1 v1 d1) (a1 : Abs K H1 S1) (q1 : frzD d1 S1 Qh) (k : Lk K H1 Qh Q) : Q v1 H1 ∨ ∃ a u, v1 = .ref a ∧ H1 a = some u ∧ canFrz u = true ∧ ∀ o, Q v1 (upd H1 a (.frz o u)) := by
  unfold frzD at q1
  have offS : ∀ {a : Addr} {o : Obj} {u : HO}, H1 a = some u → canFrz u = true → Tk K H1 (upd H1 a (.frz o u)) ∧ Abs K (upd H1 a (.frz o u)) (rm S1 a) := by
    intro a o u e hu
    have ne : ∀ b z, H1 b = some z → canFrz z = false → b ≠ a := fun b z hb hz q => by subst q; rw [e] at hb; cases hb; rw [hu] at hz; cases hz
    have t : Tk K H1 (upd H1 a (.frz o u)) := Tk.of fun b z hz => by
      by_cases hb : b = a
      · subst hb; rw [e] at hz; cases hz
        exact .inl ⟨⟨fun xs q => by (subst q; cases hu), fun ob w q => by (subst q; cases hu)⟩, fun φ q => by (subst q; cases hu), fun ps q => by (subst q; cases hu)⟩
      · exact .inr (by rw [upd_ne hb]; exact hz)
    refine ⟨t, fun b m hb => ?_⟩
    by_cases q : b = a
    · rw [q, rm_same] at hb; cases hb
    · rw [rm_ne q] at hb
      exact (a1 b m hb).mono t fun z hz => by rw [upd_ne q]; exact hz
  split at q1
  · rename_i a
    split at q1
    · rename_i xs ea
      obtain ⟨us, h1, l⟩ := a1 _ _ ea
      refine .inr ⟨a, _, r1.i_ref, h1, rfl, fun o => ?_⟩
      obtain ⟨t, ab⟩ := offS (o := o) h1 rfl
      rw [r1.i_ref]
      exact k _ _ _ _ q1 t (.rol (.inl ⟨o, upd_same⟩) (l.mono t)) ab
    · rename_i kvs ea
      obtain ⟨us, h1, l⟩ := a1 _ _ ea
      refine .inr ⟨a, _, r1.i_ref, h1, rfl, fun o => ?_⟩
      obtain ⟨t, ab⟩ := offS (o := o) h1 rfl
      rw [r1.i_ref]
      have z : ∀ {gs : List (Key × V)} {fs : List (Key × Dv)}, RepK K H1 gs fs → RepL K H1 (gs.map (·.2)) (fs.map (·.2)) ∧ gs = (fs.map (·.1)).zip (gs.map (·.2)) ∧ (fs.map (·.1)).length = (gs.map (·.2)).length := by
        intro gs fs h
        induction h with
        | nil => exact ⟨.nil, rfl, rfl⟩
        | @cons p q gs fs hp t ih =>
          obtain ⟨g, v⟩ := p
          obtain ⟨n, d⟩ := q
          obtain ⟨e, r⟩ := hp
          dsimp only at e r
          subst e
          refine ⟨.cons r ih.1, ?_, by simpa using ih.2.2⟩
          simp only [List.map_cons, List.zip_cons_cons]
          rw [← ih.2.1]
      obtain ⟨z1, z2, z3⟩ := z l
      exact k _ _ _ _ q1 t (.rod (o := o) (vs := us.map (·.2)) (by rw [← z2]; exact upd_same) z3 (z1.mono t)) ab
    · rename_i C dx fs ea
      obtain ⟨us, h1, l⟩ := a1 _ _ ea
      refine .inr ⟨a, _, r1.i_ref, h1, rfl, fun o => ?_⟩
      obtain ⟨t, ab⟩ := offS (o := o) h1 rfl
      rw [r1.i_ref]
      obtain ⟨z1, z2, z3⟩ := repF_zip l
      exact k _ _ _ _ q1 t (.obj (o := o) (dx := dx) (vs := us.map (·.2)) (by rw [← z2]; exact upd_same) (by rw [← z3]; simp) (z1.mono t)) ab
    · exact q1.elim
  · exact .inl (k _ _ _ _ q1 (Tk.refl _) r1 a1)
def dFrz (de : DE) : DE := fun ρ S Q X => de ρ S (fun d S1 => frzD d S1 Q) X
theorem d_frz (h : PE X e (low X.K W de)) : PE X e (low X.K W (dFrz de)) := pei (pe_frz h) fun σ H Q ⟨ρ, S, Qh, Xh, hσ, hS, h, k, x⟩ => ⟨ρ, S, _, Xh, hσ, hS, h, fun d1 S1 v1 H1 q1 t1 r1 a1 => lk_frzD r1 a1 q1 (k.mono t1), x⟩
end

/-! and, or, not, if as values and as tests -/
section
variable {X : Cx} {W : WX} {a b c e : Expr} {da db dc de : DE} {pos : Pos} {rest : List Expr} {ta tb : DT}
def dAndV (da db : DE) : DE := fun ρ S Q X => da ρ S (fun x S1 => match x with | .bl true => db ρ S1 Q X | .bl false => Q (.bl false) S1 | _ => False) X
def dOrV (da db : DE) : DE := fun ρ S Q X => da ρ S (fun x S1 => match x with | .bl true => Q (.bl true) S1 | .bl false => db ρ S1 Q X | _ => False) X
def dNotV (da : DE) : DE := fun ρ S Q X => da ρ S (fun x S1 => match x with | .bl b => Q (.bl (!b)) S1 | _ => False) X
def dIf (t : DT) (da db : DE) : DE := fun ρ S Q X => t ρ S (fun b S1 => if b = true then da ρ S1 Q X else db ρ S1 Q X) X
theorem d_one {op} (h : PE X a (low X.K W da)) : PE X (.BoolOp op [a] pos) (low X.K W da) := pe_one h
theorem d_and (ha : PE X a (low X.K W da)) (hb : PE X (.BoolOp .And (b :: rest) pos) (low X.K W db)) : PE X (.BoolOp .And (a :: b :: rest) pos) (low X.K W (dAndV da db)) := pei (pe_and ha hb) fun σ H Q ⟨ρ, S, Qh, Xh, hσ, hS, h, k, x⟩ =>
  ⟨ρ, S, _, Xh, hσ, hS, h, fun d1 S1 v1 H1 q1 t1 r1 a1 => by
    cases d1 with
    | bl b =>
      refine ⟨b, r1.i_bl, ?_⟩
      cases b with
      | true => exact ⟨ρ, S1, Qh, Xh, hσ.mono t1, a1, q1, k.mono t1, x.mono t1⟩
      | false => exact (k.mono t1).now q1 (.bl false) a1
    | _ => exact q1.elim, x⟩
theorem d_or (ha : PE X a (low X.K W da)) (hb : PE X (.BoolOp .Or (b :: rest) pos) (low X.K W db)) : PE X (.BoolOp .Or (a :: b :: rest) pos) (low X.K W (dOrV da db)) := pei (pe_or ha hb) fun σ H Q ⟨ρ, S, Qh, Xh, hσ, hS, h, k, x⟩ =>
  ⟨ρ, S, _, Xh, hσ, hS, h, fun d1 S1 v1 H1 q1 t1 r1 a1 => by
    cases d1 with
    | bl b =>
      refine ⟨b, r1.i_bl, ?_⟩
      cases b with
      | false => exact ⟨ρ, S1, Qh, Xh, hσ.mono t1, a1, q1, k.mono t1, x.mono t1⟩
      | true => exact (k.mono t1).now q1 (.bl true) a1
    | _ => exact q1.elim, x⟩
def dAndT (t u : DT) : DT := fun ρ S Q X => t ρ S (fun b S1 => if b = true then u ρ S1 Q X else Q false S1) X
def dOrT (t u : DT) : DT := fun ρ S Q X => t ρ S (fun b S1 => if b = true then Q true S1 else u ρ S1 Q X) X
def dNotT (t : DT) : DT := fun ρ S Q X => t ρ S (fun b S1 => Q (!b) S1) X
theorem t_and1 (ha : PT X a (lowT X.K W ta)) : PW X (.BoolOp .And [a] pos) (lowT X.K W ta) := pw_and1 ha
theorem t_or1 (ha : PT X a (lowT X.K W ta)) : PW X (.BoolOp .Or [a] pos) (lowT X.K W ta) := pw_or1 ha
theorem t_and (ha : PT X a (lowT X.K W ta)) (hb : PW X (.BoolOp .And (b :: rest) pos) (lowT X.K W tb)) : PW X (.BoolOp .And (a :: b :: rest) pos) (lowT X.K W (dAndT ta tb)) := pwi (pw_and ha hb) fun σ H Q ⟨ρ, S, Qh, Xh, hσ, hS, h, k, x⟩ =>
  ⟨ρ, S, _, Xh, hσ, hS, h, fun b S1 H1 q1 t1 a1 => by
    cases b with
    | true => exact ⟨ρ, S1, Qh, Xh, hσ.mono t1, a1, q1, k.mono t1, x.mono t1⟩
    | false => exact k _ S1 H1 q1 t1 a1, x⟩
theorem t_or (ha : PT X a (lowT X.K W ta)) (hb : PW X (.BoolOp .Or (b :: rest) pos) (lowT X.K W tb)) : PW X (.BoolOp .Or (a :: b :: rest) pos) (lowT X.K W (dOrT ta tb)) := pwi (pw_or ha hb) fun σ H Q ⟨ρ, S, Qh, Xh, hσ, hS, h, k, x⟩ =>
  ⟨ρ, S, _, Xh, hσ, hS, h, fun b S1 H1 q1 t1 a1 => by
    cases b with
    | true => exact k _ S1 H1 q1 t1 a1
    | false => exact ⟨ρ, S1, Qh, Xh, hσ.mono t1, a1, q1, k.mono t1, x.mono t1⟩, x⟩
theorem t_not (ha : PT X a (lowT X.K W ta)) : PT X (.UnaryOp .Not a pos) (lowT X.K W (dNotT ta)) := pti (pt_not ha) fun σ H Q ⟨ρ, S, Qh, Xh, hσ, hS, h, k, x⟩ =>
  ⟨ρ, S, _, Xh, hσ, hS, h, fun b S1 H1 q1 t1 a1 => k _ S1 H1 q1 t1 a1, x⟩
end
end VD

namespace VD
open PySem PySem.Spec PyProof.Rows L2

section
variable {K : PySem.W.Frag} {W : WX} {H H1 : Hp} {σ : L2.St} {ρ : Rho}
theorem LkS.lx {Dh : DEnds} {D : Ends} (k : LkS K W H Dh D) (hσ : RepS K H σ ρ) : Lx K W σ H (fun c da S => Dh.ex c da ρ S) := fun c da S' H' q t a => k.ex c da ρ S' σ H' q t (hσ.mono t) a
theorem LkS.nexts {Dh : DEnds} {D : Ends} (k : LkS K W H Dh D) {nh : Rho → Sto → Prop} {n : L2.St → Hp → Prop} (h : LkG K H nh n) : LkS K W H { Dh with nx := nh } { D with nx := n } := ⟨h, k.rt, k.bk, k.ct, k.ex⟩
theorem LkS.loop {Dh : DEnds} {D : Ends} (k : LkS K W H Dh D) {nh : Rho → Sto → Prop} {n : L2.St → Hp → Prop} (h : LkG K H nh n) : LkS K W H { Dh with nx := nh, ct := nh, bk := Dh.nx } { D with nx := n, ct := n, bk := D.nx } := ⟨h, k.rt, k.nx, h, k.ex⟩
theorem LkG.now {Qh : Rho → Sto → Prop} {Q : L2.St → Hp → Prop} (k : LkG K H Qh Q) {S : Sto} (q : Qh ρ S) (r : RepS K H σ ρ) (a : Abs K H S) : Q σ H := k ρ S σ H q (Tk.refl H) r a
end
/-- the ends of a statement as the wish of an expression -/
abbrev DEnds.xd (D : DEnds) (ρ : Rho) : XD := fun c da S => D.ex c da ρ S

section
variable {X : Cx} {W : WX} {st : Stmt} {rest sts body : List Stmt} {a b : DS} {e c : Expr} {de : DE} {dt : DT} {pos : Pos}
def dSeq (a b : DS) : DS := fun D ρ S => a { D with nx := b D } ρ S
def dNext : DS := fun D ρ S => D.nx ρ S
theorem s_nil : PSs X [] (lowS X.K W dNext) := pssi pss_nil fun D σ H ⟨ρ, S, Dh, hσ, hS, h, k⟩ => k.nx.now h hσ hS
theorem s_cons (h1 : PS X st (lowS X.K W a)) (h2 : PSs X rest (lowS X.K W b)) : PSs X (st :: rest) (lowS X.K W (dSeq a b)) := pssi (pss_cons h1 h2) fun D σ H ⟨ρ, S, Dh, hσ, hS, h, k⟩ =>
  ⟨ρ, S, { Dh with nx := b Dh }, hσ, hS, h, k.nexts fun ρ' S' σ' H' q t r a => ⟨ρ', S', Dh, r, a, q, k.mono t⟩⟩
theorem s_one (h1 : PS X st (lowS X.K W a)) : PSs X [st] (lowS X.K W a) := pss_one h1
def dBreak : DS := fun D ρ S => D.bk ρ S
def dCont : DS := fun D ρ S => D.ct ρ S
def dDrop (de : DE) : DS := fun D ρ S => de ρ S (fun _ S1 => D.nx ρ S1) (D.xd ρ)
theorem s_expr (he : PE X e (low X.K W de)) (hs : swapsWith e none pos.line X.env = pure false := by rfl) : PS X (.Expr e pos) (lowS X.K W (dDrop de)) := psi (ps_expr he hs) fun D σ H ⟨ρ, S, Dh, hσ, hS, h, k⟩ =>
  ⟨ρ, S, _, _, hσ, hS, h, fun d S1 v H1 q t r a => k.nx ρ S1 σ H1 q t (hσ.mono t) a, k.lx hσ⟩
def dRet (de : DE) : DS := fun D ρ S => de ρ S D.rt (D.xd ρ)
theorem s_ret (he : PE X e (low X.K W de)) : PS X (.Return (some e) pos) (lowS X.K W (dRet de)) := psi (ps_ret he) fun D σ H ⟨ρ, S, Dh, hσ, hS, h, k⟩ => ⟨ρ, S, _, _, hσ, hS, h, k.rt, k.lx hσ⟩
def dRetN : DS := fun D _ S => D.rt .non S
def dIfS (c : DT) (t u : DS) : DS := fun D ρ S => c ρ S (fun b S1 => if b = true then t D ρ S1 else u D ρ S1) (D.xd ρ)
theorem s_if {sa sb : List Stmt} (hc : PT X c (lowT X.K W dt)) (ha : PSs X sa (lowS X.K W a)) (hb : PSs X sb (lowS X.K W b)) : PS X (.If c sa sb pos) (lowS X.K W (dIfS dt a b)) := psi (ps_if hc ha hb) fun D σ H ⟨ρ, S, Dh, hσ, hS, h, k⟩ =>
  ⟨ρ, S, _, _, hσ, hS, h, fun bb S1 H1 q t aa => by
    cases bb with
    | true => exact ⟨ρ, S1, Dh, hσ.mono t, aa, q, k.mono t⟩
    | false => exact ⟨ρ, S1, Dh, hσ.mono t, aa, q, k.mono t⟩, k.lx hσ⟩
/-! targets -/
abbrev DG := Dv → Rho → Sto → (Rho → Sto → Prop) → Prop
abbrev DGs := List Dv → Rho → Sto → (Rho → Sto → Prop) → Prop
def lowG (K : PySem.W.Frag) (g : DG) : TG := fun v σ H Q => ∃ d ρ S Qh, Rep K H v d ∧ RepS K H σ ρ ∧ Abs K H S ∧ g d ρ S Qh ∧ LkG K H Qh Q
def gN (i : Nat) : DG := fun d ρ S Q => Q (ρ.set i (some d)) S
def gNilD : DGs := fun ds ρ S Q => match ds with | [] => Q ρ S | _ => False
def gConsD (g : DG) (r : DGs) : DGs := fun ds ρ S Q => match ds with | d :: t => g d ρ S fun ρ' S' => r t ρ' S' Q | [] => False
def gT (n : Nat) (g : DGs) : DG := fun d ρ S Q => match d with | .tup ds => ds.length = n ∧ g ds ρ S Q | _ => False
variable {tg : Expr} {es : List Expr} {g : DG} {gs : DGs}
theorem pgi {t t' : TG} (h : PG X e t) (i : ∀ v σ H Q, t' v σ H Q → t v σ H Q) : PG X e t' := ⟨fun pins s σ H v u Q I r q => h.run pins s σ H v u Q I r (i v σ H Q q)⟩
theorem g_name (i : Nat) {x : Str} (hN : X.N.Nodup) (hi : X.N[i]? = some x := by rfl) (hx : Loc X.env.scope x := by first | exact Or.inl rfl | exact Or.inr rfl) (hf : X.fn x = true ∨ X.env.scope.names.lookup x = some .local := by first | exact .inl rfl | exact .inr rfl | assumption) :
    PG X (.Name x pos) (lowG X.K (gN i)) := pgi (pg_name hN hi hx hf) fun v σ H Q ⟨d, ρ, S, Qh, r, hσ, hS, h, k⟩ => k.now h (hσ.set i r) hS
/-- o[i] = v -/
abbrev RDS := Dv → Dv → Dv → Sto → (Sto → Prop) → Prop
def LRS (K : PySem.W.Frag) (r : TSet) (rd : RDS) : Prop := ∀ o i v H dO dI d S (Qh : Sto → Prop) (Q : Hp → Prop), Rep K H o dO → Rep K H i dI → Rep K H v d → Abs K H S → rd dO dI d S Qh → (∀ S' H', Qh S' → Tk K H H' → Abs K H' S' → Q H') → r o i v H Q
def gSubD (rd : RDS) (dO di : DE) : DG := fun d ρ S Q => dO ρ S (fun o S1 => di ρ S1 (fun i S2 => rd o i d S2 fun S3 => Q ρ S3) X0) X0
theorem lx0 {K : PySem.W.Frag} {σ : L2.St} {H : Hp} : Lx K W σ H X0 := fun _ _ _ _ q => q.elim
theorem g_sub {o i : Expr} {dO di : DE} {r : TSet} {rd : RDS} (hs : PSet X r) (hl : LRS X.K r rd) (ho : PE X o (low X.K W dO)) (hi : PE X i (low X.K W di))
    (ha : ∀ v, assign (.Subscript o i pos) X.env v = (do
      let ov ← holding [v] (eval o X.env)
      let iv ← holding [v, ov] (eval i X.env)
      standAt pos
      holding [v, ov, iv] (setItem ov iv v)
      release [v, ov, iv] []) := by intro _; rfl) : PG X (.Subscript o i pos) (lowG X.K (gSubD rd dO di)) := pgi (pg_sub ho hi hs ha) fun v σ H Q ⟨d, ρ, S, Qh, r, hσ, hS, h, k⟩ =>
  ⟨ρ, S, _, X0, hσ, hS, h, fun d1 S1 v1 H1 q1 t1 r1 a1 => ⟨ρ, S1, _, X0, hσ.mono t1, a1, q1, fun d2 S2 v2 H2 q2 t2 r2 a2 => hl v1 v2 v H2 d1 d2 d S2 _ _ (r1.mono t2) r2 (r.mono (t1.trans t2)) a2 q2 fun S3 H3 q3 t3 a3 =>
    k ρ S3 σ H3 q3 ((t1.trans t2).trans t3) (hσ.mono ((t1.trans t2).trans t3)) a3, lx0⟩, lx0⟩
def dAsg (de : DE) (g : DG) : DS := fun D ρ S => de ρ S (fun d S1 => g d ρ S1 D.nx) (D.xd ρ)
theorem s_asg (he : PE X e (low X.K W de)) (hg : PG X tg (lowG X.K g)) (hs : swapsWithSole [tg] e pos.line X.env = pure false := by rfl) (hw : swappedStores [tg] e X.env = pure none := by rfl)
    (h1 : (assignEach [tg] X.env).map (·.2) = [assign tg X.env] := by rfl) : PS X (.Assign [tg] e pos) (lowS X.K W (dAsg de g)) := psi (ps_asg he hg hs hw h1) fun D σ H ⟨ρ, S, Dh, hσ, hS, h, k⟩ =>
  ⟨ρ, S, _, _, hσ, hS, h, fun d S1 v H1 q t r a => ⟨d, ρ, S1, _, r, hσ.mono t, a, q, k.nx.mono t⟩, k.lx hσ⟩
theorem s_set (i : Nat) {x : Str} {pos' : Pos} (hN : X.N.Nodup) (he : PE X e (low X.K W de)) (hi : X.N[i]? = some x := by rfl) (hx : Loc X.env.scope x := by first | exact Or.inl rfl | exact Or.inr rfl) (hs : swapsWith e (some (.Name x pos')) pos.line X.env = pure false := by rfl)
    (hf : X.fn x = true ∨ X.env.scope.names.lookup x = some .local := by first | exact .inl rfl | exact .inr rfl | assumption) : PS X (.Assign [.Name x pos'] e pos) (lowS X.K W (dAsg de (gN i))) := psi (ps_set hN hi hx he hs hf) fun D σ H ⟨ρ, S, Dh, hσ, hS, h, k⟩ =>
  ⟨ρ, S, _, _, hσ, hS, h, fun d S1 v H1 q t r a => k.nx _ S1 _ H1 q t ((hσ.mono t).set i r) a, k.lx hσ⟩
/-- a, b = x, y (both local names, no cells) -/
def dPar (i j : Nat) (das : DA) : DS := fun D ρ S => das ρ S (fun ds S1 => match ds with | [x, y] => D.nx ((ρ.set i (some x)).set j (some y)) S1 | _ => False) (D.xd ρ)
/-- x op= e -/
def dAug (i : Nat) (rd : RD2) (de : DE) : DS := fun D ρ S => ∃ x, ρ[i]? = some (some x) ∧ de ρ S (fun y S1 => rd x y S1 fun z S2 => D.nx (ρ.set i (some z)) S2) (D.xd ρ)
/-- o.f = e -/
def putFD (f : Str) (d : Dv) : List (Str × Dv) → List (Str × Dv)
  | [] => [(f, d)]
  | p :: r => if p.1 = f then (f, d) :: r else p :: putFD f d r
def dSetF (cs : List Addr) (f : Str) (dO de : DE) : DS := fun D ρ S => de ρ S (fun d S1 => dO ρ S1 (fun x S2 => match x with
  | .ref a => match S2 a with
    | some (.ins C dx fs) => C ∈ cs ∧ fs.length < 1000 ∧ D.nx ρ (put S2 a (.ins C dx (putFD f d fs)))
    | _ => False
  | _ => False) (D.xd ρ)) (D.xd ρ)
end

/-! loops -/
abbrev DI := Rho → Sto → (List Dv → (Sto → Prop) → Sto → Prop) → XD → Prop
structure ItD (K : PySem.W.Frag) (H0 : Hp) (J : It) (items : List Dv) (stay : Sto → Prop) : Prop where
  go : ∀ i H S x, Tk K H0 H → Abs K H S → stay S → items[i]? = some x → J.go i H ∧ ∀ v H', J.yld i H v H' → Tk K H H' ∧ Rep K H' v x ∧ Abs K H' S
  stop : ∀ H S, Tk K H0 H → Abs K H S → stay S → J.stop items.length H
def LkI (K : PySem.W.Frag) (H : Hp) (Rh : List Dv → (Sto → Prop) → Sto → Prop) (R : It → Hp → Prop) : Prop := ∀ items stay S' J H', Rh items stay S' → Tk K H H' → Abs K H' S' → ItD K H' J items stay → R J H'
theorem LkI.mono {K : PySem.W.Frag} {H H1 : Hp} {Rh : List Dv → (Sto → Prop) → Sto → Prop} {R : It → Hp → Prop} (k : LkI K H Rh R) (t : Tk K H H1) : LkI K H1 Rh R := fun i s S J H' q t' => k i s S J H' q (t.trans t')
def lowI (K : PySem.W.Frag) (W : WX) (di : DI) : TI := fun σ H R => ∃ ρ S Rh Xh, RepS K H σ ρ ∧ Abs K H S ∧ di ρ S Rh Xh ∧ LkI K H Rh R ∧ Lx K W σ H Xh
def ForGo (g : DG) (tb : DS) (D : DEnds) (ρ : Rho) (items : List Dv) (stay : Sto → Prop) (S1 : Sto) : Prop := ∃ Wv : Nat → Rho → Sto → Prop, Wv 0 ρ S1 ∧ (∀ i ρ S, i ≤ items.length → Wv i ρ S → stay S) ∧
  (∀ i x ρ S, items[i]? = some x → Wv i ρ S → g x ρ S fun ρ2 S2 => tb { D with nx := Wv (i + 1), ct := Wv (i + 1), bk := D.nx } ρ2 S2) ∧ ∀ ρ S, Wv items.length ρ S → D.nx ρ S
def dFor (di : DI) (g : DG) (tb : DS) : DS := fun D ρ S => di ρ S (fun items stay S1 => ForGo g tb D ρ items stay S1) (D.xd ρ)
section
variable {X : Cx} {W : WX} {tg iter c : Expr} {body : List Stmt} {di : DI} {g : DG} {tb : DS} {dt : DT} {pos : Pos}
theorem s_for (hp : PassesOwn (model X.prog X.w) X.A X.env X.xe) (hc : X.calm = true) (hi : PI X tg iter (lowI X.K W di)) (hg : PG X tg (lowG X.K g)) (hb : PSs X body (lowS X.K W tb))
    (hs : ∀ x, foldedSetIterable iter X.env x = pure x := by intro _; rfl) : PS X (.For tg iter body [] pos) (lowS X.K W (dFor di g tb)) := psi (ps_for hp hc hi hg hb hs) fun D σ H ⟨ρ, S, Dh, hσ, hS, h, k⟩ => by
  refine ⟨ρ, S, _, _, hσ, hS, h, fun items stay S1 J H1 q t1 a1 it => ?_, k.lx hσ⟩
  obtain ⟨Wv, w0, st, step, done⟩ := q
  refine ⟨fun i m σ' H' => m = items.length - i ∧ i ≤ items.length ∧ Tk X.K H1 H' ∧ ∃ ρ' S', RepS X.K H' σ' ρ' ∧ Abs X.K H' S' ∧ Wv i ρ' S', ⟨_, rfl, Nat.zero_le _, Tk.refl _, ρ, S1, hσ.mono t1, a1, w0⟩, ?_⟩
  rintro i m σ' H' ⟨rfl, hi, t2, ρ', S', hσ', a2, w⟩
  by_cases hlt : i < items.length
  · obtain ⟨g1, g2⟩ := it.go i H' S' items[i] t2 a2 (st i ρ' S' hi w) (by simp [hlt])
    refine .inr ⟨g1, fun σ' H' => Tk X.K H1 H' ∧ ∃ ρ' S', RepS X.K H' σ' ρ' ∧ Abs X.K H' S' ∧ Wv (i + 1) ρ' S', fun σ3 H3 ⟨t3, z⟩ => ⟨items.length - (i + 1), by omega, rfl, hlt, t3, z⟩, fun x H3 y => ?_⟩
    obtain ⟨t3, r3, a3⟩ := g2 x H3 y
    refine ⟨items[i], ρ', S', _, r3, hσ'.mono t3, a3, step i _ ρ' S' (by simp [hlt]) w, fun ρ4 S4 σ4 H4 q4 t4 r4 a4 => ⟨ρ4, S4, _, r4, a4, q4, ((((k.mono t1).mono t2).mono t3).mono t4).loop ?_⟩⟩
    exact fun ρ5 S5 σ5 H5 q5 t5 r5 a5 => ⟨((t2.trans t3).trans t4).trans t5, ρ5, S5, r5, a5, q5⟩
  · have e : i = items.length := by omega
    subst e
    exact .inl ⟨it.stop H' S' t2 a2 (st _ ρ' S' hi w), k.nx ρ' S' σ' H' (done ρ' S' w) (t1.trans t2) hσ' a2⟩
/-! what is walked -/
theorem pii {wi wi' : TI} (h : PI X tg iter wi) (i : ∀ σ H R, wi' σ H R → wi σ H R) : PI X tg iter wi' := ⟨fun pins s σ H R I q => h.run pins s σ H R I (i σ H R q)⟩
/-- the tuple at a, walked -/
theorem it_tup {K : PySem.W.Frag} {H0 : Hp} {a : Addr} {xs : List V} {ds : List Dv} (h : SqT K H0 a xs) (r : RepL K H0 xs ds) : ItD K H0 (Itt K a) ds (fun _ => True) := by
  refine ⟨fun i H S x t ha _ hx => ?_, fun H S t ha _ => ⟨xs, t.t _ _ h, by rw [r.length]; exact Nat.le_refl _⟩⟩
  obtain ⟨v, hv, rv⟩ := r.get hx
  refine ⟨⟨xs, v, t.t _ _ h, hv⟩, fun v' H' ⟨e, y⟩ => ?_⟩
  subst e
  have e2 := y xs (t.t _ _ h)
  rw [hv] at e2
  cases e2
  exact ⟨Tk.refl _, rv.mono t, ha⟩
theorem it_rol {K : PySem.W.Frag} {H0 : Hp} {a : Addr} {xs : List V} {ds : List Dv} (h : CL K H0 a xs) (r : RepL K H0 xs ds) : ItD K H0 (Itl K a) ds (fun _ => True) := by
  refine ⟨fun i H S x t ha _ hx => ?_, fun H S t ha _ => ⟨xs, (t.c _ _ h).sq, by rw [r.length]; exact Nat.le_refl _⟩⟩
  obtain ⟨v, hv, rv⟩ := r.get hx
  refine ⟨⟨xs, v, (t.c _ _ h).sq, hv⟩, fun v' H' ⟨e, y⟩ => ?_⟩
  subst e
  have e2 := y xs (t.c _ _ h).sq
  rw [hv] at e2
  cases e2
  exact ⟨Tk.refl _, rv.mono t, ha⟩
theorem it_lst {K : PySem.W.Frag} {H0 : Hp} {a : Addr} {ds : List Dv} : ItD K H0 (Itl K a) ds (fun S => S a = some (.lst ds)) := by
  refine ⟨fun i H S x t ha st hx => ?_, fun H S t ha st => ?_⟩
  · obtain ⟨xs, h1, h2⟩ := ha a _ st
    obtain ⟨v, hv, rv⟩ := h2.get hx
    refine ⟨⟨xs, v, .inl (.inl h1), hv⟩, fun v' H' ⟨e, y⟩ => ?_⟩
    subst e
    have e2 := y xs (.inl (.inl h1))
    rw [hv] at e2
    cases e2
    exact ⟨Tk.refl _, rv, ha⟩
  · obtain ⟨xs, h1, h2⟩ := ha a _ st
    exact ⟨xs, .inl (.inl h1), by rw [h2.length]; exact Nat.le_refl _⟩
def iTupD (de : DE) : DI := fun ρ S R X => de ρ S (fun d S1 => match d with | .tup ds => R ds (fun _ => True) S1 | _ => False) X
theorem i_tup {e : Expr} {de : DE} (he : PE X e (low X.K W de)) : PI X tg e (lowI X.K W (iTupD de)) := pii (pi_tup he) fun σ H R ⟨ρ, S, Rh, Xh, hσ, hS, h, k, x⟩ =>
  ⟨ρ, S, _, Xh, hσ, hS, h, fun d S1 v H1 q t r a => by
    cases d with
    | tup ds =>
      obtain ⟨p, xs, rfl, hq, rl⟩ := r.i_tup
      exact ⟨p, rfl, ⟨xs, hq⟩, k ds _ S1 _ H1 q t a (it_tup hq rl)⟩
    | _ => exact q.elim, x⟩
/-- over a list, a tuple, a text: by the value -/
def iSeqD (de : DE) : DI := fun ρ S R X => de ρ S (fun d S1 => match d with
  | .tup ds => R ds (fun _ => True) S1
  | .rol ds => R ds (fun _ => True) S1
  | .ref a => match S1 a with | some (.lst ds) => R ds (fun S => S a = some (.lst ds)) S1 | _ => False
  | _ => False) X
theorem i_seq {e : Expr} {de : DE} (he : PE X e (low X.K W de)) : PI X tg e (lowI X.K W (iSeqD de)) := by
  refine ⟨fun pins s σ H R I ⟨ρ, S, Rh, Xh, hσ, hS, h, k, x⟩ => ?_⟩
  have lst : ∀ {a : Addr} {xs : List V} {H1 : Hp} {s1 : Shared}, Inv X pins σ H1 s1 → SqL X.K H1 a xs → R (Itl X.K a) H1 → wpAny (model X.prog X.w) X.A (pyIter (.ref a)) (PIE X pins σ tg R) X.xe s1 := by
    intro a xs H1 s1 I1 hq q
    obtain ⟨its, rv, p, hz⟩ := I1.list hq
    refine wpAny_pyIter_list p.isList ?_
    refine ⟨s1.heap.objs.size, [s1.heap.objs.size], _, _, H1, rfl, I1.kept (t' := s1.toks) fun b o e => Heap.get?_push_of_some _ e, turn_list a _, ⟨_, Heap.get?_push_size _ rfl, rfl, rfl⟩, fun b hb => ?_, q⟩
    have e : b = s1.heap.objs.size := by simpa using hb
    subst e
    exact I1.fpOk (Nat.le_refl _) (I1.hok.fresh (Nat.le_refl _))
  have tup : ∀ {a : Addr} {xs : List V} {H1 : Hp} {s1 : Shared}, Inv X pins σ H1 s1 → SqT X.K H1 a xs → R (Itt X.K a) H1 → wpAny (model X.prog X.w) X.A (pyIter (.ref a)) (PIE X pins σ tg R) X.xe s1 := by
    intro a xs H1 s1 I1 hq q
    obtain ⟨its, rv, p, hz⟩ := I1.tuple hq
    refine wpAny_pyIter_tuple (show s1.heap.IsTuple a its.toArray from p) ?_
    refine ⟨s1.heap.objs.size, [s1.heap.objs.size], _, _, H1, rfl, I1.kept (t' := s1.toks) fun b o e => Heap.get?_push_of_some _ e, turn_tuple a _, ⟨_, Heap.get?_push_size _ rfl, rfl, rfl⟩, fun b hb => ?_, q⟩
    have e : b = s1.heap.objs.size := by simpa using hb
    subst e
    exact I1.fpOk (Nat.le_refl _) (I1.hok.fresh (Nat.le_refl _))
  refine thn (he.run pins s σ H (fun v H1 => ∃ a, v = .ref a ∧ ((∃ xs, SqL X.K H1 a xs ∧ R (Itl X.K a) H1) ∨ (∃ xs, SqT X.K H1 a xs ∧ R (Itt X.K a) H1))) I ⟨ρ, S, _, Xh, hσ, hS, h, fun d S1 v H1 q t r a => ?_, x⟩) fun v s1 ⟨y, H1, I1, r1, a, e, q1⟩ => ?_
  · cases d with
    | tup ds =>
      obtain ⟨p, xs, rfl, hq, rl⟩ := r.i_tup
      exact ⟨p, rfl, .inr ⟨xs, hq, k ds _ S1 _ H1 q t a (it_tup hq rl)⟩⟩
    | rol ds =>
      obtain ⟨p, xs, rfl, hq, rl⟩ := r.i_rol
      exact ⟨p, rfl, .inl ⟨xs, hq.sq, k ds _ S1 _ H1 q t a (it_rol hq rl)⟩⟩
    | ref p =>
      have q : (match S1 p with | some (.lst ds) => Rh ds (fun S => S p = some (.lst ds)) S1 | _ => False) := q
      cases e : S1 p with
      | none => rw [e] at q; exact q.elim
      | some m =>
        rw [e] at q
        cases m with
        | lst ds =>
          obtain ⟨xs, h1, h2⟩ := a p _ e
          exact ⟨p, r.i_ref, .inl ⟨xs, .inl (.inl h1), k ds _ S1 _ H1 q t a it_lst⟩⟩
        | _ => exact q.elim
    | _ => exact q.elim
  · subst e
    cases r1
    rcases q1 with ⟨xs, hq, q⟩ | ⟨xs, hq, q⟩
    · exact lst I1 hq q
    · exact tup I1 hq q
/-- range(n), range(a, b), range(a, b, c) -/
def rangeL (lo : Int) (n : Nat) (c : Int) : List Dv := (List.range n).map fun (i : Nat) => Dv.int (lo + (i : Int) * c)
theorem rangeL_get {lo c : Int} {n i : Nat} {x : Dv} (h : (rangeL lo n c)[i]? = some x) : i < n ∧ x = .int (lo + (i : Int) * c) := by
  unfold rangeL at h
  rw [List.getElem?_map, Option.map_eq_some_iff] at h
  obtain ⟨j, h1, h2⟩ := h
  rw [List.getElem?_eq_some_iff] at h1
  obtain ⟨h3, h4⟩ := h1
  rw [List.getElem_range] at h4
  subst h4
  exact ⟨by simpa using h3, h2.symm⟩
theorem rangeL_len {lo c : Int} {n : Nat} : (rangeL lo n c).length = n := by unfold rangeL; simp
theorem it_rng {K : PySem.W.Frag} {H0 : Hp} {lo : Int} {n : Nat} : ItD K H0 (Itr lo n) (rangeL lo n 1) (fun _ => True) := by
  refine ⟨fun i H S x t ha st hx => ?_, fun H S t ha st => by rw [rangeL_len]; exact Nat.le_refl _⟩
  obtain ⟨h1, rfl⟩ := rangeL_get hx
  refine ⟨h1, fun v' H' ⟨e, y⟩ => ?_⟩
  subst e y
  exact ⟨Tk.refl _, by rw [Int.mul_one]; exact .int _, ha⟩
def iR1 (das : DA) : DI := fun ρ S R X => das ρ S (fun ds S1 => match ds with | [.int j] => R (rangeL 0 j.toNat 1) (fun _ => True) S1 | _ => False) X
def iR2 (das : DA) : DI := fun ρ S R X => das ρ S (fun ds S1 => match ds with | [.int i, .int j] => R (rangeL i (j - i).toNat 1) (fun _ => True) S1 | _ => False) X
def iR3 (das : DA) : DI := fun ρ S R X => das ρ S (fun ds S1 => match ds with | [.int i, .int j, .int c] => ∃ n, RgC i j c n ∧ R (rangeL i n c) (fun _ => True) S1 | _ => False) X
theorem i_r1 {a : Expr} {p : Pos} {das : DA} (hm : X.mg "range" = none) (ha : PA X [a] (lowA X.K W das)) (hg : Gl X "range" := by rfl) (hs : starEach [a] X.env = [(false, eval a X.env)] := by rfl) : PI X tg (.Call (.Name "range" p) [a] [] pos) (lowI X.K W (iR1 das)) :=
  pii (pi_rangeA1 hg hm ha hs) fun σ H R ⟨ρ, S, Rh, Xh, hσ, hS, h, k, x⟩ => ⟨ρ, S, _, Xh, hσ, hS, h, fun ds S1 vs H1 q t r a => by
    match ds, q, r with
    | [.int j], q, r =>
      obtain ⟨v1, r1, rfl, h1, r⟩ := r.cons_i
      rw [r.nil_i, h1.i_int]
      exact ⟨j, rfl, k _ _ S1 _ H1 q t a it_rng⟩, x⟩
def iStrD (de : DE) : DI := fun ρ S R X => de ρ S (fun d S1 => match d with | .str x => R (x.cps.toList.map fun c => Dv.str ⟨#[c]⟩) (fun _ => True) S1 | _ => False) X
theorem i_str {e : Expr} {de : DE} (he : PE X e (low X.K W de)) : PI X tg e (lowI X.K W (iStrD de)) := pii (pi_str he) fun σ H R ⟨ρ, S, Rh, Xh, hσ, hS, h, k, x⟩ =>
  ⟨ρ, S, _, Xh, hσ, hS, h, fun d S1 v H1 q t r a => by
    cases d with
    | str z =>
      refine ⟨z, r.i_str, k _ _ S1 _ H1 q t a ⟨fun i H S x t ha st hx => ?_, fun H S t ha st => by simp [Its]⟩⟩
      rw [List.getElem?_map, Option.map_eq_some_iff] at hx
      obtain ⟨c, h1, rfl⟩ := hx
      rw [Array.getElem?_toList] at h1
      refine ⟨(Array.getElem?_eq_some_iff.mp h1).1, fun v' H' ⟨e, c', h2, e2⟩ => ?_⟩
      subst e e2
      rw [h1] at h2
      cases h2
      exact ⟨Tk.refl _, .str _, ha⟩
    | _ => exact q.elim, x⟩
end

/-! comprehensions -/
/-- a target of names alone, put back behind -/
def NG (K : PySem.W.Frag) (g : TG) (dg : DG) (vs : List Nat) : Prop := ∀ v d σ H ρ S Qh (Q : L2.St → Hp → Prop), Rep K H v d → RepS K H σ ρ → Abs K H S → dg d ρ S Qh → (∀ ρ' S' σ' H', Qh ρ' S' → Tk K H H' → RepS K H' σ' ρ' → Abs K H' S' → L2.wipe σ' vs = L2.wipe σ vs → Q σ' H') → g v σ H Q
theorem wipe_set (σ : L2.St) (i : Nat) (x : Option V) : ∀ vs : List Nat, i ∈ vs → L2.wipe (σ.set i x) vs = L2.wipe σ vs
  | [], h => by cases h
  | v :: vs, h => by
    have wc : ∀ (l : List Nat) (τ : L2.St), L2.wipe (τ.set i x) l = if i ∈ l then L2.wipe τ l else (L2.wipe τ l).set i x := by
      intro l
      induction l with
      | nil => intro τ; simp [L2.wipe]
      | cons w l ih =>
        intro τ
        unfold L2.wipe
        rw [ih τ]
        by_cases hm : i ∈ l
        · simp [hm]
        · by_cases hw : i = w
          · subst hw; simp [hm, List.set_set]
          · simp [hm, hw, List.set_comm _ _ hw]
    rw [wc (v :: vs) σ, if_pos h]
theorem ng_name {K : PySem.W.Frag} {i : Nat} {vs : List Nat} (h : i ∈ vs) : NG K (gName i) (gN i) vs := fun v d σ H ρ S Qh Q r hσ hS q k => k _ S _ H q (Tk.refl H) (hσ.set i r) hS (wipe_set σ i _ vs h)
def dYes : DT := fun _ S Q _ => Q true S
theorem c_one {X : Cx} {W : WX} {c : Expr} {dt : DT} (h : PT X c (lowT X.K W dt)) : PTs X [c] (lowT X.K W dt) := pts_one h
def LcGo (g : DG) (tt : DT) (te : DE) (vs : List Nat) (ρ : Rho) (Q : QD) (items : List Dv) (stay : Sto → Prop) (S1 : Sto) : Prop := ∀ p, S1 p = none → ∃ Wv : Nat → Sto → Prop, Wv 0 (put S1 p (.lst [])) ∧ (∀ i S, i ≤ items.length → Wv i S → stay S) ∧
  (∀ i x S, items[i]? = some x → Wv i S → g x (wipeD ρ vs) S fun ρ2 S2 => tt ρ2 S2 (fun b S3 => if b = true then te ρ2 S3 (fun y S4 => ∃ acc, S4 p = some (.lst acc) ∧ acc.length < sizeLine ∧ Wv (i + 1) (put S4 p (.lst (acc ++ [y])))) X0 else Wv (i + 1) S3) X0) ∧
  ∀ S, Wv items.length S → Q (.ref p) S
def dLc (di : DI) (g : DG) (tt : DT) (te : DE) (vs : List Nat) : DE := fun ρ S Q X => di ρ S (fun items stay S1 => LcGo g tt te vs ρ Q items stay S1) X
section
variable {X : Cx} {W : WX} {tg iter elt : Expr} {ifs : List Expr} {di : DI} {g : TG} {dg : DG} {dt : DT} {de : DE} {scope : Scope} {own : List (Str × Nat)} {pos spos : Pos}
theorem low_lc {K : PySem.W.Frag} {vs : List Nat} (ng : NG K g dg vs) : ∀ σ H Q, low K W (dLc di dg dt de vs) σ H Q → tLc (lowI K W di) g (lowT K W0 dt) (low K W0 de) vs σ H Q := fun σ H Q ⟨ρ, S, Qh, Xh, hσ, hS, h, k, x⟩ => by
  refine ⟨ρ, S, _, Xh, hσ, hS, h, fun items stay S1 J H1 q t1 a1 it p hp => ?_, x⟩
  obtain ⟨Wv, w0, st, step, done⟩ := q p (a1.free hp)
  refine ⟨fun i m H' => m = items.length - i ∧ i ≤ items.length ∧ Tk K H1 H' ∧ ∃ S', Abs K H' S' ∧ Wv i S', ⟨_, rfl, Nat.zero_le _, Tk.new hp, _, a1.new hp (.mlst upd_same .nil), w0⟩, ?_⟩
  rintro i m H' ⟨rfl, hi, t2, S', a2, w⟩
  by_cases hlt : i < items.length
  · obtain ⟨g1, g2⟩ := it.go i H' S' items[i] t2 a2 (st i S' hi w) (by simp [hlt])
    refine .inr ⟨g1, fun H' => Tk K H1 H' ∧ ∃ S', Abs K H' S' ∧ Wv (i + 1) S', fun H3 ⟨t3, z⟩ => ⟨items.length - (i + 1), by omega, rfl, hlt, t3, z⟩, fun v H3 y => ?_⟩
    obtain ⟨t3, r3, a3⟩ := g2 v H3 y
    have hw : RepS K H3 (L2.wipe σ vs) (wipeD ρ vs) := (hσ.mono (t1.trans (t2.trans t3))).wipe vs
    refine ng v items[i] (L2.wipe σ vs) H3 (wipeD ρ vs) S' _ _ r3 hw a3 (step i _ S' (by simp [hlt]) w) fun ρ4 S4 σ4 H4 q4 t4 r4 a4 e4 => ⟨e4.trans ?_, ρ4, S4, _, X0, r4, a4, q4, fun b S5 H5 q5 t5 a5 => ?_, lx0⟩
    · clear e4 r4 a4 q4 step st done it k x w hw
      have idem : ∀ (l : List Nat) (τ : L2.St) (j : Nat), j ∈ l → (L2.wipe τ l).set j none = L2.wipe τ l := by
        intro l
        induction l with
        | nil => intro τ j h; cases h
        | cons w l ih =>
          intro τ j h
          unfold L2.wipe
          by_cases hj : j = w
          · subst hj; rw [List.set_set]
          · rw [List.set_comm _ _ (Ne.symm hj), ih τ j ((List.mem_cons.mp h).resolve_left hj)]
      have all : ∀ (l m : List Nat) (τ : L2.St), (∀ j ∈ l, j ∈ m) → L2.wipe (L2.wipe τ m) l = L2.wipe τ m := by
        intro l
        induction l with
        | nil => intro m τ _; rfl
        | cons w l ih =>
          intro m τ h
          show (L2.wipe (L2.wipe τ m) l).set w none = _
          rw [ih m τ fun j hj => h j (List.mem_cons_of_mem _ hj)]
          exact idem m τ w (h w List.mem_cons_self)
      exact all vs vs σ fun _ h => h
    · cases b with
      | true =>
        refine iteT ⟨ρ4, S5, _, X0, r4.mono t5, a5, q5, fun d S6 v6 H6 q6 t6 r6 a6 => ?_, lx0⟩
        obtain ⟨acc, e6, l6, w6⟩ := q6
        obtain ⟨xs, h6, rl⟩ := a6 p _ e6
        have tw : Tk K H6 (upd H6 p (.lst (xs ++ [v6]))) := Tk.write h6 wr_lst
        refine ⟨xs, h6, by rw [rl.length]; exact l6, (((t2.trans t3).trans t4).trans t5).trans (t6.trans tw), _, a6.write h6 wr_lst (.mlst upd_same ((rl.mono tw).append (.cons (r6.mono tw) .nil))), w6⟩
      | false => exact iteF ⟨((t2.trans t3).trans t4).trans t5, S5, a5, q5⟩
  · have e : i = items.length := by omega
    subst e
    exact .inl ⟨it.stop H' S' t2 a2 (st _ S' hi w), k _ S' _ H' (done S' w) (t1.trans t2) (.ref p) a2⟩
theorem d_lc (hc : X.calm = true) (hN : X.N.Nodup) (hi : PI X tg iter (lowI X.K W di)) (ok : BlkOk X.N X.env.scope scope own)
    (hg : ∀ (s : Shared) (H : Hp) (C : Addr) (cl : List (Str × Addr)) (fp : List Addr), PG (X.blk s H scope (compEnvC scope cl C X.env) fp) tg g) (ng : NG X.K g dg (own.map (·.2)))
    (ht : ∀ (s : Shared) (H : Hp) (C : Addr) (cl : List (Str × Addr)) (fp : List Addr), PTs (X.blk s H scope (compEnvC scope cl C X.env) fp) ifs (lowT X.K W0 dt))
    (he : ∀ (s : Shared) (H : Hp) (C : Addr) (cl : List (Str × Addr)) (fp : List Addr), PE (X.blk s H scope (compEnvC scope cl C X.env) fp) elt (low X.K W0 de)) (hs : ∀ x, foldedSetIterable iter X.env x = pure x := by intro _; rfl) :
    PE X (.ListComp elt [⟨tg, iter, ifs, 0⟩] scope pos) (low X.K W (dLc di dg dt de (own.map (·.2)))) := pei (pe_lc hc hN hi ok hg ht he hs) (low_lc ng)
end
end VD

namespace VD
open PySem PySem.Spec PyProof.Rows L2

/-! ### operators -/
section
variable {K : PySem.W.Frag} {X : Cx}
/-- the items of a list or a tuple, and a store in which the list may be forgotten -/
def seqOf (d : Dv) (S : Sto) (R : List Dv → Prop) : Prop := match d with
  | .tup xs => R xs
  | .rol xs => R xs
  | .ref a => match S a with
    | some (.lst xs) => R xs
    | _ => False
  | _ => False
def lstOf (d : Dv) (S : Sto) (R : List Dv → Prop) : Prop := match d with
  | .rol xs => R xs
  | .ref a => match S a with
    | some (.lst xs) => R xs
    | _ => False
  | _ => False
theorem lstOf_c {H : Hp} {S : Sto} {d : Dv} {v : V} {R : List Dv → Prop} (r : Rep K H v d) (hS : Abs K H S) (h : lstOf d S R) : ∃ a us xs, v = .ref a ∧ LC K H a us ∧ RepL K H us xs ∧ R xs := by
  unfold lstOf at h
  split at h
  · obtain ⟨a, us, rfl, ha, la⟩ := r.i_rol
    exact ⟨a, us, _, rfl, .inr ha, la, h⟩
  · rename_i a
    split at h
    · rename_i xs ea
      obtain ⟨us, h1, la⟩ := hS _ _ ea
      exact ⟨a, us, xs, r.i_ref, .inl h1, la, h⟩
    · exact h.elim
  · exact h.elim
theorem seqOf_i {H : Hp} {S : Sto} {d : Dv} {v : V} {R : List Dv → Prop} (r : Rep K H v d) (hS : Abs K H S) (h : seqOf d S R) : ∃ a us xs, v = .ref a ∧ (SqL K H a us ∨ SqT K H a us) ∧ RepL K H us xs ∧ R xs := by
  unfold seqOf at h
  split at h
  · obtain ⟨a, us, rfl, ha, la⟩ := r.i_tup
    exact ⟨a, us, _, rfl, .inr ha, la, h⟩
  · obtain ⟨a, us, rfl, ha, la⟩ := r.i_rol
    exact ⟨a, us, _, rfl, .inl ha.sq, la, h⟩
  · rename_i a
    split at h
    · rename_i xs ea
      obtain ⟨us, h1, la⟩ := hS _ _ ea
      exact ⟨a, us, xs, r.i_ref, .inl (.inl (.inl h1)), la, h⟩
    · exact h.elim
  · exact h.elim
def rdAdd : RD2 := fun x y S Q => match x, y with
  | .int i, .int j => Q (.int (i + j)) S
  | .tup xs, .tup ys => xs.length + ys.length ≤ sizeLine ∧ Q (.tup (xs ++ ys)) S
  | .str a, .str b => a.length + b.length ≤ sizeLine ∧ Q (.str (a ++ b)) S
  | x, y => lstOf x S fun xs => lstOf y S fun ys => xs.length + ys.length ≤ sizeLine ∧ ∀ p, S p = none → Q (.ref p) (put S p (.lst (xs ++ ys)))
abbrev rAddA (K : PySem.W.Frag) : R2 := fun x y H Q => rI0 (fun i j => .int (i + j)) x y H Q ∨ rCatA K x y H Q ∨ (∃ i j, x = .str i ∧ y = .str j ∧ i.length + j.length ≤ sizeLine ∧ Q (.str (i ++ j)) H) ∨ rCatC K x y H Q
theorem op_addA : OpR X (binaryOp .Add) (rAddA X.K) := op_add.or (op_catA.or (op_add_str.or op_catC))
theorem l_add : LR2 K (rAddA K) rdAdd := by
  intro x y H dx dy S Qh Q rx ry hS h k
  unfold rdAdd at h
  split at h
  · exact .inl ⟨_, _, rx.i_int, ry.i_int, k.now h (.int _) hS⟩
  · obtain ⟨a, xs, rfl, ha, la⟩ := rx.i_tup
    obtain ⟨b, ys, rfl, hb, lb⟩ := ry.i_tup
    obtain ⟨hl, q⟩ := h
    refine .inr (.inl ⟨a, b, xs, ys, rfl, rfl, ha, hb, by rw [la.length, lb.length]; exact hl, fun e => ?_, fun e e' => ?_, fun e e' p hp => ?_⟩)
    · rw [la.nil_iff.mp e] at q
      exact k.now q (.tup hb lb) hS
    · rw [lb.nil_iff.mp e', List.append_nil] at q
      exact k.now q (.tup ha la) hS
    · exact k _ _ _ _ q (Tk.new hp) (.tup (.inl (.inl upd_same)) ((la.mono (Tk.new hp)).append (lb.mono (Tk.new hp)))) (hS.tup hp)
  · exact .inr (.inr (.inl ⟨_, _, rx.i_str, ry.i_str, h.1, k.now h.2 (.str _) hS⟩))
  · obtain ⟨a, us, xs, rfl, l1, r1, h⟩ := lstOf_c rx hS h
    obtain ⟨b, vs, ys, rfl, l2, r2, h⟩ := lstOf_c ry hS h
    exact .inr (.inr (.inr ⟨a, b, us, vs, rfl, rfl, l1, l2, by rw [r1.length, r2.length]; exact h.1, fun p hp => k _ _ _ _ (h.2 p (hS.free hp)) (Tk.new hp) (.ref p) (hS.new hp (.mlst upd_same ((r1.mono (Tk.new hp)).append (r2.mono (Tk.new hp)))))⟩))
def rdSub : RD2 := fun x y S Q => match x, y with
  | .int i, .int j => Q (.int (i - j)) S
  | _, _ => False
theorem l_sub : LR2 K (rI0 fun i j => .int (i - j)) rdSub := by
  intro x y H dx dy S Qh Q rx ry hS h k
  unfold rdSub at h
  split at h
  · exact ⟨_, _, rx.i_int, ry.i_int, k.now h (.int _) hS⟩
  · exact h.elim
/-- a product fits -/
theorem mulok_l {i j : Int} (h1 : -(2 ^ 64) < i) (h2 : i < 2 ^ 64) : IntMulOk i j := .of_left (intBits_le_64 h1 h2)
theorem mulok_r {i j : Int} (h1 : -(2 ^ 64) < j) (h2 : j < 2 ^ 64) : IntMulOk i j := .of_right (intBits_le_64 h1 h2)
theorem op_mulK : OpR X (binaryOp .Mult) (rI IntMulOk fun i j => .int (i * j)) := opI fun _ _ _ _ _ _ _ hc q => mul_int q hc
/-- the same tuple -/
theorem tuple_mulS (l : Addr) (items : Array Value) (n : Nat) (dd : Option Addr) (sl : Array (Option Value)) (x : Int) (u : Tok) (c0 : (decide (x < -(2 ^ 63)) || decide (x ≥ 2 ^ 63)) = false) (c1 : (items.isEmpty || x == 1) = true) :
    Meets (Builtin.«tuple.__mul__» ⟨[.ref l, .int x u], []⟩) (fun _ R s => s.heap.get? l = some { cls := .type "tuple", dict := dd, data := .seq items n, slots := sl } ∧ R (.ok (.ret (Value.ref l))) s) :=
  .of_wp fun prog w A R s h => by
    obtain ⟨hp, g, d, tk, os⟩ := s
    obtain ⟨hl, h⟩ := h
    have f1 := AutoSeq1.idx_int
    wp_walk using wpAny_loadPart' hl
    repeat (first
      | (refine wpAny_ite_false (decide_eq_false (by rw [c0]; exact Bool.false_ne_true)) ?_; wp_walk using wpAny_loadPart' hl)
      | (refine wpAny_ite_true (decide_eq_true c1) ?_; wp_walk using wpAny_loadPart' hl))
    exact ⟨_, rfl, h⟩
def rRepS (K : PySem.W.Frag) : R2 := fun x y H Q => ∃ l k xs, x = .ref l ∧ y = .int k ∧ SqT K H l xs ∧ (xs = [] ∨ k = 1) ∧ 1 ≤ k ∧ k ≤ 1000 ∧ Q (.ref l) H
theorem op_repS : OpR X (binaryOp .Mult) (rRepS X.K) := by
  intro pins s σ H x y v u Q I rx ry h
  obtain ⟨l, k, xs, rfl, rfl, hT, hne, h1, h2, q⟩ := h
  cases rx
  obtain ⟨t, rfl⟩ := ry
  obtain ⟨its, r, ⟨⟨cls, dd, data, sl⟩, ho, hc, n, hd⟩, hs⟩ := I.tuple hT
  simp only at hc hd
  subst hc hd
  have c0 : (decide (k < -(2 ^ 63)) || decide (k ≥ 2 ^ 63)) = false := by
    rw [decide_eq_false (by omega), decide_eq_false (by omega)] <;> rfl
  have c1 : (its.toArray.isEmpty || k == 1) = true := by
    rcases hne with e | e
    · subst e; cases r; rfl
    · subst e; simp
  refine wpAny_binaryOp_repeat_ref (T := "tuple") (U := "int") (by decide) ⟨_, ho, rfl⟩ (fun s' => typeIs_int s' k t) noFill_tuple_mul F.fills_int_mul F.slot_int_rmul repeat_tuple F.slot_int_index.lookup
    (call_meets F.slot_int_rmul (typeIs_int s k t) F.entry_int_rmul (F.args_int_rmul_2 _ _) (int_rmul_tuple k t l its.toArray n dd sl)
      ⟨ho, rfl, ⟨_, ho, rfl⟩, call_meets F.slot_tuple_mul ⟨_, ho, rfl⟩ F.entry_tuple_mul (F.args_tuple_mul_2 _ _) (tuple_mulS l its.toArray n dd sl k t c0 c1) ⟨ho, ?_⟩⟩)
  exact ⟨.ref l, H, I, rfl, q⟩
def rdMul : RD2 := fun x y S Q => match x, y with
  | .int i, .int j => IntMulOk i j ∧ Q (.int (i * j)) S
  | .tup xs, .int k => (1 ≤ k ∧ k ≤ 1000 ∧ xs.length ≤ 1000) ∧ Q (.tup (List.replicate k.toNat xs).flatten) S
  | .ref a, .int k => match S a with
    | some (.lst xs) => (-(2 ^ 63) ≤ k ∧ k < 2 ^ 63 ∧ xs.length * k.toNat ≤ sizeLine) ∧ ∀ p, S p = none → Q (.ref p) (put S p (.lst (List.replicate k.toNat xs).flatten))
    | _ => False
  | _, _ => False
abbrev rMulA (K : PySem.W.Frag) : R2 := fun x y H Q => rI IntMulOk (fun i j => .int (i * j)) x y H Q ∨ rRepS K x y H Q ∨ rRepT K x y H Q ∨ rRep x y H Q
theorem flat_nil {α : Type} : ∀ k : Nat, (List.replicate k ([] : List α)).flatten = []
  | 0 => rfl
  | k + 1 => by rw [List.replicate_succ, List.flatten_cons, flat_nil k]; rfl
theorem l_mul : LR2 K (rMulA K) rdMul := by
  intro x y H dx dy S Qh Q rx ry hS h k
  unfold rdMul at h
  split at h
  · exact .inl ⟨_, _, rx.i_int, ry.i_int, h.1, k.now h.2 (.int _) hS⟩
  · rename_i xs m
    obtain ⟨a, us, rfl, ha, la⟩ := rx.i_tup
    obtain ⟨⟨h1, h2, h3⟩, q⟩ := h
    by_cases e : us = [] ∨ m = 1
    · refine .inr (.inl ⟨a, m, us, rfl, ry.i_int, ha, e, h1, h2, ?_⟩)
      have e2 : (List.replicate m.toNat xs).flatten = xs := by
        rcases e with e | e
        · rw [la.nil_iff.mp e, flat_nil]
        · subst e; simp
      rw [e2] at q
      exact k.now q (.tup ha la) hS
    · have e1 : us ≠ [] := fun z => e (.inl z)
      have e2 : m ≠ 1 := fun z => e (.inr z)
      refine .inr (.inr (.inl ⟨a, m, us, rfl, ry.i_int, ha, e1, by omega, h2, by rw [la.length]; exact h3, fun p hp => ?_⟩))
      exact k _ _ _ _ q (Tk.new hp) (.tup (.inl (.inl upd_same)) ((la.mono (Tk.new hp)).rep _)) (hS.tup hp)
  · rename_i a m
    split at h
    · rename_i xs ea
      obtain ⟨us, h1, l1⟩ := hS _ _ ea
      obtain ⟨⟨b1, b2, b3⟩, q⟩ := h
      exact .inr (.inr (.inr ⟨a, m, us, rx.i_ref, ry.i_int, h1, b1, b2, by rw [l1.length]; exact b3, fun p hp => k _ _ _ _ (q p (hS.free hp)) (Tk.new hp) (.ref p) (hS.new hp (.mlst upd_same ((l1.mono (Tk.new hp)).rep _)))⟩))
    · exact h.elim
  · exact h.elim
/-- // and % by a positive number -/
def CDivP (i j : Int) : Prop := 0 < j ∧ j.natAbs.log2 < 9000
theorem op_divP : OpR X (binaryOp .FloorDiv) (rI CDivP fun i j => .int (i / j)) := opI fun i j _ _ _ _ _ hc q => by
  have h1 : (0 : Int) < j := hc.1
  exact floordiv_int (by omega) (by rw [Int.fdiv_eq_ediv_of_nonneg i (by omega)]; exact q) (.inl (PyProof.noPylong_of_log2 hc.2))
theorem divp {i j : Int} (b : Nat) (h : 0 < j) (hb : j.natAbs < 2 ^ b) (h0 : 0 < b := by decide) (h9 : b ≤ 9000 := by decide) : CDivP i j := ⟨h, Nat.lt_of_lt_of_le (PySem.Flt.log2_lt_of h0 hb) h9⟩
def rdDiv : RD2 := fun x y S Q => match x, y with
  | .int i, .int j => CDivP i j ∧ Q (.int (i / j)) S
  | _, _ => False
theorem l_div : LR2 K (rI CDivP fun i j => .int (i / j)) rdDiv := by
  intro x y H dx dy S Qh Q rx ry hS h k
  unfold rdDiv at h
  split at h
  · exact ⟨_, _, rx.i_int, ry.i_int, h.1, k.now h.2 (.int _) hS⟩
  · exact h.elim
def rdMod : RD2 := fun x y S Q => match x, y with
  | .int i, .int j => 0 < j ∧ Q (.int (i % j)) S
  | _, _ => False
theorem l_mod : LR2 K (rI (fun _ j => 0 < j) fun i j => .int (i % j)) rdMod := by
  intro x y H dx dy S Qh Q rx ry hS h k
  unfold rdMod at h
  split at h
  · exact ⟨_, _, rx.i_int, ry.i_int, h.1, k.now h.2 (.int _) hS⟩
  · exact h.elim
def rdPow : RD2 := fun x y S Q => match x, y with
  | .int i, .int j => CPow i j ∧ Q (.int (i ^ j.toNat)) S
  | _, _ => False
theorem l_pow : LR2 K (rI CPow fun i j => .int (i ^ j.toNat)) rdPow := by
  intro x y H dx dy S Qh Q rx ry hS h k
  unfold rdPow at h
  split at h
  · exact ⟨_, _, rx.i_int, ry.i_int, h.1, k.now h.2 (.int _) hS⟩
  · exact h.elim
/-- + in place, of ints -/
def rdIAdd : RD2 := fun x y S Q => match x, y with
  | .int i, .int j => Q (.int (i + j)) S
  | _, _ => False
/-! one-place -/
variable {W : WX} {a b e : Expr} {da : DE} {pos : Pos}
def dNeg (da : DE) : DE := fun ρ S Q X => da ρ S (fun x S1 => match x with | .int i => Q (.int (-i)) S1 | _ => False) X
theorem d_neg (ha : PE X a (low X.K W da)) : PE X (.UnaryOp .USub a pos) (low X.K W (dNeg da)) := pei (pe_un un_neg ha) fun σ H Q ⟨ρ, S, Qh, Xh, hσ, hS, h, k, x⟩ =>
  ⟨ρ, S, _, Xh, hσ, hS, h, fun d1 S1 v1 H1 q1 t1 r1 a1 => by
    cases d1 with
    | int i => exact ⟨i, r1.i_int, (k.mono t1).now q1 (.int _) a1⟩
    | _ => exact q1.elim, x⟩

/-! ### comparisons -/
mutual
def py : Dv → PyData
  | .non => .none
  | .bl b => .bool b
  | .int i => .int i
  | .str x => .str x
  | .tup xs => .tuple (pyL xs)
  | .rol xs => .list (pyL xs)
  | .ty _ => .none
  | .ref _ => .none
  | .rod _ _ => .none
  | .obj _ _ _ => .none
def pyL : List Dv → List PyData
  | [] => []
  | x :: xs => py x :: pyL xs
/-- data all through -/
def isD : Dv → Bool
  | .non | .bl _ | .int _ | .str _ => true
  | .tup xs | .rol xs => isDL xs
  | .ty _ | .ref _ | .rod _ _ | .obj _ _ _ => false
def isDL : List Dv → Bool
  | [] => true
  | x :: xs => isD x && isDL xs
end
mutual
theorem Rep.dp {H : Hp} : ∀ (d : Dv) {v : V}, Rep K H v d → isD d = true → Dp K H v (py d)
  | .non, _, h, _ => by rw [h.i_non]; exact .non
  | .bl b, _, h, _ => by rw [h.i_bl]; exact .bl b
  | .int b, _, h, _ => by rw [h.i_int]; exact .int b
  | .str b, _, h, _ => by rw [h.i_str]; exact .str b
  | .tup xs, _, h, e => by
    obtain ⟨p, us, rfl, hs, l⟩ := h.i_tup
    exact .tup hs (RepL.dp xs l (by simpa [isD] using e))
  | .rol xs, _, h, e => by
    obtain ⟨p, us, rfl, hs, l⟩ := h.i_rol
    exact .lst hs.sq (RepL.dp xs l (by simpa [isD] using e))
  | .ty _, _, _, e => by cases e
  | .ref _, _, _, e => by cases e
  | .rod _ _, _, _, e => by cases e
  | .obj _ _ _, _, _, e => by cases e
theorem RepL.dp {H : Hp} : ∀ (ds : List Dv) {vs : List V}, RepL K H vs ds → isDL ds = true → DpAll K H vs (pyL ds)
  | [], _, h, _ => by rw [h.nil_i]; exact .nil
  | d :: ds, _, h, e => by
    obtain ⟨v, r, rfl, h1, h2⟩ := h.cons_i
    simp only [isDL, Bool.and_eq_true] at e
    exact .cons (Rep.dp d h1 e.1) (RepL.dp ds h2 e.2)
end
def shp (d : Dv) : Bool := isD d && SeqAt.shaped (py d)
def eqvD (x y : Dv) : Bool := PyData.eqv (py x) (py y)
def eqvL (x y : List Dv) : Bool := PyData.eqvAll (pyL x) (pyL y)
/-- a list at its address as data -/
def valOf (d : Dv) (S : Sto) : Dv := match d with
  | .ref a => match S a with
    | some (.lst xs) => .rol xs
    | _ => d
  | _ => d
def rdEqG (f : Bool → Bool) : RD2 := fun x y S Q => match x, y with
  | .int i, .int j => Q (.bl (f (decide (i = j)))) S
  | .bl i, .bl j => Q (.bl (f (decide (i = j)))) S
  | .str i, .str j => Q (.bl (f (decide (i = j)))) S
  | x, y => (shp (valOf x S) = true ∧ shp (valOf y S) = true) ∧ Q (.bl (f (eqvD (valOf x S) (valOf y S)))) S
abbrev rdEq := rdEqG fun b => b
abbrev rdNe := rdEqG fun b => !b
theorem dec_congr {p q : Prop} [Decidable p] [Decidable q] (h : p ↔ q) : decide p = decide q := by
  by_cases hp : p
  · rw [decide_eq_true hp, decide_eq_true (h.mp hp)]
  · rw [decide_eq_false hp, decide_eq_false fun z => hp (h.mpr z)]
/-- == (f the identity), != (f not) -/
def rEqG (K : PySem.W.Frag) (f : Bool → Bool) : R2 := fun x y H Q => (scal x y = true ∧ Q (.bl (f (decide (x = y)))) H) ∨ ∃ d e, Dp K H x d ∧ Dp K H y e ∧ SeqAt.shaped d = true ∧ SeqAt.shaped e = true ∧ Q (.bl (f (PyData.eqv d e))) H
theorem op_eqA (hu : X.A.units + 64 < cLine) : OpR X (compareOp .Eq) (rEqG X.K fun b => b) := op_eq.or (op_eqD hu)
theorem op_neA (hu : X.A.units + 64 < cLine) : OpR X (compareOp .NotEq) (rEqG X.K fun b => !b) := op_ne.or (op_neD hu)
theorem shp_i {d : Dv} (h : shp d = true) : isD d = true ∧ SeqAt.shaped (py d) = true := by
  unfold shp at h
  rwa [Bool.and_eq_true] at h
theorem l_eq {f : Bool → Bool} : LR2 K (rEqG K f) (rdEqG f) := by
  intro x y H dx dy S Qh Q rx ry hS h k
  unfold rdEqG at h
  split at h
  · rw [rx.i_int, ry.i_int]
    refine .inl ⟨rfl, ?_⟩
    rw [dec_congr (q := _ = _) ⟨V.int.inj, congrArg V.int⟩]
    exact k.now h (.bl _) hS
  · rw [rx.i_bl, ry.i_bl]
    refine .inl ⟨rfl, ?_⟩
    rw [dec_congr (q := _ = _) ⟨V.bl.inj, congrArg V.bl⟩]
    exact k.now h (.bl _) hS
  · rw [rx.i_str, ry.i_str]
    refine .inl ⟨rfl, ?_⟩
    rw [dec_congr (q := _ = _) ⟨V.str.inj, congrArg V.str⟩]
    exact k.now h (.bl _) hS
  · obtain ⟨⟨s1, s2⟩, q⟩ := h
    have z : ∀ {v : V} {d : Dv}, Rep K H v d → shp (valOf d S) = true → Dp K H v (py (valOf d S)) := by
      intro v d r s
      by_cases hv : ∃ a xs, d = .ref a ∧ S a = some (.lst xs)
      · obtain ⟨a, xs, rfl, e⟩ := hv
        have e2 : valOf (.ref a) S = .rol xs := by unfold valOf; dsimp only; rw [e]
        rw [e2] at s ⊢
        obtain ⟨us, h1, l1⟩ := hS _ _ e
        rw [r.i_ref]
        have i1 := (shp_i s).1
        exact .lst (.inl (.inl h1)) (RepL.dp _ l1 (by simpa [isD] using i1))
      · have e2 : valOf d S = d := by
          unfold valOf
          split
          · rename_i a
            split
            · rename_i xs e; exact absurd ⟨a, xs, rfl, e⟩ hv
            · rfl
          · rfl
        rw [e2] at s ⊢
        exact Rep.dp _ r (shp_i s).1
    exact .inr ⟨_, _, z rx s1, z ry s2, (shp_i s1).2, (shp_i s2).2, k.now q (.bl _) hS⟩
def rdCmp (p : Int → Int → Bool) : RD2 := fun x y S Q => match x, y with
  | .int i, .int j => Q (.bl (p i j)) S
  | _, _ => False
abbrev rdLt := rdCmp fun i j => decide (i < j)
abbrev rdGt := rdCmp fun i j => decide (j < i)
abbrev rdGe := rdCmp fun i j => decide (j ≤ i)
theorem l_cmp {p : Int → Int → Bool} : LR2 K (rI0 fun i j => .bl (p i j)) (rdCmp p) := by
  intro x y H dx dy S Qh Q rx ry hS h k
  unfold rdCmp at h
  split at h
  · exact ⟨_, _, rx.i_int, ry.i_int, k.now h (.bl _) hS⟩
  · exact h.elim
/-- is None, is not None -/
def isNon : Dv → Bool
  | .non => true
  | _ => false
def rdIsN (f : Bool → Bool) : RD2 := fun x y S Q => match y with
  | .non => Q (.bl (f (isNon x))) S
  | _ => False
end
/-! ### displays, subscripts, slices -/
section
variable {K : PySem.W.Frag} {X : Cx} {W : WX} {a b e : Expr} {es : List Expr} {da db : DE} {das : DA} {pos : Pos}
def dTup (das : DA) : DE := fun ρ S Q X => das ρ S (fun ds S1 => ds.length ≤ sizeLine ∧ Q (.tup ds) S1) X
theorem d_tup {x1} (h : PA X es (lowA X.K W das)) : PE X (.Tuple es x1 pos) (low X.K W (dTup das)) := pei (pe_tup h) fun σ H Q ⟨ρ, S, Qh, Xh, hσ, hS, h, k, x⟩ =>
  ⟨ρ, S, _, Xh, hσ, hS, h, fun ds S1 vs H1 q1 t1 r1 a1 => ⟨by rw [r1.length]; exact q1.1, fun p hp => k _ _ _ _ q1.2 (t1.trans (Tk.new hp)) (.tup (.inl (.inl upd_same)) (r1.mono (Tk.new hp))) (a1.tup hp)⟩, x⟩
def dLst (das : DA) : DE := fun ρ S Q X => das ρ S (fun ds S1 => ds.length ≤ sizeLine ∧ ∀ p, S1 p = none → Q (.ref p) (put S1 p (.lst ds))) X
theorem d_lst (h : PA X es (lowA X.K W das)) : PE X (.List es pos) (low X.K W (dLst das)) := pei (pe_lst h) fun σ H Q ⟨ρ, S, Qh, Xh, hσ, hS, h, k, x⟩ =>
  ⟨ρ, S, _, Xh, hσ, hS, h, fun ds S1 vs H1 q1 t1 r1 a1 => ⟨by rw [r1.length]; exact q1.1, fun p hp => k _ _ _ _ (q1.2 p (a1.free hp)) (t1.trans (Tk.new hp)) (.ref p) (a1.new hp (.mlst upd_same (r1.mono (Tk.new hp))))⟩, x⟩
theorem atI_len {α β : Type} {xs : List α} {ys : List β} {i : Int} {y : β} (hl : xs.length = ys.length) (h : atI ys i = some y) (P : β → α → Prop) (hp : ∀ (j : Nat) y, ys[j]? = some y → ∃ x, xs[j]? = some x ∧ P y x) : ∃ x, atI xs i = some x ∧ P y x := by
  unfold atI at h ⊢
  rw [hl]
  cases e : ixN ys.length i with
  | none => rw [e] at h; cases h
  | some j =>
    rw [e] at h
    exact hp j y h
def rdIx : RD2 := fun x y S Q => match x, y with
  | .tup xs, .int i => ∃ d, atI xs i = some d ∧ Q d S
  | .rol xs, .int i => ∃ d, atI xs i = some d ∧ Q d S
  | .ref a, .int i => match S a with
    | some (.lst xs) => ∃ d, atI xs i = some d ∧ Q d S
    | _ => False
  | .str z, .int i => z.length ≤ sizeLine ∧ ∃ c, atI z.cps.toList i = some c ∧ Q (.str ⟨#[c]⟩) S
  | _, _ => False
theorem l_ix : LR2 K (rIx K) rdIx := by
  intro x y H dx dy S Qh Q rx ry hS h k
  unfold rdIx at h
  split at h
  · obtain ⟨a, us, rfl, ha, la⟩ := rx.i_tup
    obtain ⟨d, hd, q⟩ := h
    obtain ⟨v, hv, rv⟩ := atI_len la.length hd (fun d v => Rep K H v d) fun j y hy => la.get hy
    exact .inr (.inl ⟨a, us, _, v, rfl, ry.i_int, ha, hv, k.now q rv hS⟩)
  · obtain ⟨a, us, rfl, ha, la⟩ := rx.i_rol
    obtain ⟨d, hd, q⟩ := h
    obtain ⟨v, hv, rv⟩ := atI_len la.length hd (fun d v => Rep K H v d) fun j y hy => la.get hy
    exact .inl ⟨a, us, _, v, rfl, ry.i_int, ha.sq, hv, k.now q rv hS⟩
  · rename_i a i
    split at h
    · rename_i xs ea
      obtain ⟨us, h1, la⟩ := hS _ _ ea
      obtain ⟨d, hd, q⟩ := h
      obtain ⟨v, hv, rv⟩ := atI_len la.length hd (fun d v => Rep K H v d) fun j y hy => la.get hy
      exact .inl ⟨a, us, _, v, rx.i_ref, ry.i_int, .inl (.inl h1), hv, k.now q rv hS⟩
    · exact h.elim
  · obtain ⟨hz, c, hc, q⟩ := h
    exact .inr (.inr ⟨_, _, c, rx.i_str, ry.i_int, hz, hc, k.now q (.str _) hS⟩)
  · exact h.elim
theorem d_ix (ha : PE X a (low X.K W da)) (hb : PE X b (low X.K W db)) (hs : PlainIx b := by intro _ _; rfl) : PE X (.Subscript a b pos) (low X.K W (dOp rdIx da db)) := pei (pe_ix ix_seq ha hb hs) (low_op l_ix)
/-- xs[i] = v -/
def rdSet : RDS := fun o i d S Q => match o, i with
  | .ref a, .int k => match S a with
    | some (.lst xs) => ∃ j, ixN xs.length k = some j ∧ Q (put S a (.lst (xs.set j d)))
    | _ => False
  | _, _ => False
theorem l_set : LRS K rSetL rdSet := by
  intro o i v H dO dI d S Qh Q rO rI r hS h k
  unfold rdSet at h
  split at h
  · rename_i a m
    split at h
    · rename_i xs ea
      obtain ⟨us, h1, la⟩ := hS _ _ ea
      obtain ⟨j, hj, q⟩ := h
      have tw : Tk K H (upd H a (.lst (us.set j v))) := Tk.write h1 wr_lst
      exact ⟨a, us, m, j, rO.i_ref, rI.i_int, h1, by rw [la.length]; exact hj, k _ _ q tw (hS.write h1 wr_lst (.mlst upd_same ((la.mono tw).set j (r.mono tw))))⟩
    · exact h.elim
  · exact h.elim
/-! slices -/
variable {dl dh : DO}
def oNone : DO := fun _ S Q _ => Q none S
def oSome (de : DE) : DO := fun ρ S Q X => de ρ S (fun d S1 => match d with | .int i => Q (some i) S1 | _ => False) X
def cutD {α : Type} (xs : List α) (lo hi : Option Int) : List α := (xs.drop (HT.sIx xs.length 0 lo)).take (HT.sIx xs.length xs.length hi - HT.sIx xs.length 0 lo)
def rdSl (x : Dv) (lo hi : Option Int) (S : Sto) (Q : QD) : Prop := match x with
  | .tup xs => Q (.tup (cutD xs lo hi)) S
  | .rol xs => ∀ p, S p = none → Q (.ref p) (put S p (.lst (cutD xs lo hi)))
  | .ref a => match S a with
    | some (.lst xs) => ∀ p, S p = none → Q (.ref p) (put S p (.lst (cutD xs lo hi)))
    | _ => False
  | .str z => z.length ≤ sizeLine ∧ Q (.str (cutS z lo hi)) S
  | _ => False
def dSl (de : DE) (dl dh : DO) : DE := fun ρ S Q X => de ρ S (fun d S1 => dl ρ S1 (fun lo S2 => dh ρ S2 (fun hi S3 => rdSl d lo hi S3 Q) X) X) X
/-! ### builtins -/
def rdLen : RDC := fun ds S Q => match ds with
  | [.tup xs] => Q (.int xs.length) S
  | [.rol xs] => Q (.int xs.length) S
  | [.ref a] => match S a with
    | some (.lst xs) => Q (.int xs.length) S
    | _ => False
  | [.str z] => z.length ≤ sizeLine ∧ Q (.int z.length) S
  | _ => False
theorem one_i {H : Hp} {vs : List V} {d : Dv} (r : RepL K H vs [d]) : ∃ v, vs = [v] ∧ Rep K H v d := by
  obtain ⟨v, t, rfl, h1, h2⟩ := r.cons_i
  exact ⟨v, by rw [h2.nil_i], h1⟩
theorem l_len : LRC K (fun xs H Q => ∃ x n, xs = [x] ∧ LenV K x H n ∧ Q (.int n) H) rdLen := by
  intro vs H ds S Qh Q r hS h k
  unfold rdLen at h
  split at h
  · obtain ⟨v, rfl, rr⟩ := one_i r
    obtain ⟨a, us, rfl, ha, la⟩ := rr.i_tup
    exact ⟨_, _, rfl, .inr ⟨us, ha, la.length.symm⟩, k.now h (.int _) hS⟩
  · obtain ⟨v, rfl, rr⟩ := one_i r
    obtain ⟨a, us, rfl, ha, la⟩ := rr.i_rol
    exact ⟨_, _, rfl, .inl ⟨us, ha.sq, la.length.symm⟩, k.now h (.int _) hS⟩
  · rename_i a
    obtain ⟨v, rfl, rr⟩ := one_i r
    split at h
    · rename_i xs ea
      obtain ⟨us, h1, la⟩ := hS _ _ ea
      rw [rr.i_ref]
      exact ⟨_, _, rfl, .inl ⟨us, .inl (.inl h1), la.length.symm⟩, k.now h (.int _) hS⟩
    · exact h.elim
  · obtain ⟨v, rfl, rr⟩ := one_i r
    rw [rr.i_str]
    exact ⟨_, _, rfl, ⟨h.1, rfl⟩, k.now h.2 (.int _) hS⟩
  · exact h.elim
/-- a function on ints -/
def rdInt1 (f : Int → Dv) : RDC := fun ds S Q => match ds with
  | [.int i] => Q (f i) S
  | _ => False
def rdInt : RDC := fun ds S Q => match ds with
  | [.int i] => Q (.int i) S
  | [.bl b] => Q (.int (if b then 1 else 0)) S
  | _ => False
theorem l_int : LRC K (fun xs H Q => (∃ i, xs = [.int i] ∧ Q (.int i) H) ∨ ∃ k, xs = [.bl k] ∧ Q (.int (if k then 1 else 0)) H) rdInt := by
  intro vs H ds S Qh Q r hS h k
  unfold rdInt at h
  split at h
  · obtain ⟨v, rfl, rr⟩ := one_i r
    rw [rr.i_int]
    exact .inl ⟨_, rfl, k.now h (.int _) hS⟩
  · obtain ⟨v, rfl, rr⟩ := one_i r
    rw [rr.i_bl]
    exact .inr ⟨_, rfl, k.now h (.int _) hS⟩
  · exact h.elim
def rdInt2 (f : Int → Int → Dv) : RDC := fun ds S Q => match ds with
  | [.int i, .int j] => Q (f i j) S
  | _ => False
/-! isinstance -/
/-- the type of a thing -/
def tyD (S : Sto) : Dv → Option Value
  | .non => some (.type "NoneType")
  | .bl _ => some (.type "bool")
  | .int _ => some (.type "int")
  | .str _ => some (.type "str")
  | .tup _ => some (.type "tuple")
  | .rol _ => some (.type "list")
  | .rod _ _ => some (.type "dict")
  | .obj C _ _ => some (.ref C)
  | .ref a => match S a with
    | some (.lst _) => some (.type "list")
    | some (.dK _) => some (.type "dict")
    | some (.ins C _ _) => some (.ref C)
    | _ => none
  | .ty _ => none
def tyNames : List String := ["int", "bool", "str", "tuple", "list", "dict"]
def isiB (t n : String) : Bool := t == n || (t == "bool" && n == "int")
/-- what the text says of an own class whose instances are asked -/
structure OwnT (K : PySem.W.Frag) (C : Addr) : Prop where
  cl : Cls K C
  ha : PySem.W.findIn K (.ref C) "__class__" = some (some (.builtin "object.__class__"))
  hn : PySem.W.specialIn K (.builtin "object.__class__") "__get__" = some (some (.builtin "getset_descriptor.__get__"))
  htk : PySem.W.takesIn K (.builtin "object.__class__") = some true
  hm : PySem.W.mroIn K C (.type "object") = some true
  isC : PySem.W.isClsIn K C = true
  ty : PySem.W.typeIn K (.ref C) = some (.type "type")
  nb : ∀ n ∈ tyNames, PySem.W.mroIn K C (.type n) = some false
/-- own classes, and of pairs of them whether the one is of the other -/
structure OTab where
  cs : List Addr
  sub : List (Addr × Addr × Bool)
structure OTab.Ok (K : PySem.W.Frag) (T : OTab) : Prop where
  own : ∀ C ∈ T.cs, OwnT K C
  sub : ∀ p ∈ T.sub, PySem.W.kitOne K (.ref p.1) (.ref p.2.1) = some p.2.2
theorem otab_nil {K : PySem.W.Frag} : OTab.Ok K ⟨[], []⟩ := ⟨fun _ h => (by cases h), fun _ h => (by cases h)⟩
inductive TyY (K : PySem.W.Frag) (H : Hp) : V → Value → Prop where
  | x {v : V} {t : Value} (h : TyX K H v t) : TyY K H v t
  | ins {a C dx : Addr} {fs : List (Str × V)} (e : InsAt H a C dx fs) (O : OwnT K C) : TyY K H (.ref a) (.ref C)
theorem kit_ofY {pins : List (Addr × Obj)} {σ : L2.St} {H : Hp} {s : Shared} {x : V} {u t : Value} (I : Inv X pins σ H s) (rx : RelV x u) (ty : TyY X.K H x t) : ∃ P : Heap → Prop, PySem.W.KitX X.K u t P ∧ P s.heap ∧ u ≠ .builtin "__main__.__loader__#opaque" := by
  cases ty with
  | x h => exact kit_of I rx h
  | ins e O =>
    cases (show u = Value.ref _ from rx)
    obtain ⟨mA, Om, _⟩ := insAt_get I.hok e
    obtain ⟨od, J, _⟩ := Om.look
    exact ⟨_, PySem.W.kitx_own (O.cl.get _) O.cl.hd O.ha O.hn O.htk O.hm, J, fun z => nomatch z⟩
/-- classes asked for -/
inductive ClsD : V → Dv → Value → Prop where
  | ty (n : String) : ClsD (.ty n) (.ty n) (.type n)
  | own (C : Addr) : ClsD (.ref C) (.ref C) (.ref C)
/-- isinstance(x, c); isinstance(x, (S, T)) by a tuple of any make -/
def rIsiY (K : PySem.W.Frag) : List V → Hp → VK → Prop := fun xs H Q => ∃ (x c : V) (t u : Value) (b : Bool), xs = [x, c] ∧ ClsV c u ∧ TyY K H x t ∧ PySem.W.kitOne K t u = some b ∧ Q (.bl b) H
def rIsiTY (K : PySem.W.Frag) : List V → Hp → VK → Prop := fun xs H Q => ∃ (x : V) (tp : Addr) (cs : List V) (t : Value) (us : List Value) (b : Bool), xs = [x, .ref tp] ∧ SqT K H tp cs ∧ Paired ClsV cs us ∧ TyY K H x t ∧ PySem.W.kitAny K t us = some b ∧ Q (.bl b) H
theorem call_isiY : CallR X (.builtin "isinstance") (rIsiY X.K) := by
  intro pins s σ H xs us Q I r h
  obtain ⟨x, c, t, u, b, rfl, k, ty, e, q⟩ := h
  obtain ⟨u1, u2, rfl, r1, r2⟩ := vals2 r
  obtain rfl := k.eq r2
  obtain ⟨P, Z, p, hx⟩ := kit_ofY I r1 ty
  exact PySem.W.kia_one Z I.kIn p e hx fun tk => ⟨.bl b, H, I.tok tk, rfl, q⟩
theorem call_isiTY : CallR X (.builtin "isinstance") (rIsiTY X.K) := by
  intro pins s σ H xs us Q I r h
  obtain ⟨x, tp, cs, t, ws, b, rfl, hT, k, ty, e, q⟩ := h
  obtain ⟨u1, u2, rfl, r1, r2⟩ := vals2 r
  cases (show u2 = Value.ref tp from r2)
  obtain ⟨P, Z, p, hx⟩ := kit_ofY I r1 ty
  obtain ⟨its, rv, ⟨o, h1, h2, n, h3⟩, hz⟩ := I.tuple hT
  obtain rfl := ClsV.all k rv
  obtain ⟨oc, od, dt, sl⟩ := o
  simp only at h2 h3
  subst h2 h3
  exact PySem.W.kia_tup Z I.kIn p h1 e hx fun tk => ⟨.bl b, H, I.tok tk, rfl, q⟩
theorem call_isiA : CallR X (.builtin "isinstance") (fun xs H Q => rIsiY X.K xs H Q ∨ rIsiTY X.K xs H Q) := call_isiY.or call_isiTY
/-- whether a thing of the type t is one of the class c -/
inductive IsiR (T : OTab) : Value → Dv → Bool → Prop where
  | bb (t n : String) (h : tyNames.contains n = true) : IsiR T (.type t) (.ty n) (isiB t n)
  | bo (t : String) (C : Addr) (h : C ∈ T.cs) : IsiR T (.type t) (.ref C) false
  | ob (C : Addr) (n : String) (h : C ∈ T.cs) (hn : tyNames.contains n = true) : IsiR T (.ref C) (.ty n) false
  | oo (C D : Addr) (b : Bool) (h : C ∈ T.cs) (hs : (C, D, b) ∈ T.sub) : IsiR T (.ref C) (.ref D) b
inductive IsiRs (T : OTab) (t : Value) : List Dv → Bool → Prop where
  | nil : IsiRs T t [] false
  | cons {c : Dv} {cs : List Dv} {b r : Bool} : IsiR T t c b → IsiRs T t cs r → IsiRs T t (c :: cs) (b || r)
end
end VD

namespace VD
open PySem PySem.Spec PyProof.Rows L2

/-! ### a def keeps its promise -/
def startN (n : Nat) (ds : List Dv) : Rho := ds.map some ++ List.replicate (n - ds.length) none
/-- the reading of a def with so many names follows from its promise -/
def Rd (t : DS) (n : Nat) (sp : SpD) : Prop := ∀ ds S Q Xh, sp ds S Q Xh → t { nx := fun _ S' => Q .non S', rt := Q, ex := fun c da _ S' => Xh c da S' } (startN n ds) S
abbrev WF (E : XK) : WX := fun cls d _ H => E cls d H
section
variable {P : Program} {w : World} {K : PySem.W.Frag} {mg : Str → Option Value} {base : Heap}
theorem okD {x qual : Str} {st : Stmt} {f : Addr} {fd : FuncData} {N ps : List Str} {k : Nat} {sp : SpD} (F : Fun K x qual st f fd) (Sc : FnScope N ps (defScope st)) (len : ∀ ds S Q X, sp ds S Q X → ds.length = ps.length)
    (t : DS) (hb : ∀ (cdv : Value) (A : Around) (outer : List Env) (s : Shared) (H : Hp) (E : XK), RoomG k (A.deeper (envOfC qual (defScope st) s.heap.objs.size f cdv)) →
      PSs (cxOf (L2.CX P w) P w K mg base N qual (defScope st) f cdv A outer s H E) (defBody st) (lowS K (WF E) t))
    (hr : Rd t N.length sp) : FnD P w K mg base (k + 1) f fd ps sp := by
  refine funG F Sc (fun vs H Q E ⟨ds, S, Qh, Xh, r, a, h, _⟩ => by rw [r.length]; exact len _ _ _ _ h) fun cdv A outer s H vs Q E hr' ⟨ds, S, Qh, Xh, r, a, h, k1, k2⟩ => ?_
  refine ⟨_, hb cdv A outer s H E hr', startD N ds, S, _, RepS.start r, a, hr ds S Qh Xh h, ⟨fun ρ' S' σ' H' q t _ a => k1 .non S' .non H' q t .non a, k1, fun _ _ _ _ (q : False) => False.elim q, fun _ _ _ _ (q : False) => False.elim q, fun c da ρ' S' σ' H' q t _ a => k2 c da S' H' q t a⟩⟩
end

theorem tkF {P : Program} {w : World} {K : PySem.W.Frag} {mg : Str → Option Value} {base : Heap} {N : List Str} {qual : Str} {scope : Scope} {f : Addr} {cd : Value} {A : Around} {outer : List Env} {s : Shared} {H : Hp} {E : XK} :
    Takes (cxOf (L2.CX P w) P w K mg base N qual scope f cd A outer s H E) (WF E) := takes_of rfl rfl rfl rfl
theorem d_ty {X : Cx} {W : WX} {x : Str} {n : String} {pos : Pos} (hm : X.mg x = none) (hv : bootBuiltins x = some (.type n)) (hg : Gl X x := by rfl) (hn : x ≠ "__name__" := by decide) (hd : (x == ("__debug__" : Str)) = false := by decide) :
    PE X (.Name x pos) (low X.K W (dC (.ty n))) := d_bltn (v := .ty n) hm hv rfl (fun _ => .ty n) hg hn hd
/-! ### written values -/
section
variable {K : PySem.W.Frag}
theorem v_ref {a : Addr} : VRep K (.ref a) (.ref a) := .mk (v := .ref a) rfl fun _ => .ref a
inductive VReps (K : PySem.W.Frag) : List Value → List Dv → Prop
  | nil : VReps K [] []
  | cons {u : Value} {us : List Value} {d : Dv} {ds : List Dv} : VRep K u d → VReps K us ds → VReps K (u :: us) (d :: ds)
theorem VReps.rep : ∀ {us : List Value} {ds : List Dv}, VReps K us ds → ∃ vs, Vals vs us ∧ ∀ H, RepL K H vs ds
  | _, _, .nil => ⟨[], .nil, fun _ => .nil⟩
  | _, _, .cons (.mk r h) t => by
    obtain ⟨vs, h1, h2⟩ := VReps.rep t
    exact ⟨_ :: vs, .cons r h1, fun H => .cons (h H) (h2 H)⟩
end

theorem bt_int : bootBuiltins "int" = some (.type "int") := by decide +kernel
theorem bt_list : bootBuiltins "list" = some (.type "list") := by decide +kernel
theorem bt_len : bootBuiltins "len" = some (.builtin "len") := by decide +kernel
theorem bt_isinstance : bootBuiltins "isinstance" = some (.builtin "isinstance") := by decide +kernel
theorem bt_repr : bootBuiltins "repr" = some (.builtin "repr") := by decide +kernel
/-! ### an own exception without fields -/
section
variable {X : Cx} {C : Addr} {bmB : List Value} {B newId initId : String}
theorem pmk_own0 {x : Str} {p pos : Pos} (F : ExcBaseFacts B newId initId bmB) (q : PySem.W.excIn X.K C bmB newId = true) (gC : X.mg x = some (.ref C)) (kC : PySem.W.keepIn X.K (.ref C) = true) (r : Raises X (.ref C)) (hg : Gl X x)
    (hdb : (x == ("__debug__" : Str)) = false := by decide) : PMk X (.Call (.Name x p) [] [] pos) (fun _ H Q => Q (.ref C) none H) := by
  intro pins s σ H Q I h
  refine wpAny_Call_Name_kw (ld_glob I hg gC ?_ hdb)
  refine PySem.W.callWith_K0 I.kIn kC ?_
  show wpAny _ _ (call (.ref C) []) _ _ _
  obtain ⟨bm, N, nm, qn, bs, hdct, sn, sub, ab, col, dd, k0, k1, k2, k3, k5, mN, hC, hN, hni, T⟩ := exc_obj I.kIn q
  refine wpAny_call_exc_subT F T hC hN hni (fun h' e hm => ?_) (by show 0 ≤ sizeLine; exact Nat.zero_le _)
  exact mk_of I hm r h (I.hok.gone hm.new)
/-- what the written part says of such a class -/
structure Exc0 (K : PySem.W.Frag) (C : Addr) : Prop where
  q : PySem.W.excIn K C [.type "ValueError", .type "Exception", .type "BaseException", .type "object"] "ValueError.__new__" = true
  kp : PySem.W.keepIn K (.ref C) = true
  sb : PySem.W.subIn K (.ref C) (.type "BaseException") = some true
  ty : PySem.W.typeIn K (.ref C) = some (.type "type")
def dRaise (cls : Value) : DS := fun D ρ S => D.ex cls none ρ S
end

/-! ### methods of lists -/
abbrev RDM := Dv → List Dv → Sto → QD → Prop
def isLst (d : Dv) (S : Sto) : Prop := match d with
  | .ref a => match S a with
    | some (.lst _) => True
    | _ => False
  | _ => False
def dBM (rd : RDM) (do_ : DE) (das : DA) : DE := fun ρ S Q X => do_ ρ S (fun x S1 => isLst x S1 ∧ das ρ S1 (fun ds S2 => rd x ds S2 Q) X) X
section
variable {K : PySem.W.Frag} {X : Cx} {W : WX} {o e : Expr} {es : List Expr} {do_ : DE} {das : DA}
def rdAppend : RDM := fun x ds S Q => match x, ds with
  | .ref a, [y] => match S a with
    | some (.lst xs) => xs.length < sizeLine ∧ Q .non (put S a (.lst (xs ++ [y])))
    | _ => False
  | _, _ => False
end
/-! ### the end of a law -/
/-- a law's promise -/
def spLaw : SpD := fun ds S Q _ => ∃ ns : List Int, ds = [.rol (ns.map Dv.int)] ∧ ns.length ≤ 63 ∧ S = (fun _ => none) ∧ ∀ S', Q (.bl true) S'
theorem law_in {K : PySem.W.Frag} {H : Hp} {a : Addr} {ns : List Int} (hl : ns.length ≤ 63) (h : CL K H a (ns.map V.int)) : lowF K spLaw [.ref a] H (fun v _ => v = .bl true) fun _ _ _ => False := by
  refine ⟨[.rol (ns.map Dv.int)], fun _ => none, fun d _ => d = .bl true, X0, .cons (.rol h (.of_ints ns)) .nil, ?_, ⟨ns, rfl, hl, rfl, fun _ => rfl⟩, ?_, ?_⟩
  · intro a m e
    cases e
  · intro d S' v H' q t r a
    have q' : d = .bl true := q
    subst q'
    exact r.i_bl
  · intro c da S' H' q
    exact False.elim q
theorem law_out {P : Program} {w : World} (H : Hp) (s : Shared) (e : Value) (s' : Shared) (h : L2.CX P w [] H s (fun _ _ _ => False) e s') : False := by
  obtain ⟨_, _, _, _, _, _, _, _, _, _, _, _, z⟩ := h
  exact z
end VD

namespace VD
open PySem PySem.Spec PyProof.Rows L2

/-- .. with one test -/
theorem lc_filter {g : DG} {tt : DT} {te : DE} {vs : List Nat} {ρ : Rho} {Q : QD} {items : List Dv} {stay : Sto → Prop} {S : Sto} (c : Dv → Bool) (f : Dv → Dv) (hl : items.length ≤ sizeLine) (hst : ∀ p m, S p = none → stay (put S p m))
    (he : ∀ x ∈ items, ∀ (T : Sto) (K : QD) (N : Sto → Prop), Sub S T → (c x = true → K (f x) T) → (c x = false → N T) → g x (wipeD ρ vs) T fun ρ2 S2 => tt ρ2 S2 (fun b S3 => if b = true then te ρ2 S3 K X0 else N S3) X0) (hQ : ∀ p, S p = none → Q (.ref p) (put S p (.lst ((items.filter c).map f)))) : LcGo g tt te vs ρ Q items stay S := by
  intro p hp
  refine ⟨fun i T => T = put S p (.lst (((items.take i).filter c).map f)), rfl, fun i T _ h => by rw [h]; exact hst p _ hp, fun i x T hx h => ?_, fun T h => ?_⟩
  · subst h
    refine he x (List.mem_of_getElem? hx) _ _ _ (Sub.new hp) (fun hc => ?_) (fun hc => ?_)
    · refine ⟨((items.take i).filter c).map f, put_same, ?_, ?_⟩
      · rw [List.length_map]
        have h1 := (List.getElem?_eq_some_iff.mp hx).1
        have h2 := List.length_filter_le c (items.take i)
        rw [List.length_take] at h2
        omega
      · show put _ _ _ = put _ _ _
        rw [put_put, List.take_add_one, hx]
        simp [List.filter_append, hc]
    · show put _ _ _ = put _ _ _
      rw [List.take_add_one, hx]
      simp [List.filter_append, hc]
  · rw [show T = _ from h, List.take_length]
    exact hQ p hp
/-- a sequence by what holds between the two -/
theorem cut_seq {a b : DS} {D : DEnds} {ρ : Rho} {S : Sto} (M : Rho → Sto → Prop) (h1 : ∀ N : Rho → Sto → Prop, (∀ ρ S, M ρ S → N ρ S) → a { D with nx := N } ρ S) (h2 : ∀ ρ S, M ρ S → b D ρ S) : dSeq a b D ρ S := h1 _ h2
/-- a loop over names and a store by an invariant -/
theorem for_go {g : DG} {tb : DS} {D : DEnds} {ρ : Rho} {items : List Dv} {stay : Sto → Prop} {S : Sto} (Wv : Nat → Rho → Sto → Prop) (h0 : Wv 0 ρ S) (hst : ∀ i ρ S, i ≤ items.length → Wv i ρ S → stay S)
    (hs : ∀ i x ρ S, items[i]? = some x → Wv i ρ S → g x ρ S fun ρ2 S2 => tb { D with nx := Wv (i + 1), ct := Wv (i + 1), bk := D.nx } ρ2 S2) (hd : ∀ ρ S, Wv items.length ρ S → D.nx ρ S) : ForGo g tb D ρ items stay S := ⟨Wv, h0, hst, hs, hd⟩
theorem atI_nn {α : Type} {xs : List α} {i : Int} (h0 : 0 ≤ i) : atI xs i = xs[i.toNat]? := by
  unfold atI ixN
  rw [if_pos h0]
  by_cases h : i < xs.length
  · rw [if_pos h]; rfl
  · rw [if_neg h, List.getElem?_eq_none (by omega)]; rfl
theorem atI_0 {α : Type} {xs : List α} : atI xs 0 = xs[0]? := atI_nn (by decide)
theorem atI_1 {α : Type} {xs : List α} : atI xs 1 = xs[1]? := atI_nn (by decide)
theorem atI_2 {α : Type} {xs : List α} : atI xs 2 = xs[2]? := atI_nn (by decide)
theorem atI_3 {α : Type} {xs : List α} : atI xs 3 = xs[3]? := atI_nn (by decide)
theorem atI_4 {α : Type} {xs : List α} : atI xs 4 = xs[4]? := atI_nn (by decide)
theorem atI_5 {α : Type} {xs : List α} : atI xs 5 = xs[5]? := atI_nn (by decide)
theorem atI_6 {α : Type} {xs : List α} : atI xs 6 = xs[6]? := atI_nn (by decide)
theorem atI_7 {α : Type} {xs : List α} : atI xs 7 = xs[7]? := atI_nn (by decide)
theorem ixN_30 : ixN 3 0 = some 0 := rfl
theorem ixN_31 : ixN 3 1 = some 1 := rfl
theorem ixN_32 : ixN 3 2 = some 2 := rfl
theorem ixN_50 : ixN 5 0 = some 0 := rfl
theorem ixN_51 : ixN 5 1 = some 1 := rfl
theorem ixN_52 : ixN 5 2 = some 2 := rfl
theorem ixN_53 : ixN 5 3 = some 3 := rfl
theorem ixN_54 : ixN 5 4 = some 4 := rfl
/-! equal tuples of ints -/
end VD

namespace VD
open PySem PySem.Spec PyProof.Rows L2
/-! ### zip, enumerate -/
def pairs (xs ys : List Dv) : List Dv := List.zipWith (fun x y => .tup [x, y]) xs ys
/-- this list is still there -/
def isL (d : Dv) (S : Sto) (xs : List Dv) : Prop := lstOf d S fun zs => zs = xs
section
variable {K : PySem.W.Frag} {H0 : Hp} {a b : Addr} {us vs : List V} {xs ys : List Dv}
end
section
variable {X : Cx} {W : WX} {e e2 : Expr} {das : DA} {p pos tpos : Pos} {elts : List Expr} {kk : Nat}
end
end VD

namespace VD
open PySem PySem.Spec PyProof.Rows L2
/-! ### try with except clauses (no names) -/
/-- which clause takes an exception: of each clause, the classes it is known to take or not -/
def wD : List (List (Value × Bool) × DS) → DEnds → Value → Option Addr → Rho → Sto → Prop
  | [], D, cls, da, ρ, S => D.ex cls da ρ S
  | (tab, s) :: r, D, cls, da, ρ, S => ∃ b, (cls, b) ∈ tab ∧ (b = true → s { D with ex := fun _ _ _ _ => False } ρ S) ∧ (b = false → wD r D cls da ρ S)
def dTry (b : DS) (l : List (List (Value × Bool) × DS)) : DS := fun D ρ S => b { D with ex := wD l D } ρ S
inductive HdsD (X : Cx) : List ExceptHandler → List (List (Value × Bool) × DS) → List (Value × (Addr → Value → Option Addr → TS)) → Prop
  | nil : HdsD X [] [] []
  | cons {x : Str} {c : Value} {s : DS} {tab : List (Value × Bool)} {b₀ : Stmt} {suite : List Stmt} {np pos' : Pos} {hds : List ExceptHandler} {l : List (List (Value × Bool) × DS)} {l' : List (Value × (Addr → Value → Option Addr → TS))}
      (hc : Names X x c) (ht : ∀ p ∈ tab, PySem.W.exmOne X.K p.1 c = some p.2) (hsu : ∀ (a : Addr) (pn : List (Addr × Obj)), PSs (X.suite a pn) (b₀ :: suite) (lowS X.K W0 s)) (r : HdsD X hds l l') :
      HdsD X (.ExceptHandler (some (.Name x np)) none (b₀ :: suite) pos' :: hds) ((tab, s) :: l) ((c, fun _ _ _ => lowS X.K W0 s) :: l')
theorem HdsD.ok {X : Cx} {hds : List ExceptHandler} {l : List (List (Value × Bool) × DS)} {l' : List (Value × (Addr → Value → Option Addr → TS))} (h : HdsD X hds l l') : HdsOk X hds l' := by
  induction h with
  | nil => exact .nil
  | cons hc ht hsu r ih => exact .cons hc (fun a oe cls d pn _ _ => hsu a _) ih
theorem HdsD.go {X : Cx} {W : WX} {H : Hp} {Dh : DEnds} {D : Ends} (k : LkS X.K W H Dh D) {hds : List ExceptHandler} {l : List (List (Value × Bool) × DS)} {l' : List (Value × (Addr → Value → Option Addr → TS))} (h : HdsD X hds l l') :
    ∀ cls da, LkG X.K H (wD l Dh cls da) (wMany X.K W D l' cls da) := by
  induction h with
  | nil => exact fun cls da => k.ex cls da
  | cons hc ht hsu r ih =>
    intro cls da ρ S σ' H' ⟨b, hb, hy, hn⟩ t rs a
    refine ⟨b, ht _ hb, fun e p hp => ⟨ρ, S, _, rs, a, hy e, ⟨k.nx.mono t, k.rt.mono t, k.bk.mono t, k.ct.mono t, fun _ _ _ _ _ _ q => q.elim⟩⟩, fun e => ih cls da ρ S σ' H' (hn e) t rs a⟩
theorem s_try {X : Cx} {W : WX} {body : List Stmt} {h₀ : ExceptHandler} {hds : List ExceptHandler} {b : DS} {l : List (List (Value × Bool) × DS)} {l' : List (Value × (Addr → Value → Option Addr → TS))} {pos : Pos} (tk : Takes X W)
    (hb : ∀ (W' : WX) (pn : List (Addr × Obj)) (xe : Value → Shared → Prop), Takes (X.tr pn xe) W' → PSs (X.tr pn xe) body (lowS X.K W' b)) (hh : HdsD X (h₀ :: hds) l l')
    (hs : X.stack = X.env :: X.outer := by rfl) (hf : X.env.frame = some X.env.locals := by rfl) : PS X (.Try body (h₀ :: hds) [] [] pos) (lowS X.K W (dTry b l)) :=
  psi (ps_try_many (tb := fun W' => lowS X.K W' b) hs hf tk (fun W' pn xe tk' _ => hb W' pn xe tk') hh.ok) fun D σ H ⟨ρ, S, Dh, hσ, hS, h, k⟩ =>
    ⟨ρ, S, { Dh with ex := wD l Dh }, hσ, hS, h, ⟨k.nx, k.rt, k.bk, k.ct, hh.go k⟩⟩
theorem nm_own {X : Cx} {x : Str} {c : Value} (h : X.mg x = some c) (hg : Gl X x := by rfl) (hd : (x == ("__debug__" : Str)) = false := by decide) : Names X x c := ⟨hg, hd, .inl h⟩
theorem tabs_nil {K : PySem.W.Frag} {c : Value} : ∀ p ∈ ([] : List (Value × Bool)), PySem.W.exmOne K p.1 c = some p.2 := fun _ h => by cases h
theorem tabs_cons {K : PySem.W.Frag} {c v : Value} {b : Bool} {tab : List (Value × Bool)} (h : PySem.W.exmOne K v c = some b) (r : ∀ p ∈ tab, PySem.W.exmOne K p.1 c = some p.2) : ∀ p ∈ (v, b) :: tab, PySem.W.exmOne K p.1 c = some p.2 := fun p hp => by
  rcases List.mem_cons.mp hp with rfl | hp
  · exact h
  · exact r p hp
theorem exm_mk {K : PySem.W.Frag} {S : Addr} {cls : Value} {b : Bool} (h1 : PySem.W.subIn K (.ref S) (.type "BaseException") = some true) (h2 : PySem.W.isClsIn K S = true) (h3 : PySem.W.typeIn K (.ref S) = some (.type "type")) (h4 : PySem.W.subIn K cls (.ref S) = some b) :
    PySem.W.exmOne K cls (.ref S) = some b := by
  have e1 : (PySem.W.subIn K (.ref S) (.type "BaseException") == some true) = true := by rw [h1] <;> rfl
  have e2 : ((PySem.W.clsIn K S).isSome && PySem.W.typeIn K (.ref S) == some (.type "type")) = true := by
    have h2' : (PySem.W.clsIn K S).isSome = true := h2
    rw [h2', h3] <;> rfl
  show (if (PySem.W.subIn K (.ref S) (.type "BaseException") == some true) = true then (if ((PySem.W.clsIn K S).isSome && PySem.W.typeIn K (.ref S) == some (.type "type")) = true then PySem.W.subIn K cls (.ref S) else none) else none) = some b
  rw [if_pos e1, if_pos e2]
  exact h4
/-! ### is True -/
def isBlV : Dv → Bool → Bool
  | .bl c, b => decide (c = b)
  | _, _ => false
def rdIsB (f : Bool → Bool) : RD2 := fun x y S Q => match y with
  | .bl b => Q (.bl (f (isBlV x b))) S
  | _ => False
section
variable {K : PySem.W.Frag} {X : Cx} {W : WX}
/-! ### str(i), int(z), z * i -/
def rdStrI : RDC := fun ds S Q => match ds with
  | [.int i] => i.natAbs.log2 < 1920 ∧ Q (.str (toString i)) S
  | _ => False
def rdIntS : RDC := fun ds S Q => match ds with
  | [.str a] => ∃ n, PySem.intText? a = some n ∧ a.length ≤ 640 ∧ Q (.int n) S
  | _ => False
def repStr (z : Str) (n : Int) : Str := ⟨(List.replicate n.toNat z.cps).foldl (· ++ ·) #[]⟩
def rdMulS : RD2 := fun x y S Q => match x, y with
  | .str z, .int n => (2 ≤ n ∧ n ≤ 1000 ∧ 0 < z.length ∧ z.length ≤ 1000) ∧ Q (.str (repStr z n)) S
  | _, _ => False
/-! ### dicts written out -/
def dDict0 : DE := fun ρ S Q _ => ∀ p, S p = none → Q (.ref p) (put S p (.dK []))
theorem d_dict0 {pos : Pos} : PE X (.Dict [] [] pos) (low X.K W dDict0) := pei pe_dnewK fun σ H Q ⟨ρ, S, Qh, Xh, hσ, hS, h, k, x⟩ p hp =>
  k _ _ _ _ (h p (hS.free hp)) (Tk.new hp) (.ref p) (hS.new hp (.mdK upd_same .nil))
/-- one pair -/
def dDict1 (dk dv : DE) : DE := fun ρ S Q X => ∀ p, S p = none → dk ρ (put S p (.dK [])) (fun x S1 => dv ρ S1 (fun y S2 => S2 p = some (.dK []) ∧ match x with
  | .str z => Q (.ref p) (put S2 p (.dK [(.inr z, y)]))
  | .int z => Q (.ref p) (put S2 p (.dK [(.inl z, y)]))
  | _ => False) X) X
theorem d_dict1 {pos : Pos} {ek ev : Expr} {dk dv : DE} (hk : PE X ek (low X.K W dk)) (hv : PE X ev (low X.K W dv)) : PE X (.Dict [some ek] [ev] pos) (low X.K W (dDict1 dk dv)) :=
  pei (pe_disp (pps_cons hk hv pps_nil) rfl rfl (by simp) (by simp)) fun σ H Q ⟨ρ, S, Qh, Xh, hσ, hS, h, k, x⟩ p hp => by
    have t0 : Tk X.K H (upd H p (.dK [])) := Tk.new hp
    refine ⟨ρ, _, _, Xh, hσ.mono t0, hS.new hp (.mdK upd_same .nil), h p (hS.free hp), fun d1 S1 v1 H1 q1 t1 r1 a1 => ?_, x.mono t0⟩
    refine ⟨ρ, S1, _, Xh, hσ.mono (t0.trans t1), a1, q1, fun d2 S2 v2 H2 q2 t2 r2 a2 => ?_, x.mono (t0.trans t1)⟩
    obtain ⟨e, q2⟩ := q2
    obtain ⟨gs, e1, e2⟩ := a2 p _ e
    cases e2
    have t3 : Tk X.K H2 (upd H2 p (.dK [])) := Tk.write e1 wr_dK
    have fin : ∀ z : Key, Qh (.ref p) (put S2 p (.dK [(z, d2)])) → Q (.ref p) (upd H2 p (.dK (mergeK [] [(z, v2)]))) := fun z q => by
      have t4 : Tk X.K H2 (upd H2 p (.dK (mergeK [] [(z, v2)]))) := Tk.write e1 wr_dK
      exact k _ _ _ _ q (((t0.trans t1).trans t2).trans t4) (.ref p) (a2.write e1 wr_dK (.mdK upd_same (.cons ⟨rfl, r2.mono t4⟩ .nil)))
    cases d1 with
    | str z =>
      have e5 := (r1.mono t2).i_str
      subst e5
      exact ⟨e1, [(.inr z, v2)], rfl, by simp, fin _ q2⟩
    | int z =>
      have e5 := (r1.mono t2).i_int
      subst e5
      exact ⟨e1, [(.inl z, v2)], rfl, by simp, fin _ q2⟩
    | _ => exact q2.elim
def rMulS : R2 := fun x y H Q => ∃ z n, x = .str z ∧ y = .int n ∧ (2 ≤ n ∧ n ≤ 1000 ∧ 0 < z.length ∧ z.length ≤ 1000) ∧ Q (.str (repStr z n)) H
theorem op_mulS : OpR X (binaryOp .Mult) rMulS := by
  intro pins s σ H x y v u Q I rx ry h
  obtain ⟨z, n, rfl, rfl, ⟨h1, h2, h3, h4⟩, q⟩ := h
  obtain ⟨t, rfl⟩ := rx
  obtain ⟨t2, rfl⟩ := ry
  have c : (n == 1 || z.length == 0) = false := by
    rw [Bool.or_eq_false_iff]
    exact ⟨by simp; omega, by simp; omega⟩
  have hlen : z.length * n.toNat ≤ 1000 * 1000 := Nat.mul_le_mul h4 (by omega)
  refine P.mul_str ?_ (fun _ _ => ?_) (fun _ _ => ?_) ?_
  · rw [decide_eq_false (by omega), decide_eq_false (by omega)]; rfl
  · have : (1000 : Int) ≤ (2 ^ 63 - 1 : Int) / n := Int.le_ediv_of_mul_le (by omega) (by omega)
    omega
  · unfold Builtin.Str.tooLong
    rw [decide_eq_false]
    rw [sizeLine_eq]
    omega
  · rw [if_neg (by omega), if_neg (by rw [c]; decide)]
    have hl : ∀ (k : Nat) (acc : Array Nat), ((List.replicate k z.cps).foldl (· ++ ·) acc).size = acc.size + k * z.cps.size := by
      intro k
      induction k with
      | zero => intro acc; simp
      | succ k ih => intro acc; rw [List.replicate_succ, List.foldl_cons, ih]; simp [Nat.add_mul]; omega
    refine ⟨?_, .str (repStr z n), H, I.tok _, ⟨_, rfl⟩, q⟩
    show (((List.replicate n.toNat z.cps).foldl (· ++ ·) #[]).size : Nat) ≤ sizeLine
    rw [hl, sizeLine_eq]
    have : n.toNat * z.cps.size ≤ 1000 * 1000 := Nat.mul_le_mul (by omega) h4
    simp
    omega
theorem l_mulS : LR2 K rMulS rdMulS := by
  intro x y H dx dy S Qh Q rx ry hS h k
  unfold rdMulS at h
  split at h
  · exact ⟨_, _, rx.i_str, ry.i_int, h.1, k.now h.2 (.str _) hS⟩
  · exact h.elim
end
end VD

namespace VD
open PySem PySem.Spec PyProof.Rows L2
theorem ve_base : PySem.HandSPX.refsVE [.type "ValueError", .type "Exception", .type "BaseException", .type "object"] = true := by decide +kernel
theorem ve_step {a : Addr} {r : List Value} (h : PySem.HandSPX.refsVE r = true) : PySem.HandSPX.refsVE (.ref a :: r) = true := h
/-! ### own exceptions with one field -/
def spInit (C : Addr) (f : Str) : Sp := fun vs H Q _ => ∃ a v, vs = [.ref a, v] ∧ H a = some (exo a C none) ∧ ∀ dx, H dx = none → dx ≠ a → Q .non (upd (upd H dx (exd dx [(f, v)])) a (exo a C (some dx)))
theorem okInit {P : Program} {w : World} {K : PySem.W.Frag} {mg : Str → Option Value} {base : Heap} {x qual : Str} {st : Stmt} {g C : Addr} {fd : FuncData} {p1 p2 f : Str} (F : Fun K x qual st g fd) (Sc : FnScope [p1, p2] [p1, p2] (defScope st)) (T : OexC K C) (hno : PySem.W.findIn K (.ref C) f = some none)
    (hb : ∀ (cdv : Value) (A : Around) (outer : List Env) (s : Shared) (H : Hp) (E : XK), Room 0 (A.deeper (envOfC qual (defScope st) s.heap.objs.size g cdv)) →
      PSs (cxOf (L2.CX P w) P w K mg base [p1, p2] qual (defScope st) g cdv A outer s H E) (defBody st) (tOst K f (tVar 0) (tVar 1))) : FnOk P w K mg base (L2.CX P w) 1 g fd [p1, p2] (spInit C f) := by
  refine Fun.okX F Sc (fun vs H Q E ⟨a, v, e, _⟩ => by rw [e]; rfl) fun cdv A outer s H vs Q E hr' ⟨a, v, e, ea, q⟩ => ?_
  subst e
  exact ⟨_, hb cdv A outer s H E hr', v, rfl, .ref a, rfl, a, C, rfl, T, hno, .inl ⟨ea, fun dx n ne => q dx n ne⟩⟩
def dRaiseF (cls : Value) (f : Str) (das : DA) : DS := fun D ρ S => das ρ S (fun ds S1 => match ds with
  | [d] => ∀ dx, S1 dx = none → D.ex cls (some dx) ρ (put S1 dx (.xd [(f, d)]))
  | _ => False) (D.xd ρ)
section
variable {X : Cx} {W : WX}
theorem s_raise1 {x f : Str} {C fI : Addr} {k : Nat} {fd : FuncData} {ps : List Str} {e : Expr} {das : DA} {p pos' pos : Pos} (hc : X.calm = true) (tk : Takes X W) (T : OexC X.K C) (iC : PySem.W.findIn X.K (.ref C) "__init__" = some (some (.ref fI)))
    (tI : PySem.W.typeIn X.K (.ref fI) = some (.type "function")) (F1 : FnOk X.prog X.w X.K X.mg X.base (L2.CX X.prog X.w) k fI fd ps (spInit C f)) (hr : RoomG (k + 1) X.A) (hb : Binds X.K fd ps []) (gC : X.mg x = some (.ref C)) (ha : PA X [e] (lowA X.K W das)) (hg : Gl X x := by rfl)
    (hdb : (x == ("__debug__" : Str)) = false := by decide) (he : starEach [e] X.env = (false, eval e X.env) :: starEach [] X.env := by rfl) (hpl : (backTo pos' (starEach [] X.env)).any (·.1) = false := by rfl) :
    PS X (.Raise (some (.Call (.Name x p) [e] [] pos')) none pos) (lowS X.K W (dRaiseF (.ref C) f das)) :=
  psi (ps_raise hc tk (pmk_oex (dvs := []) (ds := []) T iC tI F1 hr.r hb .nil (passes_call tk fun _ _ _ _ h => h.elim) hg gC ha hdb he hpl)) fun D σ H ⟨ρ, S, Dh, hσ, hS, h, k⟩ => by
    refine ⟨ρ, S, _, _, hσ, hS, h, fun ds S1 vs H1 q t r a => ?_, k.lx hσ⟩
    match ds, q, r with
    | [d], q, r =>
      obtain ⟨v, rfl, rv⟩ := one_i r
      refine ⟨by simp, fun e1 n1 => ⟨e1, v, rfl, upd_same, fun dx nd ne => ?_⟩⟩
      have nd1 : H1 dx = none := by rw [upd_ne ne] at nd; exact nd
      refine ⟨rfl, dx, [(f, v)], upd_same, ?_, nd1, ?_⟩
      · rw [upd_ne ne]; exact upd_same
      · have eH : upd (del (upd (upd (upd H1 e1 (exo e1 C none)) dx (exd dx [(f, v)])) e1 (exo e1 C (some dx))) e1) dx (.xd [(f, v)]) = upd H1 dx (.xd [(f, v)]) := by
          funext b
          by_cases h1 : b = dx
          · subst h1; rw [upd_same, upd_same]
          · rw [upd_ne h1, upd_ne h1]
            by_cases h2 : b = e1
            · subst h2; rw [del_same, n1]
            · rw [del_ne h2, upd_ne h2, upd_ne h1, upd_ne h2]
        rw [eH]
        have t2 : Tk X.K H1 (upd H1 dx (.xd [(f, v)])) := Tk.new nd1
        exact k.ex _ _ ρ _ σ _ (q dx (a.free nd1)) (t.trans t2) (hσ.mono (t.trans t2)) (a.new nd1 (.mxd upd_same (.cons ⟨rfl, rv.mono t2⟩ .nil)))
    | [], q, _ => exact q.elim
    | _ :: _ :: _, q, _ => exact q.elim
/-- error.f in a suite -/
def dXf (a : Addr) (cls : Value) (da : Option Addr) (C : Addr) (f : Str) (de : DE) : DE := fun ρ S Q X => de ρ S (fun x S1 => x = .ref a ∧ cls = .ref C ∧ ∃ dd fs v, da = some dd ∧ S1 dd = some (.xd fs) ∧ fs.lookup f = some v ∧ Q v S1) X
theorem lookF {K : PySem.W.Frag} {H : Hp} {f : Str} {d : Dv} : ∀ {gs : List (Str × V)} {fs : List (Str × Dv)}, RepF K H gs fs → fs.lookup f = some d → ∃ v, gs.lookup f = some v ∧ Rep K H v d
  | _, _, .nil, e => by cases e
  | (g, v) :: gs, (g', d') :: fs, .cons ⟨e1, r⟩ t, e => by
    dsimp only at e1 r
    subst e1
    rw [List.lookup_cons] at e ⊢
    cases h : f == g with
    | true =>
      rw [h] at e
      cases e
      exact ⟨v, rfl, r⟩
    | false =>
      rw [h] at e
      exact lookF t e
theorem d_xf {a C : Addr} {oe : Obj} {cls : Value} {da : Option Addr} {pn : List (Addr × Obj)} {e : Expr} {de : DE} {pos : Pos} {n : Str} (T : XfC X.K C) (hno : PySem.W.findIn X.K (.ref C) n = some none)
    (hz : Zc cls da oe) (hf : ∃ vs, oe.data = .fields vs) (he : PE (X.suite a ((a, oe) :: pn)) e (low X.K W de)) (hb : attributeBase e n X.env (eval e X.env) = eval e X.env := by rfl) :
    PE (X.suite a ((a, oe) :: pn)) (.Attribute e n pos) (low X.K W (dXf a cls da C n de)) :=
  pei (pe_xf T hno hz hf he hb) fun σ H Q ⟨ρ, S, Qh, Xh, hσ, hS, h, k, x⟩ => ⟨ρ, S, _, Xh, hσ, hS, h, fun d1 S1 v1 H1 q1 t1 r1 a1 => by
    obtain ⟨e1, e2, dd, fs, v, e3, e4, e5, q⟩ := q1
    subst e1
    obtain ⟨gs, g1, g2⟩ := a1 dd _ e4
    obtain ⟨u, u1, u2⟩ := lookF g2 e5
    exact ⟨r1.i_ref, e2, dd, gs, u, e3, g1, u1, k v S1 u H1 q t1 u2 a1⟩, x⟩
end
end VD

namespace VD
open PySem PySem.Spec PyProof.Rows L2
/-! ### try, the first clause with a name and taking every exception of the body; what other clauses follow is all one -/
def offSlot (i : Nat) (D : Ends) : Ends := { nx := fun σ H => D.nx (σ.set i none) H, rt := D.rt, bk := fun σ H => D.bk (σ.set i none) H, ct := fun σ H => D.ct (σ.set i none) H }
section
variable {X : Cx} {x n : Str} {c : Value} {i : Nat} {bd su : List Stmt} {s₁ : Stmt} {np p1 p2 : Pos} {others : List ExceptHandler} {tb : WX → TS} {ts : Addr → Value → Option Addr → TS}
/-- an exception's object is no frame -/
theorem no_frame {B g : Heap} {a : Addr} {o : Obj} {vs : Array Value} (ff : g.FunFrames B (X.env :: X.outer)) (e : g.get? a = some o) (d : o.data = .fields vs) : a ∉ frs (X.env :: X.outer) := fun hm => by
  obtain ⟨_, o2, e2, nf⟩ := ff.mem hm
  cases e.symm.trans e2
  exact nf _ d
end
/-- over plain data -/
def offD (i : Nat) (D : DEnds) : DEnds := { nx := fun ρ S => D.nx (ρ.set i none) S, rt := D.rt, bk := fun ρ S => D.bk (ρ.set i none) S, ct := fun ρ S => D.ct (ρ.set i none) S }
end VD

namespace VD
open PySem PySem.Spec PyProof.Rows L2
/-! ### xs.extend(ys), ys a tuple or a list -/
section
variable {X : Cx} {K : PySem.W.Frag}
end
end VD

namespace VD
open PySem PySem.Spec PyProof.Rows L2
/-! ### lists by value -/
def FZ (v : V) (H1 : Hp) (Q : VK) : Prop := Q v H1 ∨ ∃ a u, v = .ref a ∧ H1 a = some u ∧ canFrz u = true ∧ ∀ o, Q v (upd H1 a (.frz o u))
section
variable {K : PySem.W.Frag} {H H1 : Hp} {S : Sto} {Qh : QD} {Q : VK} {p : Addr}
theorem tk_frz {u : HO} {o : Obj} (hp : H p = none) : Tk K H (upd (upd H p u) p (.frz o u)) := by
  rw [upd_upd]; exact Tk.new hp
/-- a new list that is frozen at once -/
theorem Lk.frzL (k : Lk K H Qh Q) {vs : List V} {ds : List Dv} (q : Qh (.rol ds) S) (hp : H p = none) (r : RepL K H vs ds) (a : Abs K H S) : FZ (.ref p) (upd H p (.lst vs)) Q := by
  refine .inr ⟨p, _, rfl, upd_same, rfl, fun o => ?_⟩
  have t : Tk K H (upd (upd H p (.lst vs)) p (.frz o (.lst vs))) := tk_frz hp
  refine k _ S _ _ q t (.rol (.inl ⟨o, upd_same⟩) (r.mono t)) fun b m hb => ?_
  refine (a b m hb).mono t fun z hz => ?_
  rw [upd_upd, upd_ne (ne_of_none hz hp)]
  exact hz
end
section
variable {X : Cx} {W : WX} {a b c e : Expr} {da db dc de : DE} {pos p : Pos} {es : List Expr} {das : DA} {x : Str} {id T : String}
theorem pe_fz {x : Expr} {t : TE} (h : PE X x t) : PE X x (fun σ H Q => t σ H fun v H1 => FZ v H1 Q) := pe_frz h
def dLstV (das : DA) : DE := fun ρ S Q X => das ρ S (fun ds S1 => ds.length ≤ sizeLine ∧ Q (.rol ds) S1) X
theorem d_lstV (h : PA X es (lowA X.K W das)) : PE X (.List es pos) (low X.K W (dLstV das)) := pei (pe_fz (pe_lst h)) fun σ H Q ⟨ρ, S, Qh, Xh, hσ, hS, h, k, x⟩ =>
  ⟨ρ, S, _, Xh, hσ, hS, h, fun ds S1 vs H1 q1 t1 r1 a1 => ⟨by rw [r1.length]; exact q1.1, fun p hp => (k.mono t1).frzL q1.2 hp r1 a1⟩, x⟩
/-- a two-place operator whose new list is frozen -/
def LR2V (K : PySem.W.Frag) (r : R2) (rd : RD2) : Prop := ∀ x y H dx dy S Qh Q, Rep K H x dx → Rep K H y dy → Abs K H S → rd dx dy S Qh → Lk K H Qh Q → r x y H fun v H1 => FZ v H1 Q
theorem d_opV {op : Operator} {r : R2} {rd : RD2} (ho : OpR X (binaryOp op) r) (hl : LR2V X.K r rd) (ha : PE X a (low X.K W da)) (hb : PE X b (low X.K W db)) : PE X (.BinOp a op b pos) (low X.K W (dOp rd da db)) := pei (pe_fz (pe_op ho ha hb)) fun σ H Q ⟨ρ, S, Qh, Xh, hσ, hS, h, k, x⟩ =>
  ⟨ρ, S, _, Xh, hσ, hS, h, fun d1 S1 v1 H1 q1 t1 r1 a1 => ⟨ρ, S1, _, Xh, hσ.mono t1, a1, q1, fun d2 S2 v2 H2 q2 t2 r2 a2 => hl v1 v2 H2 d1 d2 S2 Qh Q (r1.mono t2) r2 a2 q2 (k.mono (t1.trans t2)), x.mono t1⟩, x⟩
def rdAddV : RD2 := fun x y S Q => match x, y with
  | .int i, .int j => Q (.int (i + j)) S
  | .tup xs, .tup ys => xs.length + ys.length ≤ sizeLine ∧ Q (.tup (xs ++ ys)) S
  | .str a, .str b => a.length + b.length ≤ sizeLine ∧ Q (.str (a ++ b)) S
  | x, y => lstOf x S fun xs => lstOf y S fun ys => xs.length + ys.length ≤ sizeLine ∧ Q (.rol (xs ++ ys)) S
theorem Lk.fz {K : PySem.W.Frag} {H : Hp} {Qh : QD} {Q : VK} (k : Lk K H Qh Q) : Lk K H Qh fun v H1 => FZ v H1 Q := fun d S v H' q t r a => .inl (k d S v H' q t r a)
theorem l_addV {K : PySem.W.Frag} : LR2V K (rAddA K) rdAddV := by
  intro x y H dx dy S Qh Q rx ry hS h k
  have go : rdAdd dx dy S Qh → rAddA K x y H fun v H1 => FZ v H1 Q := fun h => l_add x y H dx dy S Qh _ rx ry hS h k.fz
  unfold rdAddV at h
  split at h
  · exact go h
  · exact go h
  · exact go h
  · obtain ⟨a, us, xs, rfl, l1, r1, h⟩ := lstOf_c rx hS h
    obtain ⟨b, vs, ys, rfl, l2, r2, h⟩ := lstOf_c ry hS h
    exact .inr (.inr (.inr ⟨a, b, us, vs, rfl, rfl, l1, l2, by rw [r1.length, r2.length]; exact h.1, fun p hp => k.frzL h.2 hp (r1.append r2) hS⟩))
/-- slices by value -/
def rdSlV (x : Dv) (lo hi : Option Int) (S : Sto) (Q : QD) : Prop := match x with
  | .tup xs => Q (.tup (cutD xs lo hi)) S
  | .str z => z.length ≤ sizeLine ∧ Q (.str (cutS z lo hi)) S
  | x => lstOf x S fun xs => Q (.rol (cutD xs lo hi)) S
def dSlV (de : DE) (dl dh : DO) : DE := fun ρ S Q X => de ρ S (fun d S1 => dl ρ S1 (fun lo S2 => dh ρ S2 (fun hi S3 => rdSlV d lo hi S3 Q) X) X) X
/-- built-ins whose new list is frozen -/
def LRCV (K : PySem.W.Frag) (r : List V → Hp → VK → Prop) (rd : RDC) : Prop := ∀ vs H ds S Qh Q, RepL K H vs ds → Abs K H S → rd ds S Qh → Lk K H Qh Q → r vs H fun v H1 => FZ v H1 Q
theorem d_callTyV {r : List V → Hp → VK → Prop} {rd : RDC} (hc : CallR X (.type T) r) (hl : LRCV X.K r rd) (hm : X.mg x = none) (hv : bootBuiltins x = some (.type T)) (ha : PA X (e :: es) (lowA X.K W das)) (hg : Gl X x := by rfl) (hn : x ≠ "__name__" := by decide) (hdb : (x == ("__debug__" : Str)) = false := by decide)
    (he : starEach (e :: es) X.env = (false, eval e X.env) :: starEach es X.env := by rfl) (hpl : (backTo pos (starEach es X.env)).any (·.1) = false := by rfl) : PE X (.Call (.Name x p) (e :: es) [] pos) (low X.K W (dCB rd das)) := pei (pe_fz (pe_callTy hc hg hm hv ha hn hdb he hpl)) fun σ H Q ⟨ρ, S, Qh, Xh, hσ, hS, h, k, x⟩ =>
  ⟨ρ, S, _, Xh, hσ, hS, h, fun ds S1 vs H1 q1 t1 r1 a1 => hl vs H1 ds S1 Qh Q r1 a1 q1 (k.mono t1), x⟩
def rdListV : RDC := fun ds S Q => match ds with
  | [d] => seqOf d S fun xs => Q (.rol xs) S
  | _ => False
theorem l_listV {K : PySem.W.Frag} : LRCV K (fun xs H Q => ∃ p ys, xs = [.ref p] ∧ (SqL K H p ys ∨ SqT K H p ys) ∧ ∀ l, H l = none → Q (.ref l) (upd H l (.lst ys))) rdListV := by
  intro vs H ds S Qh Q r hS h k
  unfold rdListV at h
  split at h
  · obtain ⟨v, rfl, rr⟩ := one_i r
    obtain ⟨a, us, xs, rfl, hl, rl, q⟩ := seqOf_i rr hS h
    exact ⟨a, us, rfl, hl, fun p hp => k.frzL q hp rl hS⟩
  · exact h.elim
/-! max, min of a list of ints -/
def rdMaxL : RDC := fun ds S Q => match ds with
  | [d] => lstOf d S fun xs => ∃ ns : List Int, xs = ns.map Dv.int ∧ 0 < ns.length ∧ ∀ m, m ∈ ns → (∀ y ∈ ns, y ≤ m) → Q (.int m) S
  | [.int i, .int j] => Q (.int (if j > i then j else i)) S
  | _ => False
def rdMinL : RDC := fun ds S Q => match ds with
  | [d] => lstOf d S fun xs => ∃ ns : List Int, xs = ns.map Dv.int ∧ 0 < ns.length ∧ ∀ m, m ∈ ns → (∀ y ∈ ns, m ≤ y) → Q (.int m) S
  | [.int i, .int j] => Q (.int (if j < i then j else i)) S
  | _ => False
/-! ### data -/
/-! repr -/
/-! x in xs -/
/-! ### a field as a target; o.f op= e -/
def gFldD (cs : List Addr) (f : Str) (dO : DE) : DG := fun d ρ S Q => dO ρ S (fun x S1 => match x with
  | .ref a => match S1 a with
    | some (.ins C dx fs) => C ∈ cs ∧ fs.length < 1000 ∧ Q ρ (put S1 a (.ins C dx (putFD f d fs)))
    | _ => False
  | _ => False) X0
def dAugF (cs : List Addr) (f : Str) (rd : RD2) (dO de : DE) : DS := fun D ρ S => dO ρ S (fun x S1 => match x with
  | .ref a => match S1 a with
    | some (.ins C dx fs) => C ∈ cs ∧ ∃ v, fs.lookup f = some v ∧ de ρ S1 (fun y S2 => rd v y S2 fun z S3 => match S3 a with
      | some (.ins C' dx' fs') => C' = C ∧ fs'.length < 1000 ∧ D.nx ρ (put S3 a (.ins C' dx' (putFD f z fs')))
      | _ => False) (D.xd ρ)
    | _ => False
  | _ => False) (D.xd ρ)
/-! ### xs.pop(i), xs.pop() -/
def rdPopAt : RDM := fun x ds S Q => match x, ds with
  | .ref a, [.int i] => match S a with
    | some (.lst xs) => ∃ j d, (-(2 ^ 63) ≤ i ∧ i < 2 ^ 63) ∧ seqIndex? i xs.length = some j ∧ xs[j]? = some d ∧ Q d (put S a (.lst (xs.eraseIdx j)))
    | _ => False
  | _, _ => False
end
/-! ### comprehensions whose list is frozen -/
section
variable {g : DG} {te : DE} {tt : DT} {vs : List Nat} {ρ : Rho} {Q : QD} {items : List Dv} {stay : Sto → Prop} {S : Sto}
theorem lcV_filter (c : Dv → Bool) (f : Dv → Dv) (hl : items.length ≤ sizeLine) (hst : ∀ p m, S p = none → stay (put S p m))
    (he : ∀ x ∈ items, ∀ (T : Sto) (K : QD) (N : Sto → Prop), Sub S T → (c x = true → K (f x) T) → (c x = false → N T) → g x (wipeD ρ vs) T fun ρ2 S2 => tt ρ2 S2 (fun b S3 => if b = true then te ρ2 S3 K X0 else N S3) X0)
    (hQ : Q (.rol ((items.filter c).map f)) S) : LcGo g tt te vs ρ (fun d S1 => frzD d S1 Q) items stay S := lc_filter c f hl hst he fun p hp => by
  unfold frzD
  dsimp only
  rw [put_same, rm_put hp]
  exact hQ
end
/-! ### a def that forgets what it made -/
def RdF (t : DS) (n : Nat) (sp : SpD) : Prop := ∀ ds S Q Xh, sp ds S Q Xh → t { nx := fun _ S' => ∃ T, Sub T S' ∧ Q .non T, rt := fun d S' => ∃ T, Sub T S' ∧ Q d T, ex := fun c da _ S' => ∃ T, Sub T S' ∧ Xh c da T } (startN n ds) S
theorem okF {P : Program} {w : World} {K : PySem.W.Frag} {mg : Str → Option Value} {base : Heap} {x qual : Str} {st : Stmt} {f : Addr} {fd : FuncData} {N ps : List Str} {k : Nat} {sp : SpD} (F : Fun K x qual st f fd) (Sc : FnScope N ps (defScope st)) (len : ∀ ds S Q X, sp ds S Q X → ds.length = ps.length)
    (t : DS) (hb : ∀ (cdv : Value) (A : Around) (outer : List Env) (s : Shared) (H : Hp) (E : XK), RoomG k (A.deeper (envOfC qual (defScope st) s.heap.objs.size f cdv)) →
      PSs (cxOf (L2.CX P w) P w K mg base N qual (defScope st) f cdv A outer s H E) (defBody st) (lowS K (WF E) t))
    (hr : RdF t N.length sp) : FnD P w K mg base (k + 1) f fd ps sp := by
  refine funG F Sc (fun vs H Q E ⟨ds, S, Qh, Xh, r, a, h, _⟩ => by rw [r.length]; exact len _ _ _ _ h) fun cdv A outer s H vs Q E hr' ⟨ds, S, Qh, Xh, r, a, h, k1, k2⟩ => ?_
  refine ⟨_, hb cdv A outer s H E hr', startD N ds, S, _, RepS.start r, a, hr ds S Qh Xh h, ⟨fun ρ' S' σ' H' ⟨T, sb, q⟩ t _ a => k1 .non T .non H' q t .non (a.sub sb), fun d S' v H' ⟨T, sb, q⟩ t r a => k1 d T v H' q t r (a.sub sb), fun _ _ _ _ (q : False) => False.elim q, fun _ _ _ _ (q : False) => False.elim q, fun c da ρ' S' σ' H' ⟨T, sb, q⟩ t _ a => k2 c da T H' q t (a.sub sb)⟩⟩
/-! ### xs.extend(ys), ys any sequence; list * int -/
section
variable {X : Cx} {K : PySem.W.Frag}
def rdExt : RDM := fun x ds S Q => match x, ds with
  | .ref a, [y] => match S a with
    | some (.lst xs) => seqOf y S fun ys => xs.length + ys.length ≤ sizeLine ∧ Q .non (put S a (.lst (xs ++ ys)))
    | _ => False
  | _, _ => False
def rRepC (K : PySem.W.Frag) : R2 := fun x y H Q => ∃ l k xs, x = .ref l ∧ y = .int k ∧ LC K H l xs ∧ (-(2 ^ 63) ≤ k ∧ k < 2 ^ 63) ∧ xs.length * k.toNat ≤ sizeLine ∧ ∀ p, H p = none → Q (.ref p) (upd H p (.lst (List.replicate k.toNat xs).flatten))
theorem op_repC : OpR X (binaryOp .Mult) (rRepC X.K) := by
  intro pins s σ H x y v u Q I rx ry h
  obtain ⟨l, k, xs, rfl, rfl, hx, ⟨h1, h2⟩, hz, q⟩ := h
  obtain rfl : v = Value.ref l := rx
  obtain ⟨t, rfl⟩ := (show ∃ t, u = Value.int k t from ry)
  obtain ⟨_, its, n, r, hl, e⟩ := hx.at_ I
  have few : its.toArray.size * k.toNat ≤ sizeLine := by rw [List.size_toArray, ← hl]; exact hz
  have cap : ¬ its.toArray.size * k.toNat > (2 ^ 63 - 1) / 8 := by
    have : (sizeLine : Nat) ≤ (2 ^ 63 - 1) / 8 := by decide
    omega
  have fit : ¬ (!Builtin.List.listFitsIndex k) = true := by rw [fitsIndex_both h1 h2]; decide
  have short : ¬ Builtin.List.listTooLong (its.toArray.size * k.toNat) = true := by rw [notLongL few]; decide
  have new : List.foldl (fun x1 x2 => x1 ++ x2) #[] (List.replicate (if its.toArray.isEmpty = true then 0 else k.toNat) its.toArray) = (List.replicate k.toNat its).flatten.toArray := by
    have f0 : ∀ m : Nat, List.foldl (fun x1 x2 => x1 ++ x2) #[] (List.replicate m its.toArray) = (List.replicate m its).flatten.toArray := fun m => by
      simpa using foldl_rep its m []
    rw [f0]
    cases its with
    | nil => simp
    | cons a r' => rw [if_neg (by simp)]
  refine wpAny_binaryOp_repeat_ref (T := "list") (U := "int") (by decide) ⟨_, e, rfl⟩ (fun s' => typeIs_int s' k t) noFill_list_mul F.fills_int_mul F.slot_int_rmul repeat_list F.slot_int_index.lookup (call_meets F.slot_int_rmul (typeIs_int s k t) F.entry_int_rmul (F.args_int_rmul_2 _ _) (int___rmul___int_list k t l its.toArray n) ⟨e, rfl, ⟨_, e, rfl⟩, call_meets F.slot_list_mul ⟨_, e, rfl⟩ F.entry_list_mul (F.args_list_mul_2 _ _) (AutoListH.list___mul___list_int_3 l its.toArray n k t fit cap short) ⟨e, ?_⟩⟩)
  rw [new]
  exact ⟨.ref _, _, I.lnew (t' := s.toks) (r.rep k.toNat) (by rw [PyProof.Rows.lm_len_rep_flat, Nat.mul_comm]; exact hz), rfl, q _ I.fresh⟩
/-- a tuple no time -/
theorem tuple_mul0 (l : Addr) (items : Array Value) (n : Nat) (dd : Option Addr) (sl : Array (Option Value)) (x : Int) (u : Tok) (c0 : (decide (x < -(2 ^ 63)) || decide (x ≥ 2 ^ 63)) = false) (c1 : (items.isEmpty || x == 1) = false) (c2 : (decide (x ≤ 0) || items.isEmpty) = true) :
    Meets (Builtin.«tuple.__mul__» ⟨[.ref l, .int x u], []⟩) (fun _ R s => s.heap.get? l = some { cls := .type "tuple", dict := dd, data := .seq items n, slots := sl } ∧
      R (.ok (.ret (Value.ref s.heap.objs.size))) { s with heap := s.heap.push { cls := Value.type "tuple", data := Data.seq #[] }, toks := s.toks }) :=
  .of_wp fun prog w A R s h => by
    obtain ⟨hp, g, d, tk, os⟩ := s
    obtain ⟨hl, h⟩ := h
    have f1 := AutoSeq1.idx_int
    wp_walk using wpAny_loadPart' hl
    repeat (first
      | (refine wpAny_ite_false (decide_eq_false (by rw [c0]; exact Bool.false_ne_true)) ?_; wp_walk using wpAny_loadPart' hl)
      | (refine wpAny_ite_false (decide_eq_false (by rw [c1]; exact Bool.false_ne_true)) ?_; wp_walk using wpAny_loadPart' hl)
      | (refine wpAny_ite_true (decide_eq_true c2) ?_; wp_walk using wpAny_loadPart' hl))
    exact ⟨_, rfl, h⟩
def rRep0 (K : PySem.W.Frag) : R2 := fun x y H Q => ∃ l k xs, x = .ref l ∧ y = .int k ∧ SqT K H l xs ∧ xs ≠ [] ∧ -(2 ^ 63) ≤ k ∧ k ≤ 0 ∧ ∀ p, H p = none → Q (.ref p) (upd H p (.tup []))
theorem op_rep0 : OpR X (binaryOp .Mult) (rRep0 X.K) := by
  intro pins s σ H x y v u Q I rx ry h
  obtain ⟨l, k, xs, rfl, rfl, hT, hne, h1, h2, q⟩ := h
  cases rx
  obtain ⟨t, rfl⟩ := ry
  obtain ⟨its, r, ⟨⟨cls, dd, data, sl⟩, ho, hc, n, hd⟩, hs⟩ := I.tuple hT
  simp only at hc hd
  subst hc hd
  have hn : its ≠ [] := fun e => by subst e; cases r; exact hne rfl
  have hi : its.toArray.isEmpty = false := by
    cases its with
    | nil => exact absurd rfl hn
    | cons a b => rfl
  have c0 : (decide (k < -(2 ^ 63)) || decide (k ≥ 2 ^ 63)) = false := by
    rw [decide_eq_false (by omega), decide_eq_false (by omega)] <;> rfl
  have c1 : (its.toArray.isEmpty || k == 1) = false := by
    rw [hi, Bool.false_or]
    exact beq_eq_false_iff_ne.mpr (by omega)
  have c2 : (decide (k ≤ 0) || its.toArray.isEmpty) = true := by
    rw [decide_eq_true h2] <;> rfl
  refine wpAny_binaryOp_repeat_ref (T := "tuple") (U := "int") (by decide) ⟨_, ho, rfl⟩ (fun s' => typeIs_int s' k t) noFill_tuple_mul F.fills_int_mul F.slot_int_rmul repeat_tuple F.slot_int_index.lookup
    (call_meets F.slot_int_rmul (typeIs_int s k t) F.entry_int_rmul (F.args_int_rmul_2 _ _) (int_rmul_tuple k t l its.toArray n dd sl)
      ⟨ho, rfl, ⟨_, ho, rfl⟩, call_meets F.slot_tuple_mul ⟨_, ho, rfl⟩ F.entry_tuple_mul (F.args_tuple_mul_2 _ _) (tuple_mul0 l its.toArray n dd sl k t c0 c1 c2) ⟨ho, ?_⟩⟩)
  refine ⟨.ref s.heap.objs.size, _, I.laid (t' := s.toks) (o := .tup []) (fun b ob q => Heap.get?_push_of_some _ q) (Nat.le_refl _) ?_, rfl, q _ (I.hok.fresh (Nat.le_refl _))⟩
  exact ⟨by simp, _, .nil, IsTup.new _ _⟩
abbrev rMulB (K : PySem.W.Frag) : R2 := fun x y H Q => rI IntMulOk (fun i j => .int (i * j)) x y H Q ∨ rRepS K x y H Q ∨ rRepT K x y H Q ∨ rRepC K x y H Q ∨ rRep0 K x y H Q
theorem op_mulB : OpR X (binaryOp .Mult) (rMulB X.K) := op_mulK.or (op_repS.or (op_repT.or (op_repC.or op_rep0)))
def rdMulV : RD2 := fun x y S Q => match x, y with
  | .int i, .int j => IntMulOk i j ∧ Q (.int (i * j)) S
  | .tup xs, .int k => (-(2 ^ 63) ≤ k ∧ k ≤ 1000 ∧ xs.length ≤ 1000 ∧ (1 ≤ k ∨ xs ≠ [])) ∧ Q (.tup (List.replicate k.toNat xs).flatten) S
  | x, .int k => lstOf x S fun xs => ((-(2 ^ 63) ≤ k ∧ k < 2 ^ 63) ∧ xs.length * k.toNat ≤ sizeLine) ∧ Q (.rol (List.replicate k.toNat xs).flatten) S
  | _, _ => False
theorem l_mulV : LR2V K (rMulB K) rdMulV := by
  intro x y H dx dy S Qh Q rx ry hS h k
  have go : rdMul dx dy S Qh → (∀ a, dx ≠ .ref a) → rMulB K x y H fun v H1 => FZ v H1 Q := fun h hn => by
    have z := l_mul x y H dx dy S Qh _ rx ry hS h k.fz
    rcases z with z | z | z | z
    · exact .inl z
    · exact .inr (.inl z)
    · exact .inr (.inr (.inl z))
    · unfold rdMul at h
      split at h
      · obtain ⟨l, k, xs, e, _⟩ := z; rw [rx.i_int] at e; cases e
      · obtain ⟨l, k, xs, e, e2, e3, b1, b2, b3, z⟩ := z
        exact .inr (.inr (.inr (.inl ⟨l, k, xs, e, e2, .inl e3, ⟨b1, b2⟩, b3, z⟩)))
      · exact absurd rfl (hn _)
      · exact h.elim
  unfold rdMulV at h
  split at h
  · exact go h (by intro a e; cases e)
  · rename_i xs m
    by_cases h1 : 1 ≤ m
    · exact go ⟨⟨h1, h.1.2.1, h.1.2.2.1⟩, h.2⟩ (by intro a e; cases e)
    · obtain ⟨a, us, rfl, ha, la⟩ := rx.i_tup
      have e0 : m.toNat = 0 := by omega
      have q := h.2
      rw [e0] at q
      cases xs with
      | nil =>
        rcases h.1.2.2.2 with z | z
        · exact absurd z h1
        · exact absurd rfl z
      | cons d ds =>
        refine .inr (.inr (.inr (.inr ⟨a, m, us, rfl, ry.i_int, ha, (fun z => by subst z; cases la), h.1.1, by omega, fun p hp => ?_⟩)))
        exact .inl (k _ _ _ _ q (Tk.new hp) (.tup (.inl (.inl upd_same)) .nil) (hS.tup hp))
  · obtain ⟨a, us, xs, rfl, l1, r1, hb, q⟩ := lstOf_c rx hS h
    exact .inr (.inr (.inr (.inl ⟨a, _, us, rfl, ry.i_int, l1, hb.1, by rw [r1.length]; exact hb.2, fun p hp => k.frzL q hp (r1.rep _) hS⟩)))
  · exact h.elim
end
end VD

namespace VD
open PySem PySem.Spec PyProof.Rows L2
/-- where the classes of the program stand -/
structure Ad where
  WorldError : Addr
  NoNumber : Addr
  NoSeed : Addr
  BadGround : Addr
  BadProgram : Addr
  BadKind : Addr
  BadGame : Addr
  NoWorld : Addr
  NoBody : Addr
  NoWay : Addr
  NoInputs : Addr
  NoHandler : Addr
  NoCode : Addr
  NoRows : Addr
  NoRow : Addr
  NoPlace : Addr
  BadRow : Addr
  BadChange : Addr
  NoSeat : Addr
  NotWaiting : Addr
  NoTick : Addr
  NotOpen : Addr
  Gap : Addr
  BadDeed : Addr
  NoBook : Addr
  NoPeer : Addr
  NoRules : Addr
  NoPast : Addr
  NoLetter : Addr
  NoDeed : Addr
  BadDeeds : Addr
  NoCut : Addr
  NoBlocks : Addr
  NoDisk : Addr
  OtherMatch : Addr
  BadTurns : Addr
  OtherGame : Addr
  Strayed : Addr
  NoNode : Addr
  NoReplay : Addr
  NoExpression : Addr
  BadText : Addr
  NoProgram : Addr
  NoPicture : Addr
  Unlike : Addr
  NoChanges : Addr
  NoLine : Addr
  NoName : Addr
  Ground : Addr
  Program : Addr
  Kind : Addr
  Game : Addr
  World : Addr
  Moving : Addr
  Standing : Addr
  Effects : Addr
  Machine : Addr
  Reader : Addr
  Book : Addr
  Timeline : Addr
  Known : Addr
  Host : Addr
  Heard : Addr
  Gathering : Addr
  Peer : Addr
  Net : Addr
  Disk : Addr
  SavedHost : Addr
  SavedPeer : Addr
  Replay : Addr
  Reel : Addr
  Node : Addr
  Branches : Addr
  Mixer : Addr
  Handlers : Addr
  GameReader : Addr
  Screen : Addr
  Desk : Addr
  /-- the table of code objects of the law's own def -/
  tabP : Addr
  ot : OTab
def ad0 : Ad := { tabP := 0, WorldError := 0, NoNumber := 0, NoSeed := 0, BadGround := 0, BadProgram := 0, BadKind := 0, BadGame := 0, NoWorld := 0, NoBody := 0, NoWay := 0, NoInputs := 0, NoHandler := 0, NoCode := 0, NoRows := 0, NoRow := 0, NoPlace := 0, BadRow := 0, BadChange := 0, NoSeat := 0, NotWaiting := 0, NoTick := 0, NotOpen := 0, Gap := 0, BadDeed := 0, NoBook := 0, NoPeer := 0, NoRules := 0, NoPast := 0, NoLetter := 0, NoDeed := 0, BadDeeds := 0, NoCut := 0, NoBlocks := 0, NoDisk := 0, OtherMatch := 0, BadTurns := 0, OtherGame := 0, Strayed := 0, NoNode := 0, NoReplay := 0, NoExpression := 0, BadText := 0, NoProgram := 0, NoPicture := 0, Unlike := 0, NoChanges := 0, NoLine := 0, NoName := 0, Ground := 0, Program := 0, Kind := 0, Game := 0, World := 0, Moving := 0, Standing := 0, Effects := 0, Machine := 0, Reader := 0, Book := 0, Timeline := 0, Known := 0, Host := 0, Heard := 0, Gathering := 0, Peer := 0, Net := 0, Disk := 0, SavedHost := 0, SavedPeer := 0, Replay := 0, Reel := 0, Node := 0, Branches := 0, Mixer := 0, Handlers := 0, GameReader := 0, Screen := 0, Desk := 0, ot := ⟨[], []⟩ }
section
variable {X : Cx} {W : WX} {a b c e o : Expr} {da db dc de : DE} {pos p apos : Pos} {es : List Expr} {das : DA} {x m f : Str} {k : Nat} {g C : Addr} {fd : FuncData} {ps : List Str}
/-! C(..), by a promise of the whole -/
end
end VD

/-! fields of the program's classes, printed by cls.py -/
namespace VD
open PySem PySem.Spec PyProof.Rows L2
theorem ex_one {C : Addr} {s : SpD} {P : SpD → Prop} : (∃ sp, (C, sp) ∈ [(C, s)] ∧ P sp) = P s := propext ⟨fun ⟨sp, h, p⟩ => by rw [List.mem_singleton] at h; cases h; exact p, fun p => ⟨s, List.mem_singleton.mpr rfl, p⟩⟩
theorem mem_one {C : Addr} : (C ∈ [C]) = True := eq_true (by simp)
def o_Ground (d0 d1 d2 : Dv) : List (Str × Dv) := [(Str.ofString "rows", d0), (Str.ofString "wide", d1), (Str.ofString "high", d2)]
def v_Ground (A : Ad) (d0 d1 d2 : Dv) : Dv := .obj A.Ground ((o_Ground d0 d1 d2).map (·.1)) ((o_Ground d0 d1 d2).map (·.2))
theorem i_Ground {A : Ad} {d0 d1 d2 : Dv} {S : Sto} {R : Addr → List Str → List Dv → Prop} : insOf (v_Ground A d0 d1 d2) S R = R A.Ground ((o_Ground d0 d1 d2).map (·.1)) ((o_Ground d0 d1 d2).map (·.2)) := rfl
theorem l_Ground {d0 d1 d2 : Dv} : ((o_Ground d0 d1 d2).length < 1000) = True := eq_true (by show 3 < 1000; decide)
theorem h_Ground_eq {d0 d1 d2 : Dv} : (getF (Str.ofString "__eq__") ((o_Ground d0 d1 d2).map (·.1)) ((o_Ground d0 d1 d2).map (·.2)) = none) = True := eq_true rfl
theorem g_Ground_rows {d0 d1 d2 : Dv} : getF (Str.ofString "rows") ((o_Ground d0 d1 d2).map (·.1)) ((o_Ground d0 d1 d2).map (·.2)) = some d0 := rfl
theorem p_Ground_rows {d0 d1 d2 x : Dv} : putFD (Str.ofString "rows") x (o_Ground d0 d1 d2) = o_Ground x d1 d2 := rfl
theorem k_Ground_rows {d0 d1 d2 : Dv} : (o_Ground d0 d1 d2).lookup (Str.ofString "rows") = some d0 := rfl
theorem g_Ground_wide {d0 d1 d2 : Dv} : getF (Str.ofString "wide") ((o_Ground d0 d1 d2).map (·.1)) ((o_Ground d0 d1 d2).map (·.2)) = some d1 := rfl
theorem p_Ground_wide {d0 d1 d2 x : Dv} : putFD (Str.ofString "wide") x (o_Ground d0 d1 d2) = o_Ground d0 x d2 := rfl
theorem k_Ground_wide {d0 d1 d2 : Dv} : (o_Ground d0 d1 d2).lookup (Str.ofString "wide") = some d1 := rfl
theorem g_Ground_high {d0 d1 d2 : Dv} : getF (Str.ofString "high") ((o_Ground d0 d1 d2).map (·.1)) ((o_Ground d0 d1 d2).map (·.2)) = some d2 := rfl
theorem p_Ground_high {d0 d1 d2 x : Dv} : putFD (Str.ofString "high") x (o_Ground d0 d1 d2) = o_Ground d0 d1 x := rfl
theorem k_Ground_high {d0 d1 d2 : Dv} : (o_Ground d0 d1 d2).lookup (Str.ofString "high") = some d2 := rfl
end VD

namespace VD
open PySem PySem.Spec PyProof.Rows L2
/-! ### try with clauses with and without names, in any order; each exception of the body is taken by one of them -/
abbrev MixL := List (Value × Option Nat × (Addr → Value → Option Addr → TS))
def wMix (K : PySem.W.Frag) (D : Ends) : MixL → WX
  | [] => fun _ _ _ _ => False
  | (c, o, ts) :: r => fun cls d σ H => ∃ b, PySem.W.exmOne K cls c = some b ∧ (b = true → ∀ a, H a = none → match o with
      | none => ts a cls d D σ H
      | some i => ts a cls d (offSlot i D) (σ.set i (some (.ref a))) H) ∧ (b = false → wMix K D r cls d σ H)
inductive MixOk (X : Cx) : List ExceptHandler → MixL → Prop
  | nil : MixOk X [] []
  | un {x : Str} {c : Value} {ts : Addr → Value → Option Addr → TS} {b₀ : Stmt} {su : List Stmt} {np p2 : Pos} {hds : List ExceptHandler} {l : MixL} (hc : Names X x c)
      (hsu : ∀ (a : Addr) (oe : Obj) (cls : Value) (d : Option Addr) (pn : List (Addr × Obj)), Zc cls d oe → (∃ vs, oe.data = .fields vs) → PSs (X.suite a ((a, oe) :: pn)) (b₀ :: su) (ts a cls d)) (r : MixOk X hds l) :
      MixOk X (.ExceptHandler (some (.Name x np)) none (b₀ :: su) p2 :: hds) ((c, none, ts) :: l)
  | nm {x n : Str} {c : Value} {i : Nat} {ts : Addr → Value → Option Addr → TS} {b₀ : Stmt} {su : List Stmt} {np p2 : Pos} {hds : List ExceptHandler} {l : MixL} (hc : Names X x c) (hi : X.N[i]? = some n) (hln : X.env.kindOf n = some .local)
      (hsu : ∀ (a : Addr) (oe : Obj) (cls : Value) (d : Option Addr) (pn : List (Addr × Obj)), Zc cls d oe → (∃ vs, oe.data = .fields vs) → PSs (X.suite a ((a, oe) :: pn)) (b₀ :: su) (ts a cls d)) (r : MixOk X hds l) :
      MixOk X (.ExceptHandler (some (.Name x np)) (some n) (b₀ :: su) p2 :: hds) ((c, some i, ts) :: l)
section
variable {X : Cx} {bd : List Stmt} {h₀ : ExceptHandler} {hds : List ExceptHandler} {l : MixL} {p1 : Pos} {tb : WX → TS}
theorem ps_mix (hs : X.stack = X.env :: X.outer) (hf : X.env.frame = some X.env.locals) (hN : X.N.Nodup)
    (hb : ∀ (W : WX) (pn : List (Addr × Obj)) (xe : Value → Shared → Prop), Takes (X.tr pn xe) W → PSs (X.tr pn xe) bd (tb W)) (hh : MixOk X (h₀ :: hds) l) :
    PS X (.Try bd (h₀ :: hds) [] [] p1) (fun D σ H => tb (wMix X.K D l) D σ H) := by
  refine ⟨fun pins s σ H D I start => wpAny_Try_except ?_⟩
  have ok := I.ok
  have frames : X.A.frames = some (X.env :: X.outer) := by rw [ok.frames, hs]
  let go : Value → Shared → Prop := fun e sa => wpAny (model X.prog X.w) X.A (noteFrame e X.env)
    (fun _ sb => wpAny (model X.prog X.w) X.A (setFlight e none) (fun _ sc => wpAny (model X.prog X.w) X.A (handleBy e X.env (h₀ :: hds)) (SP X pins D) X.xe sc) X.xe sb) X.xe sa
  have caught : Takes (X.tr (X.pn ++ pins) go) (wMix X.K D l) := by
    intro u sz q
    obtain ⟨a, B, sI, pins2, σ2, H2, cls, d, rfl, J0, nb, up, sky, na, os, ag, wish⟩ := q
    have J : Inv X pins σ2 H2 sI := J0.ofTry ok
    have sky2 : Sky B (X.env :: X.outer) a (Zc cls d) X.env.locals sz.heap := by rw [← hs]; exact sky
    show wpAny (model X.prog X.w) X.A (noteFrame (.ref a) X.env) _ _ _
    refine Sky.land Zc.steady frames hf sky2 fun g fly up2 => ?_
    have J1 : Inv X pins σ2 H2 { sz with heap := g } := J.landed nb fly.1 (up.trans up2) os ag
    obtain ⟨o1, v1, there1, z1, dat1⟩ := fly.there
    have far := no_frame fly.2.2.1 there1 dat1
    have notL : a ≠ X.env.locals := fun z => far (List.mem_filterMap.mpr ⟨X.env, List.mem_cons_self, by rw [hf, z]⟩)
    have notF : a ∉ X.fs := fun hm => by
      obtain ⟨e, he, w⟩ := List.mem_filterMap.mp hm
      exact far (List.mem_filterMap.mpr ⟨e, List.mem_cons_of_mem _ he, w⟩)
    have S1 := J1.suite there1 dat1 na notL notF
    have typ : PySem.W.Looks (model X.prog X.w) g (typeOf (.ref a)) cls := fun A Q E sq keep w => wpAny_typeOf_ref (keep _ _ there1) (by rw [z1.1]; exact w)
    have named : ∀ {x : Str} {c : Value} {np : Pos} {Q : Value → Shared → Prop} {E : Value → Shared → Prop}, Names X x c → Q c { sz with heap := g } → wpAny (model X.prog X.w) (X.A.mark (some (.ref a))) (eval (.Name x np) X.env) Q E { sz with heap := g } := by
      intro x c np Q E hc w
      obtain ⟨hg, hd, hm | ⟨hm, hv, hn⟩⟩ := hc
      · exact ld_glob (X := X.suite a ((a, o1) :: (X.pn ++ pins))) S1 hg hm w hd
      · exact ld_blt (X := X.suite a ((a, o1) :: (X.pn ++ pins))) S1 hg hm hv w hn hd
    have walk : ∀ {hds' : List ExceptHandler} {l' : MixL}, MixOk X hds' l' → wMix X.K D l' cls d σ2 H2 → wpAny (model X.prog X.w) X.A (handleBy (.ref a) X.env hds') (SP X pins D) X.xe { sz with heap := g } := by
      intro hds' l' mk
      induction mk with
      | nil => exact fun w => w.elim
      | @un x c ts b₀ su np p2 hds2 l2 hc hsu r ih =>
        intro w
        obtain ⟨b, match_, yes, no⟩ := w
        have looks := PySem.W.exm_one (M := model X.prog X.w) (J1.kIn) typ match_
        refine wpAny_handleBy_cons (codeAny_handlers_test ?_) (by intro w; cases w)
        refine named hc (looks.here ?_)
        cases b with
        | false => exact ih (no rfl)
        | true =>
          refine codeAny_handlers_suite (HandSPX.lands_againZ fly fun g2 fly2 up3 => ?_)
          have J2 : Inv X pins σ2 H2 { sz with heap := g2 } := J.landed nb fly2.1 ((up.trans up2).trans up3) os ag
          obtain ⟨o2, v2, there2, z2, dat2⟩ := fly2.there
          have S2 := J2.suite there2 dat2 na notL notF
          refine wpAny_mono ((hsu a o2 cls d (X.pn ++ pins) z2 ⟨_, dat2⟩).run [] _ σ2 H2 D S2 (yes rfl a na)) (fun f s6 ends => ?_) (fun _ _ z => z.elim)
          cases f with
          | ret u => obtain ⟨v6, σ6, H6, S6, r6, w6⟩ := ends; exact ⟨_, _, _, S6.unsuite ok, r6, w6⟩
          | next => obtain ⟨σ6, H6, S6, w6⟩ := ends; exact ⟨_, _, S6.unsuite ok, w6⟩
          | brk => obtain ⟨σ6, H6, S6, w6⟩ := ends; exact ⟨_, _, S6.unsuite ok, w6⟩
          | cont => obtain ⟨σ6, H6, S6, w6⟩ := ends; exact ⟨_, _, S6.unsuite ok, w6⟩
      | @nm x n c i ts b₀ su np p2 hds2 l2 hc hi hln hsu r ih =>
        intro w
        obtain ⟨b, match_, yes, no⟩ := w
        have looks := PySem.W.exm_one (M := model X.prog X.w) (J1.kIn) typ match_
        refine wpAny_handleBy_cons (codeAny_handlers_test ?_) (by intro w; cases w)
        refine named hc (looks.here ?_)
        cases b with
        | false => exact ih (no rfl)
        | true =>
          refine codeAny_handlers_suite_as (HandSPX.lands_againZ fly fun g2 fly2 up3 => ?_)
          have J2 : Inv X pins σ2 H2 { sz with heap := g2 } := J.landed nb fly2.1 ((up.trans up2).trans up3) os ag
          obtain ⟨o2, v2, there2, z2, dat2⟩ := fly2.there
          have S2 := J2.suite there2 dat2 na notL notF
          refine store_ok (X := X.suite a ((a, o2) :: (X.pn ++ pins))) (v := .ref a) S2 hN hi (.inl hln) rfl (fun s5 S5 => ?_) (.inr hln)
          refine wpAny_mono ((hsu a o2 cls d (X.pn ++ pins) z2 ⟨_, dat2⟩).run [] s5 _ H2 _ S5 (yes rfl a na)) (fun f s6 ends => ?_) (fun _ _ z => z.elim)
          have drop : ∀ {σ6 : L2.St} {H6 : Hp} {Q : Shared → Prop}, Inv (X.suite a ((a, o2) :: (X.pn ++ pins))) [] σ6 H6 s6 → (∀ s7, Inv X pins (σ6.set i none) H6 s7 → Q s7) →
              wpAny (model X.prog X.w) X.A (do bindName X.env n .none; unbindBehindTheSuite X.env n p2) (fun _ s7 => Q s7) X.xe s6 := fun S6 w => gone_ok (S6.unsuite ok) hN hi hln w
          cases f with
          | ret u => obtain ⟨v6, σ6, H6, S6, r6, w6⟩ := ends; exact drop S6 fun s7 J7 => ⟨_, _, _, J7, r6, w6⟩
          | next => obtain ⟨σ6, H6, S6, w6⟩ := ends; exact drop S6 fun s7 J7 => ⟨_, _, J7, w6⟩
          | brk => obtain ⟨σ6, H6, S6, w6⟩ := ends; exact drop S6 fun s7 J7 => ⟨_, _, J7, w6⟩
          | cont => obtain ⟨σ6, H6, S6, w6⟩ := ends; exact drop S6 fun s7 J7 => ⟨_, _, J7, w6⟩
    exact walk hh wish
  refine wpAny_mono ((hb _ _ go caught).run [] s σ H D (I.toTry _) start) (fun f sf ends => ?_) (fun e se he => he)
  cases f with
  | ret u => obtain ⟨v, σ3, H3, J3, r, w⟩ := ends; exact ⟨v, σ3, H3, J3.ofTry ok, r, w⟩
  | next => obtain ⟨σ3, H3, J3, w⟩ := ends; exact wpAny_execs_nil ⟨σ3, H3, J3.ofTry ok, w⟩
  | brk => obtain ⟨σ3, H3, J3, w⟩ := ends; exact ⟨σ3, H3, J3.ofTry ok, w⟩
  | cont => obtain ⟨σ3, H3, J3, w⟩ := ends; exact ⟨σ3, H3, J3.ofTry ok, w⟩
end
/-! over plain data -/
abbrev MixD := List (List (Value × Bool) × Option Nat × (Addr → Value → Option Addr → DS))
def wMixD (D : DEnds) : MixD → Value → Option Addr → Rho → Sto → Prop
  | [] => fun _ _ _ _ => False
  | (tab, o, s) :: r => fun cls da ρ S => ∃ b, (cls, b) ∈ tab ∧ (b = true → ∀ a, S a = none → match o with
      | none => s a cls da { D with ex := fun _ _ _ _ => False } ρ S
      | some i => s a cls da (offD i D) (ρ.set i (some (.ref a))) S) ∧ (b = false → wMixD D r cls da ρ S)
def dMix (b : DS) (l : MixD) : DS := fun D ρ S => b { D with ex := wMixD D l } ρ S
inductive HdsM (X : Cx) : List ExceptHandler → MixD → MixL → Prop
  | nil : HdsM X [] [] []
  | un {x : Str} {c : Value} {s : Addr → Value → Option Addr → DS} {tab : List (Value × Bool)} {b₀ : Stmt} {su : List Stmt} {np p2 : Pos} {hds : List ExceptHandler} {l : MixD} {l' : MixL}
      (hc : Names X x c) (ht : ∀ p ∈ tab, PySem.W.exmOne X.K p.1 c = some p.2)
      (hsu : ∀ (a : Addr) (oe : Obj) (cls : Value) (d : Option Addr) (pn : List (Addr × Obj)), Zc cls d oe → (∃ vs, oe.data = .fields vs) → PSs (X.suite a ((a, oe) :: pn)) (b₀ :: su) (lowS X.K W0 (s a cls d))) (r : HdsM X hds l l') :
      HdsM X (.ExceptHandler (some (.Name x np)) none (b₀ :: su) p2 :: hds) ((tab, none, s) :: l) ((c, none, fun a cls d => lowS X.K W0 (s a cls d)) :: l')
  | nm {x n : Str} {c : Value} {i : Nat} {s : Addr → Value → Option Addr → DS} {tab : List (Value × Bool)} {b₀ : Stmt} {su : List Stmt} {np p2 : Pos} {hds : List ExceptHandler} {l : MixD} {l' : MixL}
      (hc : Names X x c) (ht : ∀ p ∈ tab, PySem.W.exmOne X.K p.1 c = some p.2)
      (hsu : ∀ (a : Addr) (oe : Obj) (cls : Value) (d : Option Addr) (pn : List (Addr × Obj)), Zc cls d oe → (∃ vs, oe.data = .fields vs) → PSs (X.suite a ((a, oe) :: pn)) (b₀ :: su) (lowS X.K W0 (s a cls d)))
      (r : HdsM X hds l l') (hi : X.N[i]? = some n := by rfl) (hln : X.env.kindOf n = some .local := by rfl) :
      HdsM X (.ExceptHandler (some (.Name x np)) (some n) (b₀ :: su) p2 :: hds) ((tab, some i, s) :: l) ((c, some i, fun a cls d => lowS X.K W0 (s a cls d)) :: l')
theorem HdsM.ok {X : Cx} {hds : List ExceptHandler} {l : MixD} {l' : MixL} (h : HdsM X hds l l') : MixOk X hds l' := by
  induction h with
  | nil => exact .nil
  | un hc ht hsu r ih => exact .un hc hsu ih
  | nm hc ht hsu r hi hln ih => exact .nm hc hi hln hsu ih
theorem HdsM.go {X : Cx} {W : WX} {H : Hp} {Dh : DEnds} {D : Ends} (k : LkS X.K W H Dh D) {hds : List ExceptHandler} {l : MixD} {l' : MixL} (h : HdsM X hds l l') :
    ∀ cls da, LkG X.K H (wMixD Dh l cls da) (wMix X.K D l' cls da) := by
  induction h with
  | nil => exact fun cls da ρ S σ' H' w => w.elim
  | un hc ht hsu r ih =>
    intro cls da ρ S σ' H' ⟨b, hb, hy, hn⟩ t rs a
    refine ⟨b, ht _ hb, fun e p hp => ⟨ρ, S, _, rs, a, hy e p (a.free hp), ⟨k.nx.mono t, k.rt.mono t, k.bk.mono t, k.ct.mono t, fun _ _ _ _ _ _ q => q.elim⟩⟩, fun e => ih cls da ρ S σ' H' (hn e) t rs a⟩
  | @nm x n c i s tab b₀ su np p2 hds l l' hc ht hsu r hi hln ih =>
    intro cls da ρ S σ' H' ⟨b, hb, hy, hn⟩ t rs a
    refine ⟨b, ht _ hb, fun e p hp => ⟨_, S, _, rs.set i (.ref p), a, hy e p (a.free hp), ⟨fun ρ2 S2 σ2 H2 q t2 r2 a2 => k.nx _ S2 _ H2 q (t.trans t2) (r2.setN i) a2, k.rt.mono t, fun ρ2 S2 σ2 H2 q t2 r2 a2 => k.bk _ S2 _ H2 q (t.trans t2) (r2.setN i) a2, fun ρ2 S2 σ2 H2 q t2 r2 a2 => k.ct _ S2 _ H2 q (t.trans t2) (r2.setN i) a2, fun _ _ _ _ _ _ q => q.elim⟩⟩,
      fun e => ih cls da ρ S σ' H' (hn e) t rs a⟩
theorem s_mix {X : Cx} {W : WX} {body : List Stmt} {h₀ : ExceptHandler} {hds : List ExceptHandler} {b : DS} {l : MixD} {l' : MixL} {pos : Pos} (hN : X.N.Nodup)
    (hb : ∀ (W' : WX) (pn : List (Addr × Obj)) (xe : Value → Shared → Prop), Takes (X.tr pn xe) W' → PSs (X.tr pn xe) body (lowS X.K W' b)) (hh : HdsM X (h₀ :: hds) l l')
    (hs : X.stack = X.env :: X.outer := by rfl) (hf : X.env.frame = some X.env.locals := by rfl) : PS X (.Try body (h₀ :: hds) [] [] pos) (lowS X.K W (dMix b l)) :=
  psi (ps_mix (tb := fun W' => lowS X.K W' b) hs hf hN hb hh.ok) fun D σ H ⟨ρ, S, Dh, hσ, hS, h, k⟩ =>
    ⟨ρ, S, { Dh with ex := wMixD Dh l }, hσ, hS, h, ⟨k.nx, k.rt, k.bk, k.ct, hh.go k⟩⟩
/-! isinstance of the caught exception -/
def clsV : Dv → Option Value
  | .ref C => some (.ref C)
  | .ty n => some (.type n)
  | _ => none
theorem bt_ValueError : bootBuiltins "ValueError" = some (.type "ValueError") := by decide +kernel
theorem RoomG.u80 {k : Nat} {A : Around} (h : RoomG k A) : A.units + 80 < cLine := by have := h.r.un; omega
end VD

namespace VD
open PySem PySem.Spec PySem.Calls PyProof.Rows L2
/-! ### enumerate over a tuple -/
section
variable {prog : Program} {w : World} {A : Around} {E : Value → Shared → Prop} {s : Shared}
end
end VD

/-! sets of ints, made of a list or a tuple, sorted -/
namespace VD
open PySem PySem.Spec PySem.Calls PyProof.Rows L2
section
variable {P : Program} {w : World} {A : Around} {E : Value → Shared → Prop} {s : Shared}
end
section
variable {X : Cx}
end
/-! ### sorted(a set of ints) of any size -/
section
variable {P : Program} {w : World} {A : Around} {E : Value → Shared → Prop} {s : Shared} {a : Addr}
end
section
variable {X : Cx}
end
section
variable {X : Cx}
end
end VD

/-! readings at known kinds, one by one: what is not known yet stays folded -/
namespace VD
open PySem PySem.Spec PyProof.Rows L2
section
variable {i j k : Int} {b b2 : Bool} {x y : Dv} {xs ys : List Dv} {z w : Str} {S : Sto} {Q : QD} {f : Bool → Bool} {a : Addr} {lo hi : Option Int}
theorem xd_mk {nx : Rho → Sto → Prop} {rt : Dv → Sto → Prop} {bk ct : Rho → Sto → Prop} {ex : Value → Option Addr → Rho → Sto → Prop} {ρ : Rho} : DEnds.xd { nx := nx, rt := rt, bk := bk, ct := ct, ex := ex } ρ = fun c d S => ex c d ρ S := rfl
theorem qAdd_i : rdAddV (.int i) (.int j) S Q = Q (.int (i + j)) S := rfl
theorem qAdd_t : rdAddV (.tup xs) (.tup ys) S Q = (xs.length + ys.length ≤ sizeLine ∧ Q (.tup (xs ++ ys)) S) := rfl
theorem qAdd_s : rdAddV (.str z) (.str w) S Q = (z.length + w.length ≤ sizeLine ∧ Q (.str (z ++ w)) S) := rfl
theorem qAdd_l : rdAddV (.rol xs) (.rol ys) S Q = (xs.length + ys.length ≤ sizeLine ∧ Q (.rol (xs ++ ys)) S) := rfl
theorem qMul_i : rdMulV (.int i) (.int j) S Q = (IntMulOk i j ∧ Q (.int (i * j)) S) := rfl
theorem qMul_t : rdMulV (.tup xs) (.int k) S Q = ((-(2 ^ 63) ≤ k ∧ k ≤ 1000 ∧ xs.length ≤ 1000 ∧ (1 ≤ k ∨ xs ≠ [])) ∧ Q (.tup (List.replicate k.toNat xs).flatten) S) := rfl
theorem qMul_l : rdMulV (.rol xs) (.int k) S Q = (((-(2 ^ 63) ≤ k ∧ k < 2 ^ 63) ∧ xs.length * k.toNat ≤ sizeLine) ∧ Q (.rol (List.replicate k.toNat xs).flatten) S) := rfl
theorem qSub_i : rdSub (.int i) (.int j) S Q = Q (.int (i - j)) S := rfl
theorem qDiv_i : rdDiv (.int i) (.int j) S Q = (CDivP i j ∧ Q (.int (i / j)) S) := rfl
theorem qMod_i : rdMod (.int i) (.int j) S Q = (0 < j ∧ Q (.int (i % j)) S) := rfl
theorem qPow_i : rdPow (.int i) (.int j) S Q = (CPow i j ∧ Q (.int (i ^ j.toNat)) S) := rfl
theorem qIAdd_i : rdIAdd (.int i) (.int j) S Q = Q (.int (i + j)) S := rfl
theorem qEq_i : rdEqG f (.int i) (.int j) S Q = Q (.bl (f (decide (i = j)))) S := rfl
theorem qEq_b : rdEqG f (.bl b) (.bl b2) S Q = Q (.bl (f (decide (b = b2)))) S := rfl
theorem qEq_s : rdEqG f (.str z) (.str w) S Q = Q (.bl (f (decide (z = w)))) S := rfl
theorem qCmp_i {p : Int → Int → Bool} : rdCmp p (.int i) (.int j) S Q = Q (.bl (p i j)) S := rfl
theorem qIsN {x : Dv} : rdIsN f x .non S Q = Q (.bl (f (isNon x))) S := rfl
theorem qSl_t : rdSlV (.tup xs) lo hi S Q = Q (.tup (cutD xs lo hi)) S := rfl
theorem qSl_l : rdSlV (.rol xs) lo hi S Q = Q (.rol (cutD xs lo hi)) S := rfl
theorem qSl_s : rdSlV (.str z) lo hi S Q = (z.length ≤ sizeLine ∧ Q (.str (cutS z lo hi)) S) := rfl
theorem qInt_i : rdInt [.int i] S Q = Q (.int i) S := rfl
theorem qInt_b : rdInt [.bl b] S Q = Q (.int (if b then 1 else 0)) S := rfl
theorem qInt1 {g : Int → Dv} : rdInt1 g [.int i] S Q = Q (g i) S := rfl
theorem qMax : rdMaxL [.int i, .int j] S Q = Q (.int (if j > i then j else i)) S := rfl
theorem qMin : rdMinL [.int i, .int j] S Q = Q (.int (if j < i then j else i)) S := rfl
theorem qList_t : rdListV [.tup xs] S Q = Q (.rol xs) S := rfl
theorem qList_l : rdListV [.rol xs] S Q = Q (.rol xs) S := rfl
end
end VD

/-! a comprehension whose element may raise -/
namespace VD
open PySem PySem.Spec PyProof.Rows L2

/-! ### the frame of the block is the def's -/
section
variable {M : Model} {A : Around} {E : Value → Shared → Prop} {s : Shared} {env : Env}
end

/-! ### what flies in the block flies in the def -/
section
variable {M : Model} {A : Around} {E : Value → Shared → Prop} {s : Shared} {Z : Obj → Prop} {base : Heap} {env : Env} {outer l : List Env} {L e : Addr}
end

/-! ### the comprehension -/
section
variable {X : Cx}
end
/-! ### over readings -/
section
variable {X : Cx} {W : WX} {tg iter elt : Expr} {ifs : List Expr} {di : DI} {g : TG} {dg : DG} {dt : DT} {de : DE} {scope : Scope} {own : List (Str × Nat)} {pos spos : Pos}
end
end VD

/-! methods that only look: count, index; xs[a:] = ys -/
namespace VD
open PySem PySem.Spec PyProof.Rows L2
section
variable {X : Cx} {W : WX} {o e : Expr} {es : List Expr} {do_ : DE} {das : DA} {K : PySem.W.Frag}
/-! ### a method that only looks at its list -/
/-! count of a bool -/
/-! index of a flat thing -/
/-! ### xs[a:] = ys -/
end
end VD

/-! zip of a list and a tuple, either way (true: a list) -/
namespace VD
open PySem PySem.Spec PyProof.Rows L2
def ItK : Bool → Heap → Addr → Addr → Nat → Prop
  | true => Heap.IsListIter
  | false => Heap.IsTupleIter
def SqK : Bool → Heap → Addr → Array Value → Prop
  | true => Heap.IsList
  | false => Heap.IsTuple
theorem ItK.ext {k : Bool} {h h' : Heap} {a b l : Addr} {i : Nat} (x : ItK k h a l i) (hs : Heap.ExtBut b h h') (hab : a ≠ b) : ItK k h' a l i := by
  cases k
  · exact Heap.IsTupleIter.extBut x hs hab
  · exact Heap.IsListIter.extBut x hs hab
theorem ItK.at {k : Bool} {h h' : Heap} {a l : Addr} {i : Nat} (x : ItK k h a l i) (hs : ∀ o, h.get? a = some o → h'.get? a = some o) : ItK k h' a l i := by
  cases k <;> exact (let ⟨o, ho, r⟩ := x; ⟨o, hs o ho, r⟩)
theorem ItK.ob {k : Bool} {h : Heap} {a l : Addr} {i : Nat} (x : ItK k h a l i) : ∃ o, h.get? a = some o ∧ ∀ v, o.data ≠ .cell v := by
  cases k <;> exact (let ⟨o, ho, _, hd⟩ := x; ⟨o, ho, fun v q => by rw [hd] at q; cases q⟩)
theorem SqK.at {k : Bool} {h h' : Heap} {a : Addr} {xs : Array Value} (x : SqK k h a xs) (hs : ∀ o, h.get? a = some o → h'.get? a = some o) : SqK k h' a xs := by
  cases k <;> exact (let ⟨o, ho, r⟩ := x; ⟨o, hs o ho, r⟩)
theorem SqK.ext {k : Bool} {h h' : Heap} {a b : Addr} {xs : Array Value} (x : SqK k h a xs) (hs : Heap.ExtBut b h h') (hab : a ≠ b) : SqK k h' a xs := x.at fun o e => hs a o hab e
section
variable {prog : Program} {w : World} {A : Around} {E : Value → Shared → Prop} {s : Shared} {b c kb kc : Bool}
end


section
variable {prog : Program} {w : World} {A : Around} {E : Value → Shared → Prop} {s : Shared} {b c : Bool}
end
section
variable {prog : Program} {w : World} {A : Around} {E : Value → Shared → Prop} {s : Shared} {b c : Bool}
end
/-! ### the judgement -/
section
variable {X : Cx} {pins : List (Addr × Obj)} {σ : L2.St} {H : Hp} {s : Shared} {k : Bool}
end
/-! ### over readings -/
end VD

/-! C.index(x): C a written tuple of texts -/
namespace VD
open PySem PySem.Spec PyProof.Rows L2
end VD

/-! a tuple so many times, up to a million items -/
namespace VD
open PySem PySem.Spec PyProof.Rows L2
section
variable {X : Cx}
end
section
variable {K : PySem.W.Frag}
end
section
variable {i j k : Int} {xs : List Dv} {S : Sto} {Q : QD}
end
end VD

/-! max of a tuple of integers -/
namespace VD
open PySem PySem.Spec PyProof.Rows L2
section
variable {prog : Program} {w : World} {A : Around} {E : Value → Shared → Prop} {s : Shared} {l : Addr} {xs : Array (Int × Tok)}
end
section
variable {X : Cx}
end
end VD

/-! a, b, c = x, y, z -/
namespace VD
open PySem PySem.Spec PySem.Calls PyProof.Rows L2
section
variable {X : Cx} {W : WX}
end
end VD

/-! dict(xs) of pairs, d.get(k, x) -/
namespace VD
open PySem PySem.Spec PySem.Calls PyProof.Rows L2
section
variable {K : PySem.W.Frag}
end
section
variable {X : Cx} {W : WX} {o e f : Expr} {apos cpos : Pos} {do_ dk dx : DE}
end
end VD

/-! == by an own __eq__, list(range(..)), "".join(..), a text so many times, a sign within a text -/
namespace VD
open PySem PySem.Spec PyProof.Rows L2
section
variable {X : Cx} {W : WX} {a b e : Expr} {da db de : DE} {pos p p2 : Pos} {C g : Addr} {k : Nat} {fd : FuncData} {ps : List Str} {sp : SpD}
/-! == by an own __eq__ -/
/-! list(range(a, b)) -/
/-! "..".join(xs) -/
/-! a sign within a text -/
end
end VD

/-! exception objects as values: made by a call of their class, asked by isinstance, their field read -/
namespace PySem.W
open PySem PySem.Spec PySem.Calls PyProof.Rows
section
variable {prog : Program} {w : World} {A : Around} {E : Value → Shared → Prop} {s : Shared} {K : Frag} {x D : Addr} {ox : Obj} {od : Option Obj}
theorem findObj_dataO {C : Addr} {name : Str} {a g : Value} (hc : (clsIn K C).isSome = true) (ha : findIn K (.ref C) name = some (some a)) (hg : specialIn K a "__get__" = some (some g)) (ht : takesIn K a = some true) : findObj K C od name = some (.bind g a) := by
  obtain ⟨cd, hc⟩ := Option.isSome_iff_exists.mp hc
  unfold findObj
  rw [hc, Option.bind_some, ha, Option.bind_some]
  simp [hg, ht]
theorem kin_classO {Q : Option Value → Shared → Prop} (hga : findIn K (.ref D) "__getattribute__" = some (some (.builtin "BaseException.__getattribute__"))) (hgt : findIn K (.ref D) "__getattr__" = some none) (hsub : subIn K (.ref D) (.type "BaseException") = some true)
    (hdct : hasDictIn K D = true) (ha : findIn K (.ref D) "__class__" = some (some (.builtin "object.__class__")))
    (hn : specialIn K (.builtin "object.__class__") "__get__" = some (some (.builtin "getset_descriptor.__get__"))) (htk : takesIn K (.builtin "object.__class__") = some true) (hm : mroIn K D (.type "object") = some true)
    (X : K.In s.heap) (I : InstAt s.heap x ox D od) (h : Q (some (.ref D)) { s with toks := s.toks + 1 }) : wpAny (model prog w) A (getAttr? (.ref x) "__class__") Q E s := by
  have hf : findObj K D od "__class__" = some (.bind (.builtin "getset_descriptor.__get__") (.builtin "object.__class__")) := findObj_dataO (by obtain ⟨cd, hc, _⟩ := any_some hdct; rw [hc]; rfl) ha hn htk
  obtain ⟨hp, g, d, t, os⟩ := s
  have L0 := I.type (M := model prog w)
  have L1 := looks_findIn (M := model prog w) X hga
  have L2 := looks_findIn (M := model prog w) X hgt
  have L3 := looks_find (M := model prog w) X I hf
  have sub : Looks (model prog w) hp (isInstance (.ref x) (.type "BaseException")) true := L0.andThen (looks_subIn X hsub)
  have hx0 : (false && onTheHeap (Value.builtin "BaseException.__getattribute__")) = false := rfl
  have hx2 : (Value.builtin "BaseException.__getattribute__" == Value.builtin "object.__getattribute__") = false := by decide +kernel
  have hx1 : (onTheHeap (Value.ref D) && Value.builtin "BaseException.__getattribute__" == Value.builtin "object.__getattribute__") = false := by rw [hx2]; rfl
  unfold getAttr? getAttrBy? getAttrBy
  refine wpAny_bind (wpAny_mkText (wpAny_bind (wpAny_attempt (wpAny_holding (wpAny_bind (L0.at (wpAny_bind (L1.at ?_))))))))
  show wpAny _ _ (if (onTheHeap (Value.ref D) && Value.builtin "BaseException.__getattribute__" == Value.builtin "object.__getattribute__") = true then _ else _) _ _ _
  rw [hx1, if_neg Bool.false_ne_true]
  unfold getAttrByItsOwn hookBefore
  refine wpAny_bind ?_
  rw [if_pos (show onTheHeap (Value.ref D) = true from rfl)]
  refine L2.at ?_
  refine wpAny_bind (wpAny_attempt (wpAny_holding ?_))
  unfold callGetattribute
  rw [hx0, if_neg Bool.false_ne_true]
  unfold boundAndCalled
  rw [PySem.F.excAttr_ValueError.ga.bind (.ref x)]
  refine wpAny_bind (wpAny_pure ?_)
  show wpAny _ _ (call (.builtin "BaseException.__getattribute__") [.ref x, .str "__class__" t]) _ _ _
  refine wpAny_call (codeAny_call_builtin PySem.F.excAttr_ValueError.ga.plain PySem.F.entry_bexc_ga ?_)
  refine @check_slot (model prog w) _ _ ⟨hp, g, d, t + 1, os⟩ "BaseException.__getattribute__" "BaseException" "__getattribute__" (.ref x) [.str "__class__" t] [] _ (by decide +kernel) (by decide +kernel) sub (PySem.F.args_bexc_ga (.ref x) (.str "__class__" t)) ?_
  unfold Builtin.«object.__getattribute__»
  refine wpAny_bind (wpAny_of_eq (a := ((Value.ref x : Value), [Value.str "__class__" t])) (by first | rfl | (simp only [slotArgs]; rfl)) ?_)
  refine wpAny_bind (wpAny_pure (wpAny_bind (L0.at (wpAny_bind (L3.at ?_)))))
  show wpAny _ _ (holding [Value.builtin "object.__class__"] (call (.builtin "getset_descriptor.__get__") [.builtin "object.__class__", .ref x, .ref D]) >>= ret) _ _ _
  refine wpAny_bind (wpAny_holding (wpAny_call (class_get (s := ⟨hp, g, d, t + 1, os⟩) (ox := ox) (od := od) X I hm ?_)))
  refine wpAny_pure ?_
  show wpAny _ _ (handedOut (.ref D)) _ _ _
  rw [handedOut_of (v := .ref D) rfl]
  first
    | exact wpAny_pure (wpAny_pure h)
    | exact wpAny_pure h
    | exact wpAny_pure (wpAny_bind (wpAny_pure (wpAny_pure h)))
theorem kitx_excO (hga : findIn K (.ref D) "__getattribute__" = some (some (.builtin "BaseException.__getattribute__"))) (hgt : findIn K (.ref D) "__getattr__" = some none) (hsub : subIn K (.ref D) (.type "BaseException") = some true) (hdct : hasDictIn K D = true) (ha : findIn K (.ref D) "__class__" = some (some (.builtin "object.__class__")))
    (hn : specialIn K (.builtin "object.__class__") "__get__" = some (some (.builtin "getset_descriptor.__get__"))) (htk : takesIn K (.builtin "object.__class__") = some true) (hm : mroIn K D (.type "object") = some true) :
    KitX K (.ref x) (.ref D) (fun h => InstAt h x ox D od) where
  ty := fun _ _ _ I => I.type
  it := fun _ _ X _ => by
    obtain ⟨cdD, hcD, _⟩ := any_some hdct
    unfold clsIn at hcD
    split at hcD
    · rename_i c' d' cd' sl' ho
      intro A' Q' E' s' k q
      unfold isType loadHead
      exact wpAny_bind (wpAny_loadPart (k _ _ (X _ _ ho)) (wpAny_pure q))
    · cases hcD
  ne := fun h tp dd its n sl X htp => by
    obtain ⟨cdD, hcD, _⟩ := any_some hdct
    refine Bool.eq_false_iff.mpr fun q => ?_
    have e : D = tp := Value.ref.inj (beq_iff_eq.mp q)
    subst e
    unfold clsIn at hcD
    split at hcD
    · rename_i c' d' cd' sl' ho
      have z := (X _ _ ho).symm.trans htp
      cases z
    · cases hcD
  ca := fun X I k => kin_classO hga hgt hsub hdct ha hn htk hm X I k
end
end PySem.W
namespace VD
open PySem PySem.Spec PyProof.Rows L2
section
variable {X : Cx} {W : WX}
theorem exV_ok {P : Program} {w : World} {H : Hp} {h : Heap} {a : Addr} {cls : Value} {d : Option Addr} {oe : Obj} {vs : Array Value} (e : h.get? a = some oe) (z : Zc cls d oe) (hd : oe.data = .fields vs) : ObjOk P w H h a (ExV cls d a) :=
  ⟨⟨oe, vs, e, z, hd⟩, ⟨oe, e⟩, fun _ _ ⟨o, v, q, r⟩ k => ⟨o, v, k o q, r⟩⟩
/-- what makes an exception gives it back as a value -/
theorem pe_of_pmk {e : Expr} {T : L2.St → Hp → XK → Prop} (he : PMk X e T) : PE X e (fun σ H Q => T σ H fun cls d H1 => ∀ a, H1 a = none → Q (.ref a) (upd H1 a (ExV cls d a))) := by
  refine ⟨fun pins s σ H Q I h => ?_⟩
  refine wpAny_mono (he pins s σ H _ I h) (fun u s1 hu => ?_) fun _ _ x => x
  obtain ⟨a, oe, vs, sI, H1, cls, d, rfl, J, k, hne, ha, hz, hd, h1, na, os, ag, r, q⟩ := hu
  obtain ⟨a1, a2, a3, a4, a5⟩ := s1
  have e5 : a5 = sI.os := os
  subst e5
  exact ⟨.ref a, upd H1 a (ExV cls d a), J.call (ch := []) (h' := a1) (g' := a2) (t' := a4) (d' := a3) (H' := upd H1 a (ExV cls d a)) (Un.laidN k hne na) (J.hok.laidN k na (exV_ok ha hz hd)) ag (fun _ z => nomatch z), rfl, q a na⟩
def dMkX (cls : Value) : DE := fun _ S Q _ => ∀ a, S a = none → Q (.ref a) (put S a (.ex cls none))
theorem d_mkx0 {x : Str} {C : Addr} {p pos' : Pos} (T : Exc0 X.K C) (gC : X.mg x = some (.ref C)) (hg : Gl X x := by rfl) (hdb : (x == ("__debug__" : Str)) = false := by decide) :
    PE X (.Call (.Name x p) [] [] pos') (low X.K W (dMkX (.ref C))) := pei (pe_of_pmk (pmk_own0 PySem.F.excBase_ValueError T.q gC T.kp (raises_own T.sb T.ty) hg hdb)) fun σ H Q ⟨ρ, S, Qh, Xh, hσ, hS, h, k, x⟩ =>
      fun a na => k (.ref a) _ (.ref a) _ (h a (hS.free na)) (Tk.new na) (.ref a) (hS.new na upd_same)
/-- C(e), C with one field -/
def dMkF (cls : Value) (f : Str) (das : DA) : DE := fun ρ S Q X => das ρ S (fun ds S1 => match ds with
  | [d] => ∀ dx, S1 dx = none → ∀ a, a ≠ dx → S1 a = none → Q (.ref a) (put (put S1 dx (.xd [(f, d)])) a (.ex cls (some dx)))
  | _ => False) X
theorem d_mkxF {x f : Str} {C fI : Addr} {k : Nat} {fd : FuncData} {ps : List Str} {e : Expr} {das : DA} {p pos' : Pos} (tk : Takes X W) (T : OexC X.K C) (iC : PySem.W.findIn X.K (.ref C) "__init__" = some (some (.ref fI)))
    (tI : PySem.W.typeIn X.K (.ref fI) = some (.type "function")) (F1 : FnOk X.prog X.w X.K X.mg X.base (L2.CX X.prog X.w) k fI fd ps (spInit C f)) (hr : RoomG (k + 1) X.A) (hb : Binds X.K fd ps []) (gC : X.mg x = some (.ref C)) (ha : PA X [e] (lowA X.K W das)) (hg : Gl X x := by rfl)
    (hdb : (x == ("__debug__" : Str)) = false := by decide) (he : starEach [e] X.env = (false, eval e X.env) :: starEach [] X.env := by rfl) (hpl : (backTo pos' (starEach [] X.env)).any (·.1) = false := by rfl) :
    PE X (.Call (.Name x p) [e] [] pos') (low X.K W (dMkF (.ref C) f das)) :=
  pei (pe_of_pmk (pmk_oex (dvs := []) (ds := []) T iC tI F1 hr.r hb .nil (passes_call tk fun _ _ _ _ h => h.elim) hg gC ha hdb he hpl)) fun σ H Q ⟨ρ, S, Qh, Xh, hσ, hS, h, k, x⟩ => by
    refine ⟨ρ, S, _, _, hσ, hS, h, fun ds S1 vs H1 q t r a => ?_, x⟩
    match ds, q, r with
    | [d], q, r =>
      obtain ⟨v, rfl, rv⟩ := one_i r
      refine ⟨by simp, fun e1 n1 => ⟨e1, v, rfl, upd_same, fun dx nd ne => ?_⟩⟩
      have nd1 : H1 dx = none := by rw [upd_ne ne] at nd; exact nd
      refine ⟨rfl, dx, [(f, v)], upd_same, ?_, nd1, ?_⟩
      · rw [upd_ne ne]; exact upd_same
      · have eH : upd (del (upd (upd (upd H1 e1 (exo e1 C none)) dx (exd dx [(f, v)])) e1 (exo e1 C (some dx))) e1) dx (.xd [(f, v)]) = upd H1 dx (.xd [(f, v)]) := by
          funext b
          by_cases h1 : b = dx
          · subst h1; rw [upd_same, upd_same]
          · rw [upd_ne h1, upd_ne h1]
            by_cases h2 : b = e1
            · subst h2; rw [del_same, n1]
            · rw [del_ne h2, upd_ne h2, upd_ne h1, upd_ne h2]
        rw [eH]
        intro a1 na1
        have ne1 : a1 ≠ dx := fun z => by rw [z, upd_same] at na1; cases na1
        have na2 : H1 a1 = none := by rw [upd_ne ne1] at na1; exact na1
        have t2 : Tk X.K H1 (upd H1 dx (.xd [(f, v)])) := Tk.new nd1
        have A1 := a.new (m := .xd [(f, d)]) nd1 (.mxd upd_same (.cons ⟨rfl, rv.mono t2⟩ .nil))
        exact k (.ref a1) _ (.ref a1) _ (q dx (a.free nd1) a1 ne1 (a.free na2)) ((t.trans t2).trans (Tk.new na1)) (.ref a1) (A1.new na1 upd_same)
    | [], q, _ => exact q.elim
    | _ :: _ :: _, q, _ => exact q.elim
/-- isinstance of a held exception -/
def rIsV (P : Addr → Value → Bool → Prop) : List V → Hp → VK → Prop := fun xs H Q => ∃ (a D : Addr) (d : Option Addr) (c : V) (cv : Value) (b : Bool), xs = [.ref a, c] ∧ H a = some (ExV (.ref D) d a) ∧ (∀ dd, d = some dd → ∃ gs, H dd = some (.xd gs)) ∧ (∀ u, RelV c u → u = cv) ∧ P D cv b ∧ Q (.bl b) H
theorem exV_at {P : Program} {w : World} {H : Hp} {h : Heap} {a D : Addr} {d : Option Addr} (ok : HOk P w H h) (ha : H a = some (ExV (.ref D) d a)) (hd : ∀ dd, d = some dd → ∃ gs, H dd = some (.xd gs)) : ∃ oe od, PySem.W.InstAt h a oe D od := by
  have x : ObjOk P w H h a (ExV (.ref D) d a) := ok a _ ha
  obtain ⟨⟨oe, vs, hget, hz, hv⟩, _, _⟩ := x
  cases d with
  | none =>
    refine ⟨oe, none, ?_⟩
    obtain ⟨oc, od, oda, osl⟩ := oe
    obtain ⟨h1, h2⟩ := hz
    dsimp only at h1 h2 hv
    subst h1 h2 hv
    exact ⟨hget, rfl, rfl, trivial⟩
  | some dd =>
    obtain ⟨gs, hg⟩ := hd dd rfl
    have y : ObjOk P w H h dd (.xd gs) := ok dd _ hg
    obtain ⟨mA, hns, hr⟩ := y
    obtain ⟨od, ho, hl⟩ := lookIn_ns hns
    refine ⟨oe, some od, ?_⟩
    obtain ⟨oc, odc, oda, osl⟩ := oe
    obtain ⟨h1, h2⟩ := hz
    dsimp only at h1 h2 hv
    subst h1 h2 hv
    exact ⟨hget, rfl, rfl, ho⟩
theorem call_isV {P : Addr → Value → Bool → Prop} (hP : ∀ D cv b, P D cv b → ExcC X.K D ∧ PySem.W.kitOne X.K (.ref D) cv = some b) : CallR X (.builtin "isinstance") (rIsV P) := by
  intro pins s σ H xs us Q I r h
  obtain ⟨a, D, d, c, cv, b, rfl, ha, hd, hcv, hp, q⟩ := h
  obtain ⟨C, e⟩ := hP _ _ _ hp
  cases r with
  | cons rx rr =>
    cases rr with
    | cons rt rr =>
      cases rr
      cases rx
      have ec := hcv _ rt
      subst ec
      obtain ⟨oe, od, J⟩ := exV_at I.hok ha hd
      exact PySem.W.kia_one (PySem.W.kitx_excO C.hg C.hk C.hs C.hd C.ha C.hn C.ht C.hm) I.kIn J e (fun z => nomatch z) fun tk => ⟨.bl b, H, I.kept (t' := tk) fun _ _ z => z, rfl, q⟩
def rdIsV (P : Addr → Value → Bool → Prop) : RDC := fun ds S Q => match ds with
  | [.ref a, c] => ∃ D d cv b, S a = some (.ex (.ref D) d) ∧ (∀ dd, d = some dd → ∃ fs, S dd = some (.xd fs)) ∧ clsV c = some cv ∧ P D cv b ∧ Q (.bl b) S
  | _ => False
theorem l_isV {K : PySem.W.Frag} {P : Addr → Value → Bool → Prop} : LRC K (rIsV P) (rdIsV P) := by
  intro vs H ds S Qh Q r hS h k
  unfold rdIsV at h
  split at h
  · rename_i a c
    obtain ⟨D, d, cv, b, e1, e2, e3, hp, q⟩ := h
    obtain ⟨v1, vs1, rfl, r1, r2⟩ := r.cons_i
    obtain ⟨v2, rfl, r3⟩ := one_i r2
    rw [r1.i_ref]
    refine ⟨a, D, d, v2, cv, b, rfl, hS a _ e1, fun dd ed => ?_, fun u hu => ?_, hp, k.now q (.bl _) hS⟩
    · obtain ⟨fs, hf⟩ := e2 dd ed
      obtain ⟨gs, g1, _⟩ := hS dd _ hf
      exact ⟨gs, g1⟩
    · unfold clsV at e3
      split at e3
      · cases e3
        rw [r3.i_ref] at hu
        exact hu
      · cases e3
        rw [r3.i_ty] at hu
        exact hu
      · cases e3
  · exact h.elim
/-- e.f, e a held exception -/
def dXv (P : Addr → Prop) (f : Str) (de : DE) : DE := fun ρ S Q X => de ρ S (fun x S1 => match x with
  | .ref a => ∃ C dd fs v, S1 a = some (.ex (.ref C) (some dd)) ∧ P C ∧ S1 dd = some (.xd fs) ∧ fs.lookup f = some v ∧ Q v S1
  | _ => False) X
theorem d_xv {P : Addr → Prop} {e : Expr} {de : DE} {pos : Pos} {n : Str} (hP : ∀ C, P C → XfC X.K C ∧ PySem.W.findIn X.K (.ref C) n = some none)
    (he : PE X e (low X.K W de)) (hb : attributeBase e n X.env (eval e X.env) = eval e X.env := by rfl) :
    PE X (.Attribute e n pos) (low X.K W (dXv P n de)) := by
  refine ⟨fun pins s σ H Q I h => ?_⟩
  obtain ⟨ρ, S, Qh, Xh, hσ, hS, h, k, x⟩ := h
  refine attr_of hb (thn (he.run pins s σ H _ I ⟨ρ, S, _, Xh, hσ, hS, h, (fun d1 S1 v1 H1 q1 t1 r1 a1 => ⟨d1, S1, q1, t1, r1, a1⟩ : Lk X.K H _ (fun v1 H1 => ∃ d1 S1, _ ∧ Tk X.K H H1 ∧ Rep X.K H1 v1 d1 ∧ Abs X.K H1 S1)), x⟩) fun u s1 hh => ?_)
  obtain ⟨v1, H1, I1, r1, d1, S1, q1, t1, rp, ab⟩ := hh
  match d1, q1, rp with
  | .ref a, q1, rp =>
    obtain ⟨C, dd, fs, v, ea, pc, ed, el, q⟩ := q1
    obtain ⟨T, hno⟩ := hP C pc
    have e1 := rp.i_ref
    subst e1
    obtain rfl : u = Value.ref a := r1
    have ha : H1 a = some (ExV (.ref C) (some dd) a) := ab a _ ea
    obtain ⟨gs, g1, g2⟩ := ab dd _ ed
    obtain ⟨y, y1, y2⟩ := lookF g2 el
    have x1 : ObjOk X.prog X.w H1 s1.heap a (ExV (.ref C) (some dd) a) := I1.hok a _ ha
    obtain ⟨⟨oe, vs, hget, hz, hv⟩, _, _⟩ := x1
    have x2 : ObjOk X.prog X.w H1 s1.heap dd (.xd gs) := I1.hok dd _ g1
    obtain ⟨mA, hns, hr⟩ := x2
    obtain ⟨od, ho, hl⟩ := lookIn_ns hns
    obtain ⟨uv, hu, ru⟩ := RelO.some_of (v := y) (o := mA n) (by rw [← y1]; exact hr n)
    have J : PySem.W.InstAt s1.heap a oe C (some od) := ⟨hget, hz.1, by unfold PySem.W.notCls; rw [hv] <;> rfl, by rw [hz.2]; exact ho⟩
    exact HandSPX.exc_get I1.kIn J T.ga T.gg T.exC (PySem.W.findObj_own T.hdC hno rfl (by rw [hl, hu])) (handed_of ru) ⟨y, H1, I1.tok _, ru, k v S1 y H1 q t1 y2 ab⟩
end
end VD

/-! repr of data that may hold dicts by value -/
namespace VD
open PySem PySem.Spec PyProof.Rows L2
def kpy : Key → PyData
  | .inl i => .int i
  | .inr x => .str x
mutual
def pyR : Dv → PyData
  | .non => .none
  | .bl b => .bool b
  | .int i => .int i
  | .str x => .str x
  | .tup xs => .tuple (pyRL xs)
  | .rol xs => .list (pyRL xs)
  | .rod ks ds => .dict ((ks.map kpy).zip (pyRL ds))
  | .ty _ => .none
  | .ref _ => .none
  | .obj _ _ _ => .none
def pyRL : List Dv → List PyData
  | [] => []
  | x :: xs => pyR x :: pyRL xs
def isR : Dv → Bool
  | .non | .bl _ | .int _ | .str _ => true
  | .tup xs | .rol xs => isRL xs
  | .rod _ xs => isRL xs
  | .ty _ | .ref _ | .obj _ _ _ => false
def isRL : List Dv → Bool
  | [] => true
  | x :: xs => isR x && isRL xs
end
mutual
inductive DpR (K : PySem.W.Frag) (H : Hp) : V → PyData → Prop
  | non : DpR K H .non .none
  | bl (b : Bool) : DpR K H (.bl b) (.bool b)
  | int (i : Int) : DpR K H (.int i) (.int i)
  | str (x : Str) : DpR K H (.str x) (.str x)
  | lst {a : Addr} {xs : List V} {ds : List PyData} : SqL K H a xs → DpRs K H xs ds → DpR K H (.ref a) (.list ds)
  | tup {a : Addr} {xs : List V} {ds : List PyData} : SqT K H a xs → DpRs K H xs ds → DpR K H (.ref a) (.tuple ds)
  | dic {a : Addr} {o : Obj} {ks : List Key} {vs : List V} {ds : List PyData} : H a = some (.frz o (.dK (ks.zip vs))) → ks.length = vs.length → DpRs K H vs ds → DpR K H (.ref a) (.dict ((ks.map kpy).zip ds))
inductive DpRs (K : PySem.W.Frag) (H : Hp) : List V → List PyData → Prop
  | nil : DpRs K H [] []
  | cons {v : V} {vs : List V} {d : PyData} {ds : List PyData} : DpR K H v d → DpRs K H vs ds → DpRs K H (v :: vs) (d :: ds)
end
section
variable {K : PySem.W.Frag}
mutual
theorem Rep.dpR {H : Hp} : ∀ (d : Dv) {v : V}, Rep K H v d → isR d = true → DpR K H v (pyR d)
  | .non, _, h, _ => by rw [h.i_non]; exact .non
  | .bl b, _, h, _ => by rw [h.i_bl]; exact .bl b
  | .int b, _, h, _ => by rw [h.i_int]; exact .int b
  | .str b, _, h, _ => by rw [h.i_str]; exact .str b
  | .tup xs, _, h, e => by
    obtain ⟨p, us, rfl, hs, l⟩ := h.i_tup
    exact .tup hs (RepL.dpR xs l (by simpa [isR] using e))
  | .rol xs, _, h, e => by
    obtain ⟨p, us, rfl, hs, l⟩ := h.i_rol
    exact .lst hs.sq (RepL.dpR xs l (by simpa [isR] using e))
  | .rod ks ds, _, h, e => by
    obtain ⟨a, o, vs, rfl, h1, h2, l⟩ := h.i_rod
    exact .dic h1 h2 (RepL.dpR ds l (by simpa [isR] using e))
  | .ty _, _, _, e => by cases e
  | .ref _, _, _, e => by cases e
  | .obj _ _ _, _, _, e => by cases e
theorem RepL.dpR {H : Hp} : ∀ (ds : List Dv) {vs : List V}, RepL K H vs ds → isRL ds = true → DpRs K H vs (pyRL ds)
  | [], _, h, _ => by rw [h.nil_i]; exact .nil
  | d :: ds, _, h, e => by
    obtain ⟨v, r, rfl, h1, h2⟩ := h.cons_i
    simp only [isRL, Bool.and_eq_true] at e
    exact .cons (Rep.dpR d h1 e.1) (RepL.dpR ds h2 e.2)
end
end
/-- where sys.modules stands, a dict stands -/
def SysB (h : Heap) : Prop := ∃ o es ep, h.get? sysModules = some o ∧ o.data = .dict es ep
theorem SysB.of_ns {h : Heap} {m : Str → Option Value} (n : h.Ns sysModules m) : SysB h := let ⟨o, es, ep, e, d, _⟩ := n; ⟨o, es, ep, e, d⟩
section
variable {X : Cx} {pins : List (Addr × Obj)} {σ : L2.St} {H : Hp} {s : Shared}
theorem keys_read {h : Heap} {P : Program} {w : World} : ∀ {es : List DictEntry} {ks : List Key} {us : List Value}, Pairs (mixKind P w) es (ks.zip us) → ks.length = us.length → ReadsAll h (es.map (·.key)) (ks.map kpy) [] ∧ es.map (·.val) = us
  | [], ks, us, p, l => by
    generalize e : ks.zip us = z at p
    cases p
    cases ks with
    | nil =>
      cases us with
      | nil => exact ⟨.nil, rfl⟩
      | cons _ _ => cases l
    | cons _ _ =>
      cases us with
      | nil => cases l
      | cons _ _ => cases e
  | e0 :: es, ks, us, p, l => by
    generalize e : ks.zip us = z at p
    cases p with
    | cons hk hv r =>
      cases ks with
      | nil => cases e
      | cons k ks =>
        cases us with
        | nil => cases l
        | cons u us =>
          cases e
          obtain ⟨r1, r2⟩ := keys_read (h := h) r (by simpa using l)
          refine ⟨?_, by rw [List.map_cons, r2]; exact congrArg (· :: us) hv⟩
          rw [List.map_cons, List.map_cons]
          have q : Reads h e0.key (kpy k) [] := by
            rcases keyIs_shape (show keyIs k e0.key = true from hk) with ⟨i, t, rfl, e1⟩ | ⟨x, t, rfl, e1⟩
            · rw [e1]; exact Reads.int i t
            · rw [e1]; exact Reads.str x t
          exact ReadsAll.cons q r1
theorem kv_unzip : ∀ {ks : List Key} {vs : List V} {kvs : List (Key × Value)}, KV (ks.zip vs) kvs → ks.length = vs.length → ∃ us, kvs = ks.zip us ∧ ks.length = us.length ∧ Vals vs us
  | [], [], _, r, _ => by cases r; exact ⟨[], rfl, rfl, .nil⟩
  | [], _ :: _, _, _, l => by cases l
  | _ :: _, [], _, _, l => by cases l
  | k :: ks, v :: vs, _, r, l => by
    cases r with
    | @cons _ b _ l2 r1 r2 =>
      obtain ⟨us, e, l1, rv⟩ := kv_unzip r2 (by simpa using l)
      obtain ⟨k2, u⟩ := b
      obtain ⟨e1, ru⟩ := r1
      dsimp only at e1 ru
      subst e1
      exact ⟨u :: us, by rw [e]; rfl, by simp [l1], .cons ru rv⟩
theorem DpRs.length {K : PySem.W.Frag} : ∀ {vs : List V} {ds : List PyData}, DpRs K H vs ds → vs.length = ds.length
  | [], _, h => by cases h; rfl
  | _ :: vs, _, h => by
    cases h with
    | cons _ h => exact congrArg (· + 1) (DpRs.length h)
mutual
theorem DpR.reads (I : L2.Inv X pins σ H s) (B : SysB s.heap) : ∀ {v : V} {d : PyData}, DpR X.K H v d → ∀ {u : Value}, RelV v u → ∃ as, Reads s.heap u d as ∧ sysModules ∉ as
  | _, _, .non, _, r => by
    cases r
    exact ⟨_, Reads.none, fun h => nomatch h⟩
  | _, _, .bl b, _, r => by
    cases r
    exact ⟨_, Reads.bool b, fun h => nomatch h⟩
  | _, _, .int i, _, r => by
    obtain ⟨t, rfl⟩ := r
    exact ⟨_, Reads.int i t, fun h => nomatch h⟩
  | _, _, .str x, _, r => by
    obtain ⟨t, rfl⟩ := r
    exact ⟨_, Reads.str x t, fun h => nomatch h⟩
  | _, _, @DpR.lst _ _ a _ _ hs ha, _, r => by
    cases r
    obtain ⟨its, rv, ⟨o, n, ho, hc, _, hd⟩, _⟩ := I.list hs
    obtain ⟨as, hr, hn⟩ := DpRs.reads I B ha rv
    refine ⟨_, Reads.list ho hc hd hr, fun hm => ?_⟩
    rcases List.mem_cons.mp hm with e | hm
    · obtain ⟨o2, es, ep, e2, d2⟩ := B
      rw [e, ho] at e2
      cases e2
      rw [hd] at d2
      cases d2
    · exact hn hm
  | _, _, @DpR.tup _ _ a _ _ hs ha, _, r => by
    cases r
    obtain ⟨its, rv, ⟨o, ho, hc, n, hd⟩, _⟩ := I.tuple hs
    obtain ⟨as, hr, hn⟩ := DpRs.reads I B ha rv
    exact ⟨_, Reads.tuple ho hc hd hr, hn⟩
  | _, _, @DpR.dic _ _ a o ks vs ds h0 hl ha, _, r => by
    cases r
    have x : ObjOk X.prog X.w H s.heap a (.frz o (.dK (ks.zip vs))) := I.hok a _ h0
    obtain ⟨hd, z, hs, us, kv, o', es, ep, ho, hx, hdt, hk, hp, _⟩ := x
    obtain ⟨us, rfl, l1, rv⟩ := kv_unzip kv hl
    obtain ⟨r1, r2⟩ := keys_read (h := s.heap) hp l1
    obtain ⟨as, hr, hn⟩ := DpRs.reads I B ha rv
    have l2 := ha.length
    have e1 : ((ks.map kpy).zip ds).map (·.1) = ks.map kpy := List.map_fst_zip (by rw [List.length_map]; omega)
    have e2 : ((ks.map kpy).zip ds).map (·.2) = ds := List.map_snd_zip (by rw [List.length_map]; omega)
    refine ⟨_, Reads.dict ho hx.1 hdt (by rw [e1]; exact r1) (by rw [e2, r2]; exact hr), fun hm => ?_⟩
    rcases List.mem_append.mp hm with hm | hm
    · rw [List.mem_singleton.mp hm] at hs
      rw [beq_self_eq_true] at hs
      cases hs
    · exact hn hm
theorem DpRs.reads (I : L2.Inv X pins σ H s) (B : SysB s.heap) : ∀ {vs : List V} {ds : List PyData}, DpRs X.K H vs ds → ∀ {us : List Value}, Vals vs us → ∃ as, ReadsAll s.heap us ds as ∧ sysModules ∉ as
  | _, _, .nil, _, r => by
    cases r
    exact ⟨_, ReadsAll.nil, fun h => nomatch h⟩
  | _, _, .cons h1 h2, _, r => by
    cases r with
    | cons r1 r2 =>
      obtain ⟨as, q1, n1⟩ := DpR.reads I B h1 r1
      obtain ⟨bs, q2, n2⟩ := DpRs.reads I B h2 r2
      exact ⟨_, ReadsAll.cons q1 q2, fun hm => (List.mem_append.mp hm).elim n1 n2⟩
end
variable {K : PySem.W.Frag}
def shwR (d : Dv) : Bool := isR d && (pyR d).showable && decide ((pyR d).depth ≤ 64) && decide ((pyR d).shown.length ≤ sizeLine)
def rReprR (K : PySem.W.Frag) : List V → Hp → VK → Prop := fun xs H Q => ∃ x d, xs = [x] ∧ DpR K H x d ∧ d.showable = true ∧ d.depth ≤ 64 ∧ d.shown.length ≤ sizeLine ∧ Q (.str d.shown) H
theorem SysB.keeps {h h' : Heap} (B : SysB h) (k : ∀ b o, h.get? b = some o → h'.get? b = some o) : SysB h' := let ⟨o, es, ep, e, d⟩ := B; ⟨o, es, ep, k _ _ e, d⟩
theorem call_reprR (B : SysB X.base) (hg : X.A.guards = some []) (hu : X.A.units + 80 < cLine) : CallR X (.builtin "repr") (rReprR X.K) := by
  intro pins s σ H xs us Q I r h
  obtain ⟨x, d, rfl, dp, h1, h3, h4, q⟩ := h
  obtain ⟨u, rfl, r1⟩ := vals1 r
  obtain ⟨as, rd, hm⟩ := DpR.reads I (B.keeps I.bk) dp r1
  have done : ∀ {tk : Tok} {h' : Heap} {n : Nat}, (∀ b o, s.heap.get? b = some o → h'.get? b = some o) → EP X pins σ Q (.str d.shown tk) { s with heap := h', toks := n } := fun {tk h' n} kp => ⟨.str d.shown, H, I.kept (t' := n) kp, ⟨tk, rfl⟩, q⟩
  cases dp with
  | non => cases (show u = Value.none from r1); exact PySem.P.repr_of_none (done fun _ _ h => h)
  | bl b => cases (show u = Value.bool b from r1); exact PySem.P.repr_of_bool (done fun _ _ h => h)
  | int i =>
    obtain ⟨t, q⟩ := (show ∃ t, u = Value.int i t from r1); cases q
    exact PySem.P.repr_of_int (by simpa [PyData.showable] using h1) (done fun _ _ h => h)
  | str y =>
    obtain ⟨t, q⟩ := (show ∃ t, u = Value.str y t from r1); cases q
    exact PySem.P.repr_of_str (done fun _ _ h => h) h4
  | lst hs ha => cases (show u = Value.ref _ from r1); exact repr_of_reads' rd h1 (fun _ => hm) hg (by omega) (fun _ _ h => h) (fun h' u' tk kp => done kp) h4
  | tup hs ha => cases (show u = Value.ref _ from r1); exact repr_of_reads' rd h1 (fun _ => hm) hg (by omega) (fun _ _ h => h) (fun h' u' tk kp => done kp) h4
  | dic hs hl ha => cases (show u = Value.ref _ from r1); exact repr_of_reads' rd h1 (fun _ => hm) hg (by omega) (fun _ _ h => h) (fun h' u' tk kp => done kp) h4
def rdReprR : RDC := fun ds S Q => match ds with
  | [d] => shwR d = true ∧ Q (.str (pyR d).shown) S
  | _ => False
theorem l_reprR : LRC K (rReprR K) rdReprR := by
  intro vs H ds S Qh Q r hS h k
  unfold rdReprR at h
  split at h
  · obtain ⟨v, rfl, rr⟩ := one_i r
    obtain ⟨s, q⟩ := h
    unfold shwR at s
    simp only [Bool.and_eq_true, decide_eq_true_eq] at s
    exact ⟨v, _, rfl, Rep.dpR _ rr s.1.1.1, s.1.1.2, s.1.2, s.2, k.now q (.str _) hS⟩
  · exact h.elim
end
end VD

/-! a law that asks repr of things with dicts; facts of held exceptions -/
namespace VD
open PySem PySem.Spec PyProof.Rows L2
section
theorem lawS {P : Program} {w : World} {K : PySem.W.Frag} {mg mb : Str → Option Value} {CX : CXT} {k : Nat} {fa a : Addr} {fd : FuncData} {x : Str} {sp : Sp} {s : Shared} {vs : List Value} {ns : List Int} (KX : K.In s.heap) (hns : s.heap.Ns mainGlobals mg) (hb : s.heap.Ns builtinsNs mb)
    (hbb : ∀ x : Str, x ≠ "__name__" → mb x = bootBuiltins x) (hlim : s.heap.NoLimit) (hg : s.gens = #[]) (ha : s.heap.get? a = some { cls := .type "list", data := .seq vs.toArray }) (hi : IntsAre vs ns) (hl : ns.length ≤ sizeLine) (hr : RoomG k callerA)
    (hsys : ∃ m, s.heap.Ns sysModules m) (F : ∀ base : Heap, K.In base → base.Ns mainGlobals mg → SysB base → FnG P w K mg base CX k fa fd [x] sp) (hbind : ∀ (s : Shared) (u : Value), BindsTo s fd ⟨[u], []⟩ [(x, u)]) (hsp : ∀ H : Hp, CL K H a (ns.map V.int) → sp [.ref a] H (fun v _ => v = .bl true) fun _ _ _ => False)
    (hCX : ∀ H e s', CX [] H s (fun _ _ _ => False) e s' → False) : codeAny (model P w) callerA (.call (.ref fa) ⟨[.ref a], []⟩) (fun r s' => r = .ok (.ret (.bool true)) ∧ OldK s.heap s'.heap ∧ s'.os = s.os ∧ AllBare s'.gens) s := by
  have rv := vals_ints hi
  have go : ∀ H : Hp, Only H → CL K H a (ns.map V.int) → HOk P w H s.heap → (∀ b, H b ≠ none → b = a) → (H a ≠ none → K.lookup a = none) → codeAny (model P w) callerA (.call (.ref fa) ⟨[.ref a], []⟩) (fun r s' => r = .ok (.ret (.bool true)) ∧ OldK s.heap s'.heap ∧ s'.os = s.os ∧ AllBare s'.gens) s := by
    intro H hO hS hok hA hK
    have alone : ∀ {b : Addr} {u : HO}, H b = some u → b = a := fun {b u} q => hA b (by rw [q]; exact Option.some_ne_none u)
    have stays : ∀ {b : Addr} {o : Obj}, s.heap.get? b = some o → H b = none → (hidT s.heap H).get? b = some o := fun e n => hidT_get e n
    have dictOff : ∀ {b : Addr} {o : Obj} {es : Array DictEntry} {ep : Nat}, s.heap.get? b = some o → o.data = .dict es ep → H b = none := fun {b o es ep} e d => by
      cases q : H b with
      | none => rfl
      | some u =>
        obtain rfl := alone q
        rw [ha] at e
        cases e
        cases (show Data.seq vs.toArray _ = Data.dict es ep from d)
    have nsOf : ∀ {b : Addr} {m : Str → Option Value}, s.heap.Ns b m → (hidT s.heap H).Ns b m := fun {b m} ⟨o, es, ep, e, d, r⟩ => ⟨o, es, ep, stays e (dictOff e d), d, r⟩
    have hKb : K.In (hidT s.heap H) := fun b o e => by
      refine stays (KX b o e) ?_
      cases q : H b with
      | none => rfl
      | some u =>
        obtain rfl := alone q
        have n := hK (by rw [q]; exact Option.some_ne_none u)
        rw [n] at e
        cases e
    have hM : Mod K mg (hidT s.heap H) := ⟨hKb, nsOf hns, ⟨mb, nsOf hb, hbb⟩, let ⟨mc, h1, h2⟩ := hlim; ⟨mc, nsOf h1, h2⟩⟩
    have e0 : Env0 P w K mg (hidT s.heap H) callerA [] s H := ⟨rfl, hM, fun b o e => of_hidT e, Nat.le_of_eq (hidT_size _ _), trivial, fun b hb => absurd hb (by intro z; cases z), hok, .of_eq hg⟩
    refine codeAny_mono ((F _ hKb (nsOf hns) (let ⟨_, hm⟩ := hsys; SysB.of_ns (nsOf hm))).go callerA [] s H ⟨[.ref a], []⟩ [.ref a] [.ref a] _ _ hr e0 (hbind s (.ref a)) (.cons rfl .nil) (hsp H hS)) fun r s' h => ?_
    match r, h with
    | .error e, h => exact (hCX H e s' h).elim
    | .ok .next, h => exact False.elim h
    | .ok .brk, h => exact False.elim h
    | .ok .cont, h => exact False.elim h
    | .ok (.ret u), h =>
      obtain ⟨v, H', os, bare, un, hok', r', q⟩ := h
      obtain rfl : v = .bl true := q
      obtain rfl : u = Value.bool true := r'
      refine ⟨rfl, OldK.of_keep fun b o e => ?_, os, bare⟩
      rcases hO b with z | ⟨ob, xs, z⟩
      · exact un.keep b o e z (fun z => by cases z) (fun z => by cases z)
      · have e1 := (hok b _ z).1
        have e2 := (hok' b _ (un.frzs b ob _ z)).1
        rw [e] at e1
        cases e1
        exact e2
  cases hk : K.lookup a with
  | some o =>
    have e := KX a o hk
    rw [ha] at e
    cases e
    exact go (fun _ => none) (fun _ => .inl rfl) (.inr ⟨vs.toArray, _, hk, by rw [List.size_toArray, hi.length]; exact hl, by simpa using rv⟩) (fun b u z => by cases z) (fun b z => absurd rfl z) fun z => absurd rfl z
  | none =>
    let ob : Obj := { cls := .type "list", data := .seq vs.toArray }
    let H : Hp := fun b => if b = a then some (.frz ob (.lst (ns.map V.int))) else none
    have hsame : H a = some (.frz ob (.lst (ns.map V.int))) := if_pos rfl
    have hoff : ∀ b, b ≠ a → H b = none := fun b q => if_neg q
    refine go H (fun b => ?_) (.inl ⟨ob, hsame⟩) (fun b u z => ?_) (fun b z => ?_) fun _ => hk
    · by_cases q : b = a
      · exact .inr ⟨ob, _, by rw [q]; exact hsame⟩
      · exact .inl (hoff b q)
    · by_cases q : b = a
      · subst q
        rw [hsame] at z
        cases z
        exact ⟨ha, by rw [List.length_map]; exact hl, vs, _, rv, ha⟩
      · rw [hoff b q] at z
        cases z
    · by_cases q : b = a
      · exact q
      · exact absurd (hoff b q) z
theorem walkS {l : PySem.W.OpenLaw} {n k : Nat} {q : Program} {loose : List Str} {XP : (Str → Option Value) → Heap → Prop} {YP : World → Heap → Prop} {d : DefRec} {K : Params → PySem.W.Frag} {CX : World → CXT} {sp : World → Sp} {x : Str} (hn : l.most = some n) (hn2 : n ≤ sizeLine)
    (hin : importsNone q = true) (hdf : d.params.defaults = []) (hr : RoomG k callerA) (hY : ∀ (w : World) (h : Heap), YP w h → (K w.params).In h)
    (F : ∀ (w : World) (mg : Str → Option Value) (fa : Addr) (h : Heap), (K w.params).In h → h.Ns mainGlobals mg → mg d.name = some (.ref fa) → ∃ fd : FuncData, (∀ (s : Shared) (u : Value), BindsTo s fd ⟨[u], []⟩ [(x, u)]) ∧
        ∀ base : Heap, (K w.params).In base → base.Ns mainGlobals mg → SysB base → FnG l.prog w (K w.params) mg base (CX w) k fa fd [x] (sp w))
    (hsp : ∀ (w : World) (H : Hp) (a : Addr) (ns : List Int), ns.length ≤ n → CL (K w.params) H a (ns.map V.int) → sp w [.ref a] H (fun v _ => v = .bl true) fun _ _ _ => False)
    (hCX : ∀ (w : World) (H : Hp) (s : Shared) (e : Value) (s' : Shared), CX w [] H s (fun _ _ _ => False) e s' → False) : PySem.W.WalkO q loose XP YP l.row.toRowW d [] (fun f vs => PySem.call f vs) := by
  refine Att.attach_call hn hdf fun w s₀ s₁ mg mb fa o pm cd doc a vs ns G Y ho hd hcd hmg hobj hints hlen hg => ?_
  obtain ⟨fd, hb, hF⟩ := F w mg fa _ (hY w _ Y) G.T.g hmg
  exact lawS (hY w _ Y) G.T.g G.T.b G.T.builtins G.T.nolimit hg hobj hints (Nat.le_trans hlen hn2) hr (let ⟨mm, hm, _⟩ := (G.T.seer hin).mods; ⟨mm, hm⟩) hF hb (fun H hS => hsp w H a ns hlen hS) fun H e s' => hCX w H s₁ e s'
end
theorem xv_nil {K : PySem.W.Frag} {f : Str} : ∀ C ∈ ([] : List Addr), XfC K C ∧ PySem.W.findIn K (.ref C) f = some none := fun _ h => by cases h
theorem xv_cons {K : PySem.W.Frag} {f : Str} {C0 : Addr} {cs : List Addr} (h1 : XfC K C0) (h2 : PySem.W.findIn K (.ref C0) f = some none) (r : ∀ C ∈ cs, XfC K C ∧ PySem.W.findIn K (.ref C) f = some none) :
    ∀ C ∈ C0 :: cs, XfC K C ∧ PySem.W.findIn K (.ref C) f = some none := fun C h => by
  rcases List.mem_cons.mp h with rfl | h
  · exact ⟨h1, h2⟩
  · exact r C h
theorem bt_KeyError : bootBuiltins "KeyError" = some (.type "KeyError") := by decide +kernel
theorem bt_IndexError : bootBuiltins "IndexError" = some (.type "IndexError") := by decide +kernel
theorem bt_ArithmeticError : bootBuiltins "ArithmeticError" = some (.type "ArithmeticError") := by decide +kernel
/-- what isinstance must find in the written part of an own exception class -/
def excB (K : PySem.W.Frag) (D : Addr) : Bool :=
  PySem.W.findIn K (.ref D) "__getattribute__" == some (some (.builtin "BaseException.__getattribute__")) && (PySem.W.findIn K (.ref D) "__getattr__" == some none && (PySem.W.subIn K (.ref D) (.type "BaseException") == some true && (PySem.W.hasDictIn K D &&
  (PySem.W.findIn K (.ref D) "__class__" == some (some (.builtin "object.__class__")) && (PySem.W.specialIn K (.builtin "object.__class__") "__get__" == some (some (.builtin "getset_descriptor.__get__")) && (PySem.W.takesIn K (.builtin "object.__class__") == some true && PySem.W.mroIn K D (.type "object") == some true))))))
theorem excB_ok {K : PySem.W.Frag} {D : Addr} (h : excB K D = true) : ExcC K D := by
  unfold excB at h
  simp only [Bool.and_eq_true] at h
  obtain ⟨h1, h2, h3, h4, h5, h6, h7, h8⟩ := h
  exact ⟨eq_of_beq h1, eq_of_beq h2, eq_of_beq h3, h4, eq_of_beq h5, eq_of_beq h6, eq_of_beq h7, eq_of_beq h8⟩
end VD

namespace Lw
open PySem PySem.Spec PyProof.Rows L2 VD
theorem rdIx_tup {xs : List Dv} {i : Int} {S : Sto} {Q : QD} : rdIx (.tup xs) (.int i) S Q = ∃ d, atI xs i = some d ∧ Q d S := rfl
theorem rdIx_rol {xs : List Dv} {i : Int} {S : Sto} {Q : QD} : rdIx (.rol xs) (.int i) S Q = ∃ d, atI xs i = some d ∧ Q d S := rfl
theorem rdIx_ref {xs : List Dv} {a : Addr} {i : Int} {S : Sto} {Q : QD} (h : S a = some (.lst xs)) : rdIx (.ref a) (.int i) S Q = ∃ d, atI xs i = some d ∧ Q d S := by
  unfold rdIx
  dsimp only
  rw [h]
theorem isn_non : VD.isNon .non = true := rfl
theorem isn_bl {b : Bool} : VD.isNon (.bl b) = false := rfl
theorem isn_int {b : Int} : VD.isNon (.int b) = false := rfl
theorem isn_str {b : Str} : VD.isNon (.str b) = false := rfl
theorem isn_ref {b : Addr} : VD.isNon (.ref b) = false := rfl
theorem isn_tup {b : List Dv} : VD.isNon (.tup b) = false := rfl
theorem isn_rol {b : List Dv} : VD.isNon (.rol b) = false := rfl
theorem isn_obj {C : Addr} {ns : List Str} {b : List Dv} : VD.isNon (.obj C ns b) = false := rfl
section
variable {xs : List Dv} {a : Addr} {i : Int} {S : Sto} {Q : QD} {z : Str} {R : List Dv → Prop}
theorem rdIx_put : rdIx (.ref a) (.int i) (put S a (.lst xs)) Q = ∃ d, atI xs i = some d ∧ Q d (put S a (.lst xs)) := rdIx_ref put_same
theorem rdLen_tup : rdLen [.tup xs] S Q = Q (.int xs.length) S := rfl
theorem rdLen_rol : rdLen [.rol xs] S Q = Q (.int xs.length) S := rfl
theorem rdLen_str : rdLen [.str z] S Q = (z.length ≤ sizeLine ∧ Q (.int z.length) S) := rfl
theorem rdLen_ref (h : S a = some (.lst xs)) : rdLen [.ref a] S Q = Q (.int xs.length) S := by unfold rdLen; dsimp only; rw [h]
theorem rdLen_put : rdLen [.ref a] (put S a (.lst xs)) Q = Q (.int xs.length) (put S a (.lst xs)) := rdLen_ref put_same
theorem lstOf_rol : lstOf (.rol xs) S R = R xs := rfl
theorem lstOf_ref (h : S a = some (.lst xs)) : lstOf (.ref a) S R = R xs := by unfold lstOf; dsimp only; rw [h]
theorem lstOf_put : lstOf (.ref a) (put S a (.lst xs)) R = R xs := lstOf_ref put_same
theorem seqOf_tup : seqOf (.tup xs) S R = R xs := rfl
theorem seqOf_rol : seqOf (.rol xs) S R = R xs := rfl
theorem seqOf_ref (h : S a = some (.lst xs)) : seqOf (.ref a) S R = R xs := by unfold seqOf; dsimp only; rw [h]
theorem seqOf_put : seqOf (.ref a) (put S a (.lst xs)) R = R xs := seqOf_ref put_same
theorem insOf_ref {C dx : Addr} {fs : List (Str × Dv)} {R : Addr → List Str → List Dv → Prop} (h : S a = some (.ins C dx fs)) : insOf (.ref a) S R = R C (fs.map (·.1)) (fs.map (·.2)) := by unfold insOf; dsimp only; rw [h]
theorem insOf_put {C dx : Addr} {fs : List (Str × Dv)} {R : Addr → List Str → List Dv → Prop} : insOf (.ref a) (put S a (.ins C dx fs)) R = R C (fs.map (·.1)) (fs.map (·.2)) := insOf_ref put_same
theorem frz_tup : frzD (.tup xs) S Q = Q (.tup xs) S := rfl
theorem frz_rol : frzD (.rol xs) S Q = Q (.rol xs) S := rfl
theorem frz_int : frzD (.int i) S Q = Q (.int i) S := rfl
theorem frz_bl {b : Bool} : frzD (.bl b) S Q = Q (.bl b) S := rfl
theorem frz_non : frzD .non S Q = Q .non S := rfl
theorem frz_str : frzD (.str z) S Q = Q (.str z) S := rfl
theorem frz_obj {C : Addr} {ns : List Str} : frzD (.obj C ns xs) S Q = Q (.obj C ns xs) S := rfl
end
theorem slK {n : Nat} (h : n ≤ 1000000 := by decide) : n ≤ sizeLine := by rw [sizeLine_eq]; omega
/-! ### kinds of things -/
section
variable (A : Ad)
def known (S : Sto) (d : Dv) : Prop := ∃ t, tyD S d = some t ∧ ∀ C, t = .ref C → C ∈ A.ot.cs
end
section
variable {A : Ad}
theorem tyD_sub {S T : Sto} {d : Dv} {t : Value} (h : tyD S d = some t) (s : Sub S T) : tyD T d = some t := by
  cases d with
  | ref a =>
    dsimp only [tyD] at h ⊢
    cases e : S a with
    | none => rw [e] at h; cases h
    | some m => rw [s a m e]; rw [e] at h; exact h
  | _ => exact h
theorem known.sub {S T : Sto} {d : Dv} (h : known A S d) (s : Sub S T) : known A T d := by
  obtain ⟨t, h1, h2⟩ := h
  exact ⟨t, tyD_sub h1 s, h2⟩
end
/-! ### checks -/
def within (d : Dv) (a b : Int) : Bool := match d with
  | .int i => decide (a ≤ i) && decide (i ≤ b)
  | _ => false
/-! ### rows -/
theorem rangeL_mem {lo : Int} {n i : Nat} {x : Dv} (h : (rangeL lo n 1)[i]? = some x) : i < n ∧ x = .int (lo + i) := by
  obtain ⟨h1, h2⟩ := rangeL_get h
  rw [Int.mul_one] at h2
  exact ⟨h1, h2⟩
end Lw

namespace Lw
open PySem PySem.Spec PyProof.Rows L2 VD
/-! ### equality of data without truth values -/
def clean : Nat → Dv → Prop
  | 0, _ => False
  | n + 1, d => match d with
    | .non => True
    | .int _ => True
    | .str x => PyData.strOk x = true
    | .tup xs => ∀ x ∈ xs, clean n x
    | .rol xs => ∀ x ∈ xs, clean n x
    | _ => False
theorem clean_list {n : Nat} (ih : ∀ d, clean n d → isD d = true ∧ PyData.canLay0 (py d) = true ∧ PyData.depth (py d) ≤ n) : ∀ xs : List Dv, (∀ x ∈ xs, clean n x) → isDL xs = true ∧ PyData.canLayAll0 (pyL xs) = true ∧ PyData.depthAll (pyL xs) ≤ n
  | [], _ => ⟨rfl, rfl, Nat.zero_le _⟩
  | x :: xs, h => by
    obtain ⟨a1, a2, a3⟩ := ih x (h x (by simp))
    obtain ⟨b1, b2, b3⟩ := clean_list ih xs fun y hy => h y (by simp [hy])
    refine ⟨by simp [isDL, a1, b1], by simp [pyL, PyData.canLayAll0, a2, b2], ?_⟩
    simp only [pyL, PyData.depthAll]
    omega
theorem clean_d : ∀ (n : Nat) (d : Dv), clean n d → isD d = true ∧ PyData.canLay0 (py d) = true ∧ PyData.depth (py d) ≤ n
  | 0, _, h => h.elim
  | n + 1, d, h => by
    cases d with
    | non => exact ⟨rfl, rfl, by simp [py, PyData.depth]⟩
    | int => exact ⟨rfl, rfl, by simp [py, PyData.depth]⟩
    | str x => exact ⟨rfl, by unfold clean at h; simpa [py, PyData.canLay0] using h, by simp [py, PyData.depth]⟩
    | tup xs =>
      obtain ⟨b1, b2, b3⟩ := clean_list (clean_d n) xs h
      exact ⟨by simpa [isD] using b1, by simpa [py, PyData.canLay0] using b2, by simp only [py, PyData.depth]; omega⟩
    | rol xs =>
      obtain ⟨b1, b2, b3⟩ := clean_list (clean_d n) xs h
      exact ⟨by simpa [isD] using b1, by simpa [py, PyData.canLay0] using b2, by simp only [py, PyData.depth]; omega⟩
    | _ => exact h.elim
theorem shp_clean {n : Nat} {d : Dv} (h : clean n d) (hn : n ≤ 64 := by decide) : shp d = true := by
  obtain ⟨a1, a2, a3⟩ := clean_d n d h
  unfold shp SeqAt.shaped
  rw [a1, a2]
  simp
  omega
theorem eqv_list {n m : Nat} (ih : ∀ d e, clean n d → clean m e → (eqvD d e = true ↔ d = e)) : ∀ xs ys : List Dv, (∀ x ∈ xs, clean n x) → (∀ y ∈ ys, clean m y) → (eqvL xs ys = true ↔ xs = ys)
  | [], [], _, _ => by simp [eqvL, pyL, PyData.eqvAll]
  | [], _ :: _, _, _ => by simp [eqvL, pyL, PyData.eqvAll]
  | _ :: _, [], _, _ => by simp [eqvL, pyL, PyData.eqvAll]
  | x :: xs, y :: ys, h1, h2 => by
    have a := ih x y (h1 x (by simp)) (h2 y (by simp))
    have b := eqv_list ih xs ys (fun z hz => h1 z (by simp [hz])) fun z hz => h2 z (by simp [hz])
    unfold eqvL at b ⊢
    unfold eqvD at a
    simp only [pyL, PyData.eqvAll, Bool.and_eq_true, a, b, List.cons.injEq]
theorem eqv_clean : ∀ (n m : Nat) (d e : Dv), clean n d → clean m e → (eqvD d e = true ↔ d = e)
  | 0, _, _, _, h, _ => h.elim
  | _ + 1, 0, _, _, _, h => h.elim
  | n + 1, m + 1, d, e, h1, h2 => by
    have L := fun xs ys => eqv_list (eqv_clean n m) xs ys
    unfold eqvL at L
    cases d <;> first
      | exact h1.elim
      | (cases e <;> first
        | exact h2.elim
        | (rename_i xs ys; simp only [eqvD, py, PyData.eqv, Dv.tup.injEq]; exact L xs ys h1 h2)
        | (rename_i xs ys; simp only [eqvD, py, PyData.eqv, Dv.rol.injEq]; exact L xs ys h1 h2)
        | simp [eqvD, py, PyData.eqv])
theorem eqv_same {n : Nat} {d : Dv} (h : clean n d) : eqvD d d = true := (eqv_clean n n d d h h).mpr rfl
theorem len_law (A : Ad) : ∀ ds S Q X, spLaw ds S Q X → ds.length = 1 := by rintro _ _ _ _ ⟨_, rfl, _⟩; rfl
end Lw

namespace Lw
open PySem PySem.Spec PyProof.Rows L2 VD
local macro_rules
  | `(tactic| simp_arith only [$xs,*]) => `(tactic| simp only [dSeq, dAsg, dRet, dRetN, dDrop, dRaise, dBreak, dCont, dPar, dAug, dFor, dNext, dSetF, dAugF, dRaiseF, dIfS, dTest, dOp, dVar, dC, dCB, dCons, dNil, dCall, dAndV, dOrV, dNotV, dAndT, dOrT, dNotT, dIf, dTup, dLst, dLstV, dSl, dSlV, oSome, oNone, dNeg, gN, gT, gConsD, gNilD, gSubD, gFldD, dChain, dLc, dBM, isLst, iSeqD, iR1, iR2, iR3, dYes, isn_non, isn_bl, isn_int, isn_str, isn_ref, isn_tup, isn_rol, isn_obj, rdIx_tup, rdIx_rol, rdIx_put, rdSet, rdLen_tup, rdLen_rol, rdLen_str, rdLen_put, rdAppend, rdExt, rdPopAt, rdIsB, isBlV, rdStrI, rdIntS, dFrz, dFld, insOf_put, dMeth, lstOf_rol, lstOf_put, seqOf_tup, seqOf_rol, seqOf_put, frz_tup, frz_rol, frz_int, frz_bl, frz_non, frz_str, frz_obj, startN, wipeD, List.map_cons, List.map_nil, List.length_cons, List.length_nil, Nat.zero_add, Nat.sub_self, Nat.reduceAdd, Nat.reduceSub, List.replicate_succ, List.replicate_zero, List.cons_append, List.nil_append, List.append_nil, List.getElem?_cons_zero, List.getElem?_cons_succ, List.set_cons_zero, List.set_cons_succ, Option.some.injEq, exists_eq_left', atI_0, atI_1, atI_2, atI_3, atI_4, atI_5, atI_6, atI_7, ixN_50, ixN_51, ixN_52, ixN_53, ixN_54, ixN_30, ixN_31, ixN_32, put_same, put_put, true_and, and_true, decide_true, decide_false, Bool.not_true, Bool.not_false, Bool.false_eq_true, if_true, if_false, decide_eq_true_eq, Bool.not_eq_true', decide_eq_false_iff_not, mem_one, ex_one, and_self, xd_mk, qAdd_i, qAdd_t, qAdd_s, qAdd_l, qMul_i, qMul_t, qMul_l, qSub_i, qDiv_i, qMod_i, qPow_i, qIAdd_i, qEq_i, qEq_b, qEq_s, qCmp_i, qIsN, qSl_t, qSl_l, qSl_s, qInt_i, qInt_b, qInt1, qMax, qMin, qList_t, qList_l, $xs,*])
local macro_rules
  | `(tactic| simp_arith! only [$xs,*]) => `(tactic| simp only [dSeq, dAsg, dRet, dRetN, dDrop, dRaise, dBreak, dCont, dPar, dAug, dFor, dNext, dSetF, dAugF, dRaiseF, dIfS, dTest, dOp, dVar, dC, dCB, dCons, dNil, dCall, dAndV, dOrV, dNotV, dAndT, dOrT, dNotT, dIf, dTup, dLst, dLstV, dSl, dSlV, rdSlV, oSome, oNone, dNeg, gN, gT, gConsD, gNilD, gSubD, gFldD, dChain, dLc, dBM, isLst, iSeqD, iR1, iR2, iR3, dYes, rdAddV, rdMulV, rdSub, rdDiv, rdMod, rdPow, rdIAdd, rdCmp, rdIsN, isn_non, isn_bl, isn_int, isn_str, isn_ref, isn_tup, isn_rol, isn_obj, rdEqG, rdIx_tup, rdIx_rol, rdIx_put, rdSet, rdLen_tup, rdLen_rol, rdLen_str, rdLen_put, rdInt1, rdInt, rdInt2, rdAppend, rdExt, rdPopAt, rdMaxL, rdMinL, rdListV, rdIsB, isBlV, rdStrI, rdIntS, dFrz, dFld, insOf_put, dMeth, lstOf_rol, lstOf_put, seqOf_tup, seqOf_rol, seqOf_put, frz_tup, frz_rol, frz_int, frz_bl, frz_non, frz_str, frz_obj, startN, wipeD, List.map_cons, List.map_nil, List.length_cons, List.length_nil, Nat.zero_add, Nat.sub_self, Nat.reduceAdd, Nat.reduceSub, List.replicate_succ, List.replicate_zero, List.cons_append, List.nil_append, List.append_nil, List.getElem?_cons_zero, List.getElem?_cons_succ, List.set_cons_zero, List.set_cons_succ, Option.some.injEq, exists_eq_left', DEnds.xd, atI_0, atI_1, atI_2, atI_3, atI_4, atI_5, atI_6, atI_7, ixN_50, ixN_51, ixN_52, ixN_53, ixN_54, ixN_30, ixN_31, ixN_32, put_same, put_put, true_and, and_true, decide_true, decide_false, Bool.not_true, Bool.not_false, Bool.false_eq_true, if_true, if_false, decide_eq_true_eq, Bool.not_eq_true', decide_eq_false_iff_not, mem_one, ex_one, and_self, $xs,*])
/-! ### the law's hand (k00 to k16, k67 to k75): [cells, at, great, seed, count] at a; what else is known is B -/
def hndD (cells : List Int) (i : Nat) (g s n : Int) : List Dv := [.rol (List.map Dv.int cells), .int (i : Nat), .int g, .int s, .int n]
def IsH (a : Addr) (B S : Sto) : Prop := ∃ (cells : List Int) (i : Nat) (g s n : Int), S = put B a (.lst (hndD cells i g s n))
section
variable {B S T : Sto} {a p : Addr} {m : MO}
theorem IsH.at_ (h : IsH a B S) (ha : p ≠ a) : S p = B p := by
  obtain ⟨cells, i, g, s, n, rfl⟩ := h
  rw [put_ne ha]
theorem IsH.free (h : IsH a B S) (hp : S p = none) : p ≠ a ∧ B p = none := by
  have ha : p ≠ a := fun e => by
    obtain ⟨cells, i, g, s, n, rfl⟩ := h
    subst e
    rw [put_same] at hp
    cases hp
  exact ⟨ha, by rw [← h.at_ ha]; exact hp⟩
theorem IsH.wr (h : IsH a B S) (ha : p ≠ a) : IsH a (put B p m) (put S p m) := by
  obtain ⟨cells, i, g, s, n, rfl⟩ := h
  exact ⟨cells, i, g, s, n, by rw [put_comm ha.symm]⟩
theorem IsH.new (h : IsH a B S) (hp : S p = none) : IsH a (put B p m) (put S p m) := h.wr (h.free hp).1
theorem IsH.rm (h : IsH a B S) (ha : p ≠ a) : IsH a (VD.rm B p) (VD.rm S p) := by
  obtain ⟨cells, i, g, s, n, rfl⟩ := h
  refine ⟨cells, i, g, s, n, ?_⟩
  funext b
  unfold VD.rm put
  by_cases h1 : b = p
  · subst h1
    simp [ha]
  · simp [h1]
theorem IsH.off (h : IsH a B S) (ea : T a = S a) : IsH a T T := by
  obtain ⟨cells, i, g, s, n, rfl⟩ := h
  rw [put_same] at ea
  exact ⟨cells, i, g, s, n, (put_self ea).symm⟩
theorem IsH.self (h : IsH a B S) : IsH a S S := h.off rfl
theorem IsH.trans (h : IsH a B S) (k : IsH a S T) : IsH a B T := by
  obtain ⟨cells, i, g, s, n, rfl⟩ := h
  obtain ⟨cells2, i2, g2, s2, n2, rfl⟩ := k
  exact ⟨cells2, i2, g2, s2, n2, by rw [put_put]⟩
end
def sp__law_take (A : Ad) : SpD := fun ds S Q _ => ∃ a B m, ds = [.ref a, .int m] ∧ IsH a B S ∧ 0 < m ∧ m.natAbs < 2 ^ 8000 ∧ ∀ r S', IsH a B S' → 0 ≤ r → r < m → Q (.int r) S'
theorem len__law_take (A : Ad) : ∀ ds S Q X, sp__law_take A ds S Q X → ds.length = 2 := by rintro _ _ _ _ ⟨_, _, _, rfl, _⟩; rfl
/-- how a draw is asked for -/
theorem ask {A : Ad} {a : Addr} {B S : Sto} {m : Int} {Q : QD} {X : XD} (hH : IsH a B S) (q : ∀ r S', IsH a B S' → 0 ≤ r → r < m → Q (.int r) S') (hm : 0 < m := by decide) (hm2 : m < 2 ^ 64 := by decide) : sp__law_take A [.ref a, .int m] S Q X :=
  ⟨a, B, m, rfl, hH, hm, Nat.lt_of_lt_of_le (show m.natAbs < 2 ^ 64 by omega) (Nat.pow_le_pow_right (by decide) (by decide)), q⟩
theorem mul_small {i j : Int} (h : 0 ≤ i) (h2 : i < 2147483647) : IntMulOk i j := mulok_l (by omega) (by omega)
def sp__law_hand (A : Ad) : SpD := fun ds S Q _ => ∃ ns : List Int, ds = [.rol (List.map Dv.int ns)] ∧ ns.length ≤ 63 ∧ ∀ a S', S a = none → IsH a S S' → Q (.ref a) S'
theorem len__law_hand (A : Ad) : ∀ ds S Q X, sp__law_hand A ds S Q X → ds.length = 1 := by rintro _ _ _ _ ⟨_, rfl, _⟩; rfl
def r__law_hand (A : Ad) : DS := (dRet (dLst (dCons (dCB rdListV (dCons (dVar 0) dNil)) (dCons (dC (.int 0)) (dCons (dC (.int 0)) (dCons (dC (.int 1)) (dCons (dC (.int 0)) dNil)))))))
theorem rd__law_hand (A : Ad) : Rd (r__law_hand A) 1 (sp__law_hand A) := by
  rintro ds S Q X ⟨ns, rfl, hl, h⟩
  unfold r__law_hand
  simp_arith only [and_self]
  exact ⟨slK, fun a ha => h a _ ha ⟨_, 0, 0, _, 0, rfl⟩⟩
def r__law_take (A : Ad) : DS := (dSeq (dAsg (dOp rdAddV (dOp rdIx (dVar 0) (dC (.int 4))) (dC (.int 1))) (gSubD rdSet (dVar 0) (dC (.int 4))))
    (dSeq (dIfS (dAndT (dTest (dOp rdEq (dOp rdIx (dVar 0) (dC (.int 2))) (dC (.int 0)))) (dTest (dOp rdLt (dOp rdIx (dVar 0) (dC (.int 1))) (dCB rdLen (dCons (dOp rdIx (dVar 0) (dC (.int 0))) dNil))))) (dSeq (dAsg (dCB rdInt (dCons (dOp rdIx (dOp rdIx (dVar 0) (dC (.int 0))) (dOp rdIx (dVar 0) (dC (.int 1)))) dNil)) (gN 2))
    (dSeq (dAsg (dOp rdAddV (dOp rdIx (dVar 0) (dC (.int 1))) (dC (.int 1))) (gSubD rdSet (dVar 0) (dC (.int 1))))
    (dIfS (dTest (dOp rdGe (dVar 2) (dOp rdPow (dC (.int 10)) (dC (.int 18))))) (dAsg (dVar 2) (gSubD rdSet (dVar 0) (dC (.int 2)))) (dAsg (dOp rdMod (dCB rdInt (dCons (dOp rdAddV (dOp rdAddV (dOp rdMulV (dOp rdIx (dVar 0) (dC (.int 3))) (dC (.int 48271))) (dOp rdMod (dCB rdInt (dCons (dVar 2) dNil)) (dC (.int 2147483647)))) (dC (.int 1))) dNil)) (dC (.int 2147483647))) (gSubD rdSet (dVar 0) (dC (.int 3))))))) dNext)
    (dSeq (dIfS (dTest (dOp rdGt (dOp rdIx (dVar 0) (dC (.int 2))) (dC (.int 0)))) (dSeq (dAsg (dOp rdMod (dCB rdInt (dCons (dOp rdIx (dVar 0) (dC (.int 2))) dNil)) (dVar 1)) (gN 3))
    (dSeq (dAsg (dOp rdDiv (dCB rdInt (dCons (dOp rdIx (dVar 0) (dC (.int 2))) dNil)) (dVar 1)) (gSubD rdSet (dVar 0) (dC (.int 2))))
    (dRet (dVar 3)))) dNext)
    (dSeq (dAsg (dOp rdMod (dCB rdInt (dCons (dOp rdAddV (dOp rdMulV (dOp rdIx (dVar 0) (dC (.int 3))) (dC (.int 69621))) (dOp rdMulV (dC (.int 7919)) (dOp rdIx (dVar 0) (dC (.int 4))))) dNil)) (dC (.int 2147483647))) (gSubD rdSet (dVar 0) (dC (.int 3))))
    (dSeq (dAsg (dOp rdMod (dCB rdInt (dCons (dOp rdMulV (dOp rdIx (dVar 0) (dC (.int 3))) (dOp rdAddV (dOp rdDiv (dOp rdIx (dVar 0) (dC (.int 3))) (dC (.int 1009))) (dC (.int 69621)))) dNil)) (dC (.int 2147483647))) (gN 4))
    (dSeq (dAsg (dOp rdMod (dCB rdInt (dCons (dOp rdMulV (dVar 4) (dOp rdAddV (dOp rdDiv (dVar 4) (dC (.int 2003))) (dC (.int 40692)))) dNil)) (dC (.int 2147483399))) (gN 4))
    (dRet (dOp rdMod (dCB rdInt (dCons (dOp rdDiv (dVar 4) (dC (.int 16))) dNil)) (dVar 1)))))))))
theorem rd__law_take (A : Ad) : Rd (r__law_take A) 5 (sp__law_take A) := by
  rintro ds S Q X ⟨a, B, m, rfl, hH, hm, hm2, h⟩
  unfold r__law_take
  refine cut_seq (fun ρ T => IsH a B T ∧ ρ = [some (.ref a), some (.int m), none, none, none]) (fun N hN => ?_) (fun ρ T hM => ?_)
  · obtain ⟨cells, i, g, s, n, rfl⟩ := hH
    unfold hndD
    simp_arith! only [and_self]
    exact hN _ _ ⟨⟨cells, i, g, s, n + 1, rfl⟩, rfl⟩
  clear hH
  obtain ⟨hH, rfl⟩ := hM
  refine cut_seq (fun ρ T => IsH a B T ∧ ∃ y, ρ = [some (.ref a), some (.int m), y, none, none]) (fun N hN => ?_) (fun ρ T hM => ?_)
  · have hH0 := hH
    obtain ⟨cells, i, g, s, n, rfl⟩ := hH
    unfold hndD
    simp_arith! only [and_self]
    by_cases hg : g = 0
    · rw [if_pos hg]
      by_cases hi : (i : Int) < ((List.map Dv.int cells).length : Nat)
      · rw [if_pos hi]
        have hi2 : i < cells.length := by rw [List.length_map] at hi; omega
        refine ⟨.int cells[i], by rw [atI_nn (by omega), Int.toNat_natCast, List.getElem?_map, List.getElem?_eq_getElem hi2]; rfl, ?_⟩
        simp_arith! only [and_self]
        refine ⟨⟨by decide, by decide, by decide⟩, ?_⟩
        by_cases hc : (10 : Int) ^ Int.toNat 18 ≤ cells[i]
        · rw [if_pos (by simpa using hc)]
          exact hN _ _ ⟨⟨cells, i + 1, _, _, n, rfl⟩, _, rfl⟩
        · rw [if_neg (by simpa using hc)]
          exact ⟨mulok_r (by decide) (by decide), by decide, by decide, hN _ _ ⟨⟨cells, i + 1, _, _, n, rfl⟩, _, rfl⟩⟩
      · rw [if_neg hi]
        exact hN _ _ ⟨hH0, _, rfl⟩
    · rw [if_neg hg]
      exact hN _ _ ⟨hH0, _, rfl⟩
  clear hH
  obtain ⟨hH, y, rfl⟩ := hM
  refine cut_seq (fun ρ T => IsH a B T ∧ ∃ y, ρ = [some (.ref a), some (.int m), y, none, none]) (fun N hN => ?_) (fun ρ T hM => ?_)
  · have hH0 := hH
    obtain ⟨cells, i, g, s, n, rfl⟩ := hH
    unfold hndD
    simp_arith! only [and_self]
    by_cases hg : 0 < g
    · rw [if_pos (by simpa using hg)]
      refine ⟨hm, divp 8000 hm hm2, h _ _ ⟨cells, i, g / m, s, n, rfl⟩ (Int.emod_nonneg _ (by omega)) (Int.emod_lt_of_pos _ hm)⟩
    · rw [if_neg (by simpa using hg)]
      exact hN _ _ ⟨hH0, _, rfl⟩
  clear hH
  obtain ⟨hH, y, rfl⟩ := hM
  obtain ⟨cells, i, g, s, n, rfl⟩ := id hH
  unfold hndD
  simp_arith! only [and_self]
  have b1 : ∀ x : Int, 0 ≤ x % 2147483647 ∧ x % 2147483647 < 2147483647 := fun x => by omega
  exact ⟨mulok_r (by decide) (by decide), mulok_l (by decide) (by decide), by decide, divp 64 (by decide) (by decide), mul_small (b1 _).1 (b1 _).2, by decide, divp 64 (by decide) (by decide), mul_small (b1 _).1 (b1 _).2, by decide, divp 64 (by decide) (by decide), hm, h _ _ ⟨cells, i, g, _, n, rfl⟩ (Int.emod_nonneg _ (by omega)) (Int.emod_lt_of_pos _ hm)⟩
end Lw

--CLS Ground
namespace Lw
open PySem PySem.Spec PyProof.Rows L2 VD
local macro_rules
  | `(tactic| simp_arith only [$xs,*]) => `(tactic| simp only [dSeq, dAsg, dRet, dRetN, dDrop, dRaise, dBreak, dCont, dPar, dAug, dFor, dNext, dSetF, dAugF, dRaiseF, dIfS, dTest, dOp, dVar, dC, dCB, dCons, dNil, dCall, dAndV, dOrV, dNotV, dAndT, dOrT, dNotT, dIf, dTup, dLst, dLstV, dSl, dSlV, oSome, oNone, dNeg, gN, gT, gConsD, gNilD, gSubD, gFldD, dChain, dLc, dBM, isLst, iSeqD, iR1, iR2, iR3, dYes, isn_non, isn_bl, isn_int, isn_str, isn_ref, isn_tup, isn_rol, isn_obj, rdIx_tup, rdIx_rol, rdIx_put, rdSet, rdLen_tup, rdLen_rol, rdLen_str, rdLen_put, rdAppend, rdExt, rdPopAt, rdIsB, isBlV, rdStrI, rdIntS, dFrz, dFld, insOf_put, dMeth, lstOf_rol, lstOf_put, seqOf_tup, seqOf_rol, seqOf_put, frz_tup, frz_rol, frz_int, frz_bl, frz_non, frz_str, frz_obj, startN, wipeD, List.map_cons, List.map_nil, List.length_cons, List.length_nil, Nat.zero_add, Nat.sub_self, Nat.reduceAdd, Nat.reduceSub, List.replicate_succ, List.replicate_zero, List.cons_append, List.nil_append, List.append_nil, List.getElem?_cons_zero, List.getElem?_cons_succ, List.set_cons_zero, List.set_cons_succ, Option.some.injEq, exists_eq_left', atI_0, atI_1, atI_2, atI_3, atI_4, atI_5, atI_6, atI_7, ixN_50, ixN_51, ixN_52, ixN_53, ixN_54, ixN_30, ixN_31, ixN_32, put_same, put_put, true_and, and_true, decide_true, decide_false, Bool.not_true, Bool.not_false, Bool.false_eq_true, if_true, if_false, decide_eq_true_eq, Bool.not_eq_true', decide_eq_false_iff_not, mem_one, ex_one, and_self, xd_mk, qAdd_i, qAdd_t, qAdd_s, qAdd_l, qMul_i, qMul_t, qMul_l, qSub_i, qDiv_i, qMod_i, qPow_i, qIAdd_i, qEq_i, qEq_b, qEq_s, qCmp_i, qIsN, qSl_t, qSl_l, qSl_s, qInt_i, qInt_b, qInt1, qMax, qMin, qList_t, qList_l, i_Ground, l_Ground, h_Ground_eq, g_Ground_rows, p_Ground_rows, k_Ground_rows, g_Ground_wide, p_Ground_wide, k_Ground_wide, g_Ground_high, p_Ground_high, k_Ground_high, $xs,*])
/-! ### the classes of errors -/
def exL (A : Ad) : List Addr := [A.NoNumber, A.NoSeed, A.BadGround, A.BadProgram, A.BadKind, A.BadGame, A.NoWorld, A.NoBody, A.NoWay, A.NoInputs, A.NoHandler, A.NoCode, A.NoRows, A.NoRow, A.NoPlace, A.BadRow, A.BadChange, A.NoSeat, A.NotWaiting, A.NoTick, A.NotOpen, A.Gap, A.BadDeed, A.NoBook, A.NoPeer, A.NoRules, A.NoPast, A.NoLetter, A.NoDeed, A.BadDeeds, A.NoCut, A.NoBlocks, A.NoDisk, A.OtherMatch, A.BadTurns, A.OtherGame, A.Strayed, A.NoNode, A.NoReplay, A.NoExpression, A.BadText, A.NoProgram, A.NoPicture, A.Unlike, A.NoChanges, A.NoLine, A.NoName]
def IsPL (cs : List Addr) (W : Addr) (D : Addr) (cv : Value) (b : Bool) : Prop := ∃ i : Nat, (cs ++ [W])[i]? = some D ∧ ((∃ (j : Nat) (C : Addr), cs[j]? = some C ∧ cv = .ref C ∧ b = decide (i = j)) ∨ (cv = .ref W ∧ b = true) ∨ (cv = .type "ValueError" ∧ b = true) ∨
  ((cv = .type "KeyError" ∨ cv = .type "IndexError" ∨ cv = .type "ArithmeticError") ∧ b = false))
def IsP (A : Ad) : Addr → Value → Bool → Prop := IsPL (exL A) A.WorldError
def xisB (K : PySem.W.Frag) (cs : List Addr) (W : Addr) : Bool := (cs ++ [W]).zipIdx.all fun p => excB K p.1 && ((cs.zipIdx.all fun q => PySem.W.kitOne K (.ref p.1) (.ref q.1) == some (decide (p.2 = q.2))) && (PySem.W.kitOne K (.ref p.1) (.ref W) == some true && (PySem.W.kitOne K (.ref p.1) (.type "ValueError") == some true &&
  (PySem.W.kitOne K (.ref p.1) (.type "KeyError") == some false && (PySem.W.kitOne K (.ref p.1) (.type "IndexError") == some false && PySem.W.kitOne K (.ref p.1) (.type "ArithmeticError") == some false)))))
theorem xis_of {K : PySem.W.Frag} {cs : List Addr} {W : Addr} (h : xisB K cs W = true) : ∀ D cv b, IsPL cs W D cv b → ExcC K D ∧ PySem.W.kitOne K (.ref D) cv = some b := by
  rintro D cv b ⟨i, hi, hc⟩
  have h1 := List.all_eq_true.mp h (D, i) (List.mk_mem_zipIdx_iff_getElem?.mpr hi)
  dsimp only at h1
  simp only [Bool.and_eq_true] at h1
  obtain ⟨h1, h2, h3, h4, h5, h6, h7⟩ := h1
  refine ⟨excB_ok h1, ?_⟩
  rcases hc with ⟨j, C, hj, rfl, rfl⟩ | ⟨rfl, rfl⟩ | ⟨rfl, rfl⟩ | ⟨rfl | rfl | rfl, rfl⟩
  · exact eq_of_beq (List.all_eq_true.mp h2 (C, j) (List.mk_mem_zipIdx_iff_getElem?.mpr hj))
  · exact eq_of_beq h3
  · exact eq_of_beq h4
  · exact eq_of_beq h5
  · exact eq_of_beq h6
  · exact eq_of_beq h7
/-! ### odd things -/
theorem frz_d0 {S : Sto} {p : Addr} {Q : QD} (hp : S p = none) (q : Q (.rod [] []) S) : frzD (.ref p) (put S p (.dK [])) Q := by
  unfold frzD
  dsimp only
  rw [put_same]
  dsimp only [List.map]
  rw [rm_put hp]
  exact q
theorem frz_d1 {S : Sto} {p : Addr} {Q : QD} {k : Key} {v : Dv} (hp : S p = none) (q : Q (.rod [k] [v]) S) : frzD (.ref p) (put S p (.dK [(k, v)])) Q := by
  unfold frzD
  dsimp only
  rw [put_same]
  dsimp only [List.map]
  rw [rm_put hp]
  exact q
/-- the odd things, by value -/
def odds : List Dv := [.non, .bl true, .bl false, .str (Str.ofString ""), .str (Str.ofString "a"), .str (Str.ofString "0"),
  .tup [], .rol [], .rod [] [], .tup [.int 1], .rol [.int 0], .tup [.tup []], .int (-1), .int 2147483648, .int (-2147483649), .int (10 ^ 20 - 1), .int (1 - 10 ^ 20), .int 300,
  .rol [.str (Str.ofString "..."), .tup [.non, .int 0]], .rod [.inr (Str.ofString "tick")] [.tup []]]
def sp__law_odd (A : Ad) : SpD := fun ds S Q _ => ∃ a B, ds = [.ref a] ∧ IsH a B S ∧ ∀ d T, IsH a B T → d ∈ odds → Q d T
theorem len__law_odd (A : Ad) : ∀ ds S Q X, sp__law_odd A ds S Q X → ds.length = 1 := by rintro _ _ _ _ ⟨_, _, rfl, _⟩; rfl
def r__law_odd (A : Ad) : DS := (dSeq (dAsg (dCall (sp__law_take A) (dCons (dVar 0) (dCons (dC (.int 20)) dNil))) (gN 1))
    (dSeq (dIfS (dTest (dOp rdLt (dVar 1) (dC (.int 6)))) (dRet (dOp rdIx (dLstV (dCons (dC .non) (dCons (dC (.bl true)) (dCons (dC (.bl false)) (dCons (dC (.str (Str.ofString ""))) (dCons (dC (.str (Str.ofString "a"))) (dCons (dC (.str (Str.ofString "0"))) dNil))))))) (dVar 1))) dNext)
    (dSeq (dIfS (dTest (dOp rdLt (dVar 1) (dC (.int 12)))) (dRet (dOp rdIx (dLstV (dCons (dTup dNil) (dCons (dLstV dNil) (dCons (dFrz dDict0) (dCons (dTup (dCons (dC (.int 1)) dNil)) (dCons (dLstV (dCons (dC (.int 0)) dNil)) (dCons (dTup (dCons (dTup dNil) dNil)) dNil))))))) (dOp rdSub (dVar 1) (dC (.int 6))))) dNext)
    (dSeq (dIfS (dTest (dOp rdLt (dVar 1) (dC (.int 18)))) (dRet (dOp rdIx (dLstV (dCons (dNeg (dC (.int 1))) (dCons (dC (.int 2147483648)) (dCons (dNeg (dC (.int 2147483649))) (dCons (dOp rdSub (dOp rdPow (dC (.int 10)) (dC (.int 20))) (dC (.int 1))) (dCons (dOp rdSub (dC (.int 1)) (dOp rdPow (dC (.int 10)) (dC (.int 20)))) (dCons (dC (.int 300)) dNil))))))) (dOp rdSub (dVar 1) (dC (.int 12))))) dNext)
    (dSeq (dIfS (dTest (dOp rdEq (dVar 1) (dC (.int 18)))) (dRet (dLstV (dCons (dOp rdMulS (dC (.str (Str.ofString "."))) (dC (.int 3))) (dCons (dTup (dCons (dC .non) (dCons (dC (.int 0)) dNil))) dNil)))) dNext)
    (dRet (dFrz (dDict1 (dC (.str (Str.ofString "tick"))) (dTup dNil)))))))))
theorem rd__law_odd (A : Ad) : Rd (r__law_odd A) 2 (sp__law_odd A) := by
  rintro ds S Q X ⟨a, B, rfl, hH, h⟩
  unfold r__law_odd
  refine cut_seq (fun ρ T => ∃ r : Int, 0 ≤ r ∧ r < 20 ∧ IsH a B T ∧ ρ = [some (.ref a), some (.int r)]) (fun N hN => ?_) (fun ρ T hM => ?_)
  · simp_arith only [and_self]
    (refine ask hH (fun r T1 h1 a1 b1 => ?_) (by first | decide | omega) (by first | decide | omega); try simp_arith only [and_self])
    exact hN _ _ ⟨r, a1, b1, h1, rfl⟩
  obtain ⟨r, r0, r1, hT, rfl⟩ := hM
  have sel : ∀ (xs : List Dv) (k : Int) (U : Sto), (∀ x ∈ xs, x ∈ odds) → 0 ≤ k → k < xs.length → IsH a B U → ∃ d, atI xs k = some d ∧ Q d U := fun xs k U hx k0 k1 hU => by
    obtain ⟨d, hd⟩ : ∃ d, xs[k.toNat]? = some d := ⟨_, List.getElem?_eq_getElem (by omega)⟩
    exact ⟨d, by rw [atI_nn k0]; exact hd, h d U hU (hx d (List.mem_of_getElem? hd))⟩
  refine cut_seq (fun ρ U => U = T ∧ ¬ r < 6 ∧ ρ = [some (.ref a), some (.int r)]) (fun N hN => ?_) (fun ρ U hM => ?_)
  · simp_arith only [and_self]
    by_cases c : r < 6
    · rw [if_pos c]
      exact ⟨slK, sel _ r T (by simp [odds]) r0 c hT⟩
    · rw [if_neg c]
      exact hN _ _ ⟨rfl, c, rfl⟩
  obtain ⟨rfl, c6, rfl⟩ := hM
  refine cut_seq (fun ρ T => T = U ∧ ¬ r < 12 ∧ ρ = [some (.ref a), some (.int r)]) (fun N hN => ?_) (fun ρ T hM => ?_)
  · simp_arith only [and_self]
    by_cases c : r < 12
    · rw [if_pos c]
      refine ⟨slK, slK, ?_⟩
      unfold dDict0
      intro p hp
      refine frz_d0 hp ?_
      refine ⟨slK, slK, slK, slK, slK, ?_⟩
      exact sel _ (r - 6) _ (by simp [odds]) (by omega) (by simp; omega) hT
    · rw [if_neg c]
      exact hN _ _ ⟨rfl, c, rfl⟩
  obtain ⟨rfl, c12, rfl⟩ := hM
  refine cut_seq (fun ρ U => U = T ∧ ¬ r < 18 ∧ ρ = [some (.ref a), some (.int r)]) (fun N hN => ?_) (fun ρ U hM => ?_)
  · simp_arith only [and_self]
    by_cases c : r < 18
    · rw [if_pos c]
      exact ⟨⟨by decide, by decide, by decide⟩, ⟨by decide, by decide, by decide⟩, slK, sel _ (r - 12) _ (by simp [odds]) (by omega) (by simp; omega) hT⟩
    · rw [if_neg c]
      exact hN _ _ ⟨rfl, c, rfl⟩
  obtain ⟨rfl, c18, rfl⟩ := hM
  simp_arith only [and_self]
  by_cases c : r = 18
  · rw [if_pos c]
    exact ⟨⟨by decide, by decide, by decide +kernel, by decide +kernel⟩, slK, slK, h _ _ hT (by simp [odds]; decide)⟩
  · rw [if_neg c]
    unfold dDict1
    intro p hp
    simp_arith only [and_self]
    exact ⟨slK, frz_d1 hp (h _ _ hT (by simp [odds]))⟩
/-! ### things -/
theorem tup_len (a b : PyData) : (PyData.shown (.tuple [a, b])).length = a.shown.length + b.shown.length + 4 := by
  show ((("(" : Str) ++ Str.join ", " [a.shown, b.shown] ++ ((")" : String) : Str))).length = _
  show ((("(" : Str) ++ (a.shown ++ ", " ++ b.shown) ++ ((")" : String) : Str))).length = _
  rw [strLen_append, strLen_append, strLen_append, strLen_append]
  have e1 : ("(" : Str).length = 1 := rfl
  have e2 : ((", " : String) : Str).length = 2 := rfl
  have e3 : ((")" : String) : Str).length = 1 := rfl
  omega
theorem lst_len (a b : PyData) : (PyData.shown (.list [a, b])).length = a.shown.length + b.shown.length + 4 := by
  show ((((("[" : Str) ++ (("" : String) : Str) ++ a.shown) ++ ((", " : String) : Str) ++ b.shown) ++ ("]" : Str))).length = _
  rw [strLen_append, strLen_append, strLen_append, strLen_append, strLen_append]
  have e0 : (("" : String) : Str).length = 0 := rfl
  have e1 : ("[" : Str).length = 1 := rfl
  have e2 : ((", " : String) : Str).length = 2 := rfl
  have e3 : ("]" : Str).length = 1 := rfl
  omega
inductive Th : Nat → Dv → Prop
  | odd {d : Dv} : d ∈ odds → Th 0 d
  | tup {n k : Nat} {d : Dv} : Th n d → k < 38 → Th (n + 1) (.tup [d, .int (k : Nat)])
  | rol {n k : Nat} {d : Dv} : Th n d → k < 38 → Th (n + 1) (.rol [.int (k : Nat), d])
theorem odds_R : odds.all (fun d => isR d && (pyR d).showable && decide ((pyR d).depth ≤ 3) && decide ((pyR d).shown.length ≤ 100)) = true := by decide +kernel
theorem k_short : ∀ k : Nat, k < 38 → (PyData.shown (.int (k : Nat))).length ≤ 2 ∧ PyData.showable (.int (k : Nat)) = true := by decide +kernel
theorem th_ok : ∀ {n : Nat} {d : Dv}, Th n d → isR d = true ∧ (pyR d).showable = true ∧ (pyR d).depth ≤ n + 3 ∧ (pyR d).shown.length ≤ 100 + 10 * n
  | _, _, .odd h => by
    have := List.all_eq_true.mp odds_R _ h
    simp only [Bool.and_eq_true, decide_eq_true_eq] at this
    exact ⟨this.1.1.1, this.1.1.2, this.1.2, this.2⟩
  | _, _, .tup h hk => by
    obtain ⟨h1, h2, h3, h4⟩ := th_ok h
    obtain ⟨k1, k2⟩ := k_short _ hk
    refine ⟨by simp [isR, isRL, h1], by simp [pyR, pyRL, PyData.showable, PyData.showableAll, h2] ; exact (by simpa [PyData.showable] using k2), by simp only [pyR, pyRL, PyData.depth, PyData.depthAll]; omega, ?_⟩
    show (PyData.shown (.tuple [pyR _, .int _])).length ≤ _
    rw [tup_len]
    omega
  | _, _, .rol h hk => by
    obtain ⟨h1, h2, h3, h4⟩ := th_ok h
    obtain ⟨k1, k2⟩ := k_short _ hk
    refine ⟨by simp [isR, isRL, h1], by simp [pyR, pyRL, PyData.showable, PyData.showableAll, h2] ; exact (by simpa [PyData.showable] using k2), by simp only [pyR, pyRL, PyData.depth, PyData.depthAll]; omega, ?_⟩
    show (PyData.shown (.list [.int _, pyR _])).length ≤ _
    rw [lst_len]
    omega
end Lw

--CLS Ground
namespace Lw
open PySem PySem.Spec PyProof.Rows L2 VD
local macro_rules
  | `(tactic| simp_arith only [$xs,*]) => `(tactic| simp only [dSeq, dAsg, dRet, dRetN, dDrop, dRaise, dBreak, dCont, dPar, dAug, dFor, dNext, dSetF, dAugF, dRaiseF, dIfS, dTest, dOp, dVar, dC, dCB, dCons, dNil, dCall, dAndV, dOrV, dNotV, dAndT, dOrT, dNotT, dIf, dTup, dLst, dLstV, dSl, dSlV, oSome, oNone, dNeg, gN, gT, gConsD, gNilD, gSubD, gFldD, dChain, dLc, dBM, isLst, iSeqD, iR1, iR2, iR3, dYes, isn_non, isn_bl, isn_int, isn_str, isn_ref, isn_tup, isn_rol, isn_obj, rdIx_tup, rdIx_rol, rdIx_put, rdSet, rdLen_tup, rdLen_rol, rdLen_str, rdLen_put, rdAppend, rdExt, rdPopAt, rdIsB, isBlV, rdStrI, rdIntS, dFrz, dFld, insOf_put, dMeth, lstOf_rol, lstOf_put, seqOf_tup, seqOf_rol, seqOf_put, frz_tup, frz_rol, frz_int, frz_bl, frz_non, frz_str, frz_obj, startN, wipeD, List.map_cons, List.map_nil, List.length_cons, List.length_nil, Nat.zero_add, Nat.sub_self, Nat.reduceAdd, Nat.reduceSub, List.replicate_succ, List.replicate_zero, List.cons_append, List.nil_append, List.append_nil, List.getElem?_cons_zero, List.getElem?_cons_succ, List.set_cons_zero, List.set_cons_succ, Option.some.injEq, exists_eq_left', atI_0, atI_1, atI_2, atI_3, atI_4, atI_5, atI_6, atI_7, ixN_50, ixN_51, ixN_52, ixN_53, ixN_54, ixN_30, ixN_31, ixN_32, put_same, put_put, true_and, and_true, decide_true, decide_false, Bool.not_true, Bool.not_false, Bool.false_eq_true, if_true, if_false, decide_eq_true_eq, Bool.not_eq_true', decide_eq_false_iff_not, mem_one, ex_one, and_self, xd_mk, qAdd_i, qAdd_t, qAdd_s, qAdd_l, qMul_i, qMul_t, qMul_l, qSub_i, qDiv_i, qMod_i, qPow_i, qIAdd_i, qEq_i, qEq_b, qEq_s, qCmp_i, qIsN, qSl_t, qSl_l, qSl_s, qInt_i, qInt_b, qInt1, qMax, qMin, qList_t, qList_l, i_Ground, l_Ground, h_Ground_eq, g_Ground_rows, p_Ground_rows, k_Ground_rows, g_Ground_wide, p_Ground_wide, k_Ground_wide, g_Ground_high, p_Ground_high, k_Ground_high, $xs,*])
def sp__law_thing (A : Ad) : SpD := fun ds S Q _ => ∃ a B, ds = [.ref a] ∧ IsH a B S ∧ ∀ n d T, IsH a B T → n ≤ 38 → Th n d → Q d T
theorem len__law_thing (A : Ad) : ∀ ds S Q X, sp__law_thing A ds S Q X → ds.length = 1 := by rintro _ _ _ _ ⟨_, _, rfl, _⟩; rfl
def r__law_thing (A : Ad) : DS := (dSeq (dAsg (dCall (sp__law_odd A) (dCons (dVar 0) dNil)) (gN 1))
    (dSeq (dFor (iR1 (dCons (dCall (sp__law_take A) (dCons (dVar 0) (dCons (dC (.int 38)) dNil))) dNil)) (gN 2) (dIfS (dTest (dOp rdEq (dCall (sp__law_take A) (dCons (dVar 0) (dCons (dC (.int 2)) dNil))) (dC (.int 0)))) (dAsg (dTup (dCons (dVar 1) (dCons (dVar 2) dNil))) (gN 1)) (dAsg (dLstV (dCons (dVar 2) (dCons (dVar 1) dNil))) (gN 1))))
    (dRet (dVar 1))))
theorem rd__law_thing (A : Ad) : Rd (r__law_thing A) 3 (sp__law_thing A) := by
  rintro ds S Q X ⟨a, B, rfl, hH, h⟩
  unfold r__law_thing
  refine cut_seq (fun ρ T => IsH a B T ∧ ∃ d, Th 0 d ∧ ρ = [some (.ref a), some d, none]) (fun N hN => ?_) fun ρ T hM => ?_
  · simp_arith only [and_self]
    exact ⟨a, B, rfl, hH, fun d T hT hd => hN _ _ ⟨hT, d, .odd hd, rfl⟩⟩
  obtain ⟨hT, d, hd, rfl⟩ := hM
  refine cut_seq (fun ρ U => IsH a B U ∧ ∃ n d y2, n ≤ 38 ∧ Th n d ∧ ρ = [some (.ref a), some d, y2]) (fun N hN => ?_) fun ρ U hM => ?_
  · simp_arith only [and_self]
    (refine ask hT (fun r V h1 a1 b1 => ?_) (by first | decide | omega) (by first | decide | omega); try simp_arith only [and_self])
    refine for_go (fun j ρ U => IsH a B U ∧ ∃ d y2, Th j d ∧ ρ = [some (.ref a), some d, y2]) ⟨h1, d, _, hd, rfl⟩ (fun _ _ _ _ _ => by first | rfl | exact trivial) (fun j z ρ U hz hw => ?_) fun ρ U hw => ?_
    · obtain ⟨hU, d, y2, hd, rfl⟩ := hw
      obtain ⟨hj, rfl⟩ := rangeL_mem hz
      rw [Int.zero_add]
      simp_arith only [and_self]
      (refine ask hU (fun r2 W h2 a2 b2 => ?_) (by first | decide | omega) (by first | decide | omega); try simp_arith only [and_self])
      by_cases c : r2 = 0
      · rw [if_pos c]
        exact ⟨slK (by decide), h2, _, _, .tup hd (by omega), rfl⟩
      · rw [if_neg c]
        exact ⟨slK (by decide), h2, _, _, .rol hd (by omega), rfl⟩
    · obtain ⟨hU, d, y2, hd, rfl⟩ := hw
      rw [rangeL_len] at hd
      exact hN _ _ ⟨hU, _, d, y2, by omega, hd, rfl⟩
  obtain ⟨hU, n, d, y2, hn, hd, rfl⟩ := hM
  simp_arith only [and_self]
  exact h n d _ hU hn hd
/-! ### the errors -/
def Held (T : Sto) (d : Dv) (a : Addr) (m : Addr × Option Str) : Prop := match m.2 with
  | none => T a = some (.ex (.ref m.1) none)
  | some f => ∃ dd, T a = some (.ex (.ref m.1) (some dd)) ∧ T dd = some (.xd [(f, d)])
theorem Held.sub {S T : Sto} {d : Dv} {a : Addr} {m : Addr × Option Str} (h : Held S d a m) (s : VD.Sub S T) : Held T d a m := by
  obtain ⟨C, f⟩ := m
  cases f with
  | none => exact s _ _ h
  | some f =>
    obtain ⟨dd, h1, h2⟩ := h
    exact ⟨dd, s _ _ h1, s _ _ h2⟩
/-- a row of errors that is written out -/
def mkL (i : Nat) : List (Addr × Option Str) → DA
  | [] => dNil
  | (C, none) :: r => dCons (dMkX (.ref C)) (mkL i r)
  | (C, some f) :: r => dCons (dMkF (.ref C) f (dCons (dVar i) dNil)) (mkL i r)
theorem mkL_run {i : Nat} {d : Dv} {ρ : Rho} (hi : ρ[i]? = some (some d)) : ∀ (ms : List (Addr × Option Str)) (S : Sto) (Q : List Dv → Sto → Prop) (X : XD),
    (∀ as T, VD.Sub S T → Paired (Held T d) as ms → Q (as.map Dv.ref) T) → mkL i ms ρ S Q X
  | [], S, Q, X, h => h [] S (VD.Sub.refl S) .nil
  | (C, none) :: r, S, Q, X, h => by
    show ∀ a, S a = none → _
    intro a ha
    refine mkL_run hi r _ _ _ fun as T s p => ?_
    exact h (a :: as) T ((Sub.new ha).trans s) (.cons (s _ _ put_same) p)
  | (C, some f) :: r, S, Q, X, h => by
    show ∃ d0, ρ[i]? = some (some d0) ∧ ∀ dx, S dx = none → ∀ a, a ≠ dx → S a = none → _
    refine ⟨d, hi, fun dx hx a ne ha => ?_⟩
    refine mkL_run hi r _ _ _ fun as T s p => ?_
    have s1 : VD.Sub (put S dx (.xd [(f, d)])) (put (put S dx (.xd [(f, d)])) a (.ex (.ref C) (some dx))) := Sub.new (by rw [put_ne ne]; exact ha)
    exact h (a :: as) T (((Sub.new hx).trans s1).trans s) (.cons ⟨dx, s _ _ put_same, s _ _ (s1 _ _ put_same)⟩ p)
def er1 (A : Ad) : List (Addr × Option Str) := [(A.NoNumber, none), (A.NoSeed, none), (A.BadGround, some (Str.ofString "part")), (A.BadProgram, some (Str.ofString "part")), (A.BadKind, some (Str.ofString "part")), (A.BadGame, some (Str.ofString "part")), (A.NoWorld, none), (A.NoBody, none)]
def er2 (A : Ad) : List (Addr × Option Str) := [(A.NoWay, none), (A.NoInputs, none), (A.NoHandler, none), (A.NoCode, none), (A.NoRows, some (Str.ofString "index")), (A.NoRow, none), (A.NoPlace, none), (A.BadRow, some (Str.ofString "place")), (A.BadChange, some (Str.ofString "place"))]
def er3 (A : Ad) : List (Addr × Option Str) := [(A.NoSeat, none), (A.NotWaiting, none), (A.NoTick, none), (A.NotOpen, none), (A.Gap, none), (A.BadDeed, some (Str.ofString "index")), (A.NoBook, none), (A.NoPeer, none), (A.NoRules, none), (A.NoPast, none)]
def er4 (A : Ad) : List (Addr × Option Str) := [(A.NoLetter, none), (A.NoDeed, none), (A.BadDeeds, some (Str.ofString "index")), (A.NoCut, none), (A.NoBlocks, none), (A.NoDisk, none), (A.OtherMatch, none), (A.BadTurns, some (Str.ofString "index"))]
def er5 (A : Ad) : List (Addr × Option Str) := [(A.OtherGame, none), (A.Strayed, some (Str.ofString "tick")), (A.NoNode, none), (A.NoReplay, none), (A.NoExpression, none), (A.BadText, some (Str.ofString "line")), (A.NoProgram, none), (A.NoPicture, none)]
def er6 (A : Ad) : List (Addr × Option Str) := [(A.Unlike, none), (A.NoChanges, none), (A.NoLine, none), (A.NoName, some (Str.ofString "name"))]
def erL (A : Ad) : List (Addr × Option Str) := er1 A ++ er2 A ++ er3 A ++ er4 A ++ er5 A ++ er6 A
theorem erL_len (A : Ad) : (erL A).length = 47 := rfl
theorem erL_ex (A : Ad) : (erL A).map (·.1) = exL A := rfl
theorem paired_app {α β : Type} {F : α → β → Prop} : ∀ {l1 : List α} {m1 : List β} {l2 : List α} {m2 : List β}, Paired F l1 m1 → Paired F l2 m2 → Paired F (l1 ++ l2) (m1 ++ m2)
  | _, _, _, _, .nil, h => h
  | _, _, _, _, .cons a b, h => .cons a (paired_app b h)
theorem paired_len {α β : Type} {F : α → β → Prop} : ∀ {l1 : List α} {m1 : List β}, Paired F l1 m1 → l1.length = m1.length
  | _, _, .nil => rfl
  | _, _, .cons _ b => congrArg (· + 1) (paired_len b)
theorem paired_sub {S T : Sto} (s : VD.Sub S T) {d : Dv} : ∀ {as : List Addr} {ms : List (Addr × Option Str)}, Paired (Held S d) as ms → Paired (Held T d) as ms
  | _, _, .nil => .nil
  | _, _, .cons a b => .cons (a.sub s) (paired_sub s b)
def sp__law_all (A : Ad) : SpD := fun ds S Q _ => ∃ d, ds = [d] ∧ ∀ as T, VD.Sub S T → Paired (Held T d) as (erL A) → Q (.rol (as.map Dv.ref)) T
theorem len__law_all (A : Ad) : ∀ ds S Q X, sp__law_all A ds S Q X → ds.length = 1 := by rintro _ _ _ _ ⟨_, rfl, _⟩; rfl
def r__law_all (A : Ad) : DS := (dSeq (dAsg (dLstV (dCons (dMkX (.ref A.NoNumber)) (dCons (dMkX (.ref A.NoSeed)) (dCons (dMkF (.ref A.BadGround) (Str.ofString "part") (dCons (dVar 0) dNil)) (dCons (dMkF (.ref A.BadProgram) (Str.ofString "part") (dCons (dVar 0) dNil)) (dCons (dMkF (.ref A.BadKind) (Str.ofString "part") (dCons (dVar 0) dNil)) (dCons (dMkF (.ref A.BadGame) (Str.ofString "part") (dCons (dVar 0) dNil)) (dCons (dMkX (.ref A.NoWorld)) (dCons (dMkX (.ref A.NoBody)) dNil))))))))) (gN 1))
    (dSeq (dAsg (dLstV (dCons (dMkX (.ref A.NoWay)) (dCons (dMkX (.ref A.NoInputs)) (dCons (dMkX (.ref A.NoHandler)) (dCons (dMkX (.ref A.NoCode)) (dCons (dMkF (.ref A.NoRows) (Str.ofString "index") (dCons (dVar 0) dNil)) (dCons (dMkX (.ref A.NoRow)) (dCons (dMkX (.ref A.NoPlace)) (dCons (dMkF (.ref A.BadRow) (Str.ofString "place") (dCons (dVar 0) dNil)) (dCons (dMkF (.ref A.BadChange) (Str.ofString "place") (dCons (dVar 0) dNil)) dNil)))))))))) (gN 2))
    (dSeq (dAsg (dLstV (dCons (dMkX (.ref A.NoSeat)) (dCons (dMkX (.ref A.NotWaiting)) (dCons (dMkX (.ref A.NoTick)) (dCons (dMkX (.ref A.NotOpen)) (dCons (dMkX (.ref A.Gap)) (dCons (dMkF (.ref A.BadDeed) (Str.ofString "index") (dCons (dVar 0) dNil)) (dCons (dMkX (.ref A.NoBook)) (dCons (dMkX (.ref A.NoPeer)) (dCons (dMkX (.ref A.NoRules)) (dCons (dMkX (.ref A.NoPast)) dNil))))))))))) (gN 3))
    (dSeq (dAsg (dLstV (dCons (dMkX (.ref A.NoLetter)) (dCons (dMkX (.ref A.NoDeed)) (dCons (dMkF (.ref A.BadDeeds) (Str.ofString "index") (dCons (dVar 0) dNil)) (dCons (dMkX (.ref A.NoCut)) (dCons (dMkX (.ref A.NoBlocks)) (dCons (dMkX (.ref A.NoDisk)) (dCons (dMkX (.ref A.OtherMatch)) (dCons (dMkF (.ref A.BadTurns) (Str.ofString "index") (dCons (dVar 0) dNil)) dNil))))))))) (gN 4))
    (dSeq (dAsg (dLstV (dCons (dMkX (.ref A.OtherGame)) (dCons (dMkF (.ref A.Strayed) (Str.ofString "tick") (dCons (dVar 0) dNil)) (dCons (dMkX (.ref A.NoNode)) (dCons (dMkX (.ref A.NoReplay)) (dCons (dMkX (.ref A.NoExpression)) (dCons (dMkF (.ref A.BadText) (Str.ofString "line") (dCons (dVar 0) dNil)) (dCons (dMkX (.ref A.NoProgram)) (dCons (dMkX (.ref A.NoPicture)) dNil))))))))) (gN 5))
    (dRet (dOp rdAddV (dOp rdAddV (dOp rdAddV (dOp rdAddV (dOp rdAddV (dVar 1) (dVar 2)) (dVar 3)) (dVar 4)) (dVar 5)) (dLstV (dCons (dMkX (.ref A.Unlike)) (dCons (dMkX (.ref A.NoChanges)) (dCons (dMkX (.ref A.NoLine)) (dCons (dMkF (.ref A.NoName) (Str.ofString "name") (dCons (dVar 0) dNil)) dNil))))))))))))
theorem rd__law_all (A : Ad) : Rd (r__law_all A) 6 (sp__law_all A) := by
  rintro ds S Q X ⟨d, rfl, h⟩
  unfold r__law_all
  refine cut_seq (fun ρ T1 => VD.Sub S T1 ∧ ∃ a1, Paired (Held T1 d) a1 (er1 A) ∧ ρ = [some d, some (.rol (a1.map Dv.ref)), none, none, none, none]) (fun N hN => ?_) fun ρ T1 hM => ?_
  · refine mkL_run (i := 0) (d := d) rfl (er1 A) S _ _ fun as T s p => ?_
    refine ⟨slK (by rw [List.length_map, paired_len p]; exact Nat.le_of_ble_eq_true rfl), hN _ _ ⟨s, as, p, rfl⟩⟩
  obtain ⟨hs1, a1, p1, rfl⟩ := hM
  refine cut_seq (fun ρ T2 => VD.Sub S T2 ∧ ∃ a2, Paired (Held T2 d) a1 (er1 A) ∧ Paired (Held T2 d) a2 (er2 A) ∧ ρ = [some d, some (.rol (a1.map Dv.ref)), some (.rol (a2.map Dv.ref)), none, none, none]) (fun N hN => ?_) fun ρ T2 hM => ?_
  · refine mkL_run (i := 0) (d := d) rfl (er2 A) T1 _ _ fun as T s p => ?_
    refine ⟨slK (by rw [List.length_map, paired_len p]; exact Nat.le_of_ble_eq_true rfl), hN _ _ ⟨hs1.trans s, as, paired_sub s p1, p, rfl⟩⟩
  obtain ⟨hs2, a2, p1, p2, rfl⟩ := hM
  refine cut_seq (fun ρ T3 => VD.Sub S T3 ∧ ∃ a3, Paired (Held T3 d) a1 (er1 A) ∧ Paired (Held T3 d) a2 (er2 A) ∧ Paired (Held T3 d) a3 (er3 A) ∧ ρ = [some d, some (.rol (a1.map Dv.ref)), some (.rol (a2.map Dv.ref)), some (.rol (a3.map Dv.ref)), none, none]) (fun N hN => ?_) fun ρ T3 hM => ?_
  · refine mkL_run (i := 0) (d := d) rfl (er3 A) T2 _ _ fun as T s p => ?_
    refine ⟨slK (by rw [List.length_map, paired_len p]; exact Nat.le_of_ble_eq_true rfl), hN _ _ ⟨hs2.trans s, as, paired_sub s p1, paired_sub s p2, p, rfl⟩⟩
  obtain ⟨hs3, a3, p1, p2, p3, rfl⟩ := hM
  refine cut_seq (fun ρ T4 => VD.Sub S T4 ∧ ∃ a4, Paired (Held T4 d) a1 (er1 A) ∧ Paired (Held T4 d) a2 (er2 A) ∧ Paired (Held T4 d) a3 (er3 A) ∧ Paired (Held T4 d) a4 (er4 A) ∧ ρ = [some d, some (.rol (a1.map Dv.ref)), some (.rol (a2.map Dv.ref)), some (.rol (a3.map Dv.ref)), some (.rol (a4.map Dv.ref)), none]) (fun N hN => ?_) fun ρ T4 hM => ?_
  · refine mkL_run (i := 0) (d := d) rfl (er4 A) T3 _ _ fun as T s p => ?_
    refine ⟨slK (by rw [List.length_map, paired_len p]; exact Nat.le_of_ble_eq_true rfl), hN _ _ ⟨hs3.trans s, as, paired_sub s p1, paired_sub s p2, paired_sub s p3, p, rfl⟩⟩
  obtain ⟨hs4, a4, p1, p2, p3, p4, rfl⟩ := hM
  refine cut_seq (fun ρ T5 => VD.Sub S T5 ∧ ∃ a5, Paired (Held T5 d) a1 (er1 A) ∧ Paired (Held T5 d) a2 (er2 A) ∧ Paired (Held T5 d) a3 (er3 A) ∧ Paired (Held T5 d) a4 (er4 A) ∧ Paired (Held T5 d) a5 (er5 A) ∧ ρ = [some d, some (.rol (a1.map Dv.ref)), some (.rol (a2.map Dv.ref)), some (.rol (a3.map Dv.ref)), some (.rol (a4.map Dv.ref)), some (.rol (a5.map Dv.ref))]) (fun N hN => ?_) fun ρ T5 hM => ?_
  · refine mkL_run (i := 0) (d := d) rfl (er5 A) T4 _ _ fun as T s p => ?_
    refine ⟨slK (by rw [List.length_map, paired_len p]; exact Nat.le_of_ble_eq_true rfl), hN _ _ ⟨hs4.trans s, as, paired_sub s p1, paired_sub s p2, paired_sub s p3, paired_sub s p4, p, rfl⟩⟩
  obtain ⟨hs5, a5, p1, p2, p3, p4, p5, rfl⟩ := hM
  have l1 := paired_len p1
  have l2 := paired_len p2
  have l3 := paired_len p3
  have l4 := paired_len p4
  have l5 := paired_len p5
  have e1 : (er1 A).length = 8 := rfl
  have e2 : (er2 A).length = 9 := rfl
  have e3 : (er3 A).length = 10 := rfl
  have e4 : (er4 A).length = 8 := rfl
  have e5 : (er5 A).length = 8 := rfl
  have e6 : (er6 A).length = 4 := rfl
  have go : ∀ (Q : QD) (X : XD), Q (.rol ((a1 ++ a2 ++ a3 ++ a4 ++ a5).map Dv.ref)) T5 → (dOp rdAddV (dOp rdAddV (dOp rdAddV (dOp rdAddV (dVar 1) (dVar 2)) (dVar 3)) (dVar 4)) (dVar 5)) [some d, some (.rol (a1.map Dv.ref)), some (.rol (a2.map Dv.ref)), some (.rol (a3.map Dv.ref)), some (.rol (a4.map Dv.ref)), some (.rol (a5.map Dv.ref))] T5 Q X := fun Q X q => by
    simp_arith only [and_self]
    simp only [List.length_append, List.length_map]
    rw [List.map_append, List.map_append, List.map_append, List.map_append] at q
    exact ⟨slK (by omega), slK (by omega), slK (by omega), slK (by omega), q⟩
  refine go _ _ ?_
  refine mkL_run (i := 0) (d := d) rfl (er6 A) T5 _ _ fun as T s p => ?_
  have l6 := paired_len p
  refine ⟨slK (by rw [List.length_map]; omega), slK ?_, ?_⟩
  · rw [List.length_map, List.length_map]
    simp only [List.length_append]
    omega
  · rw [← List.map_append]
    refine h _ T (hs5.trans s) ?_
    exact paired_app (paired_app (paired_app (paired_app (paired_app (paired_sub s p1) (paired_sub s p2)) (paired_sub s p3)) (paired_sub s p4)) (paired_sub s p5)) p
end Lw

--CLS Ground
namespace Lw
open PySem PySem.Spec PyProof.Rows L2 VD
local macro_rules
  | `(tactic| simp_arith only [$xs,*]) => `(tactic| simp only [dSeq, dAsg, dRet, dRetN, dDrop, dRaise, dBreak, dCont, dPar, dAug, dFor, dNext, dSetF, dAugF, dRaiseF, dIfS, dTest, dOp, dVar, dC, dCB, dCons, dNil, dCall, dAndV, dOrV, dNotV, dAndT, dOrT, dNotT, dIf, dTup, dLst, dLstV, dSl, dSlV, oSome, oNone, dNeg, gN, gT, gConsD, gNilD, gSubD, gFldD, dChain, dLc, dBM, isLst, iSeqD, iR1, iR2, iR3, dYes, isn_non, isn_bl, isn_int, isn_str, isn_ref, isn_tup, isn_rol, isn_obj, rdIx_tup, rdIx_rol, rdIx_put, rdSet, rdLen_tup, rdLen_rol, rdLen_str, rdLen_put, rdAppend, rdExt, rdPopAt, rdIsB, isBlV, rdStrI, rdIntS, dFrz, dFld, insOf_put, dMeth, lstOf_rol, lstOf_put, seqOf_tup, seqOf_rol, seqOf_put, frz_tup, frz_rol, frz_int, frz_bl, frz_non, frz_str, frz_obj, startN, wipeD, List.map_cons, List.map_nil, List.length_cons, List.length_nil, Nat.zero_add, Nat.sub_self, Nat.reduceAdd, Nat.reduceSub, List.replicate_succ, List.replicate_zero, List.cons_append, List.nil_append, List.append_nil, List.getElem?_cons_zero, List.getElem?_cons_succ, List.set_cons_zero, List.set_cons_succ, Option.some.injEq, exists_eq_left', atI_0, atI_1, atI_2, atI_3, atI_4, atI_5, atI_6, atI_7, ixN_50, ixN_51, ixN_52, ixN_53, ixN_54, ixN_30, ixN_31, ixN_32, put_same, put_put, true_and, and_true, decide_true, decide_false, Bool.not_true, Bool.not_false, Bool.false_eq_true, if_true, if_false, decide_eq_true_eq, Bool.not_eq_true', decide_eq_false_iff_not, mem_one, ex_one, and_self, xd_mk, qAdd_i, qAdd_t, qAdd_s, qAdd_l, qMul_i, qMul_t, qMul_l, qSub_i, qDiv_i, qMod_i, qPow_i, qIAdd_i, qEq_i, qEq_b, qEq_s, qCmp_i, qIsN, qSl_t, qSl_l, qSl_s, qInt_i, qInt_b, qInt1, qMax, qMin, qList_t, qList_l, i_Ground, l_Ground, h_Ground_eq, g_Ground_rows, p_Ground_rows, k_Ground_rows, g_Ground_wide, p_Ground_wide, k_Ground_wide, g_Ground_high, p_Ground_high, k_Ground_high, $xs,*])
/-- a held exception of the k-th class -/
def Ex (A : Ad) (S : Sto) (k : Nat) (d : Dv) : Prop := ∃ a D o, d = .ref a ∧ (exL A ++ [A.WorldError])[k]? = some D ∧ S a = some (.ex (.ref D) o) ∧ ∀ dd, o = some dd → ∃ fs, S dd = some (.xd fs)
theorem Ex.is {A : Ad} {S : Sto} {k : Nat} {d c : Dv} {cv : Value} {b : Bool} {Q : QD} (h : Ex A S k d) (hc : clsV c = some cv)
    (hb : (∃ (j : Nat) (C : Addr), (exL A)[j]? = some C ∧ cv = .ref C ∧ b = decide (k = j)) ∨ (cv = .ref A.WorldError ∧ b = true) ∨ (cv = .type "ValueError" ∧ b = true) ∨ ((cv = .type "KeyError" ∨ cv = .type "IndexError" ∨ cv = .type "ArithmeticError") ∧ b = false))
    (q : Q (.bl b) S) : rdIsV (IsP A) [d, c] S Q := by
  obtain ⟨a, D, o, rfl, h1, h2, h3⟩ := h
  exact ⟨D, o, cv, b, h2, h3, hc, ⟨k, h1, hb⟩, q⟩
def sp__law_alien (A : Ad) : SpD := fun ds S Q _ => ∃ d k, ds = [d] ∧ Ex A S k d ∧ Q (.bl false) S
theorem len__law_alien (A : Ad) : ∀ ds S Q X, sp__law_alien A ds S Q X → ds.length = 1 := by rintro _ _ _ _ ⟨_, _, rfl, _⟩; rfl
def r__law_alien (A : Ad) : DS := (dRet (dOrV (dCB (rdIsV (IsP A)) (dCons (dVar 0) (dCons (dC (.ty "KeyError")) dNil))) (dOrV (dCB (rdIsV (IsP A)) (dCons (dVar 0) (dCons (dC (.ty "IndexError")) dNil))) (dCB (rdIsV (IsP A)) (dCons (dVar 0) (dCons (dC (.ty "ArithmeticError")) dNil))))))
theorem rd__law_alien (A : Ad) : Rd (r__law_alien A) 1 (sp__law_alien A) := by
  rintro ds S Q X ⟨d, k, rfl, hk, h⟩
  unfold r__law_alien
  simp_arith only [and_self]
  refine hk.is rfl (.inr (.inr (.inr ⟨.inl rfl, rfl⟩))) ?_
  try simp_arith only [and_self]
  refine hk.is rfl (.inr (.inr (.inr ⟨.inr (.inl rfl), rfl⟩))) ?_
  try simp_arith only [and_self]
  exact hk.is rfl (.inr (.inr (.inr ⟨.inr (.inr rfl), rfl⟩))) h
/-- a row of isinstance that is written out -/
def isL (A : Ad) : List Addr → DA
  | [] => dNil
  | C :: r => dCons (dCB (rdIsV (IsP A)) (dCons (dVar 0) (dCons (dC (.ref C)) dNil))) (isL A r)
def BL (k o n : Nat) : List Dv := (List.range n).map fun i => .bl (decide (k = o + i))
theorem BL_len {k o n : Nat} : (BL k o n).length = n := by unfold BL; rw [List.length_map, List.length_range]
theorem BL_app {k o n m : Nat} : BL k o n ++ BL k (o + n) m = BL k o (n + m) := by
  unfold BL
  rw [List.range_add, List.map_append, List.map_map]
  congr 1
  refine List.map_congr_left fun i _ => ?_
  show Dv.bl (decide (k = o + n + i)) = Dv.bl (decide (k = o + (n + i)))
  rw [Nat.add_assoc]
theorem BL_cons {k o n : Nat} : Dv.bl (decide (k = o)) :: BL k (o + 1) n = BL k o (n + 1) := by
  have := BL_app (k := k) (o := o) (n := 1) (m := n)
  rw [Nat.add_comm 1 n] at this
  rw [← this]
  rfl
theorem isL_run {A : Ad} {S : Sto} {k : Nat} {d : Dv} {ρ : Rho} (hi : ρ[0]? = some (some d)) (hk : Ex A S k d) : ∀ (cs : List Addr) (o : Nat) (Q : List Dv → Sto → Prop) (X : XD), (∀ (i : Nat) (C : Addr), cs[i]? = some C → (exL A)[o + i]? = some C) →
    Q (BL k o cs.length) S → isL A cs ρ S Q X
  | [], o, Q, X, _, h => h
  | C :: r, o, Q, X, hc, h => by
    show ∃ d0, ρ[0]? = some (some d0) ∧ rdIsV (IsP A) [d0, .ref C] S (fun x S1 => isL A r ρ S1 (fun xs S2 => Q (x :: xs) S2) X)
    refine ⟨d, hi, hk.is rfl (.inl ⟨o, C, hc 0 C rfl, rfl, rfl⟩) ?_⟩
    refine isL_run hi hk r (o + 1) _ _ (fun i C2 e => ?_) ?_
    · have := hc (i + 1) C2 e
      rw [Nat.add_assoc, Nat.add_comm 1 i]
      exact this
    · rw [List.length_cons, ← BL_cons] at h
      exact h
def sp__law_marks (A : Ad) : SpD := fun ds S Q _ => ∃ d k, ds = [d] ∧ Ex A S k d ∧ Q (.rol (BL k 0 47)) S
theorem len__law_marks (A : Ad) : ∀ ds S Q X, sp__law_marks A ds S Q X → ds.length = 1 := by rintro _ _ _ _ ⟨_, _, rfl, _⟩; rfl
def r__law_marks (A : Ad) : DS := (dSeq (dAsg (dLstV (dCons (dCB (rdIsV (IsP A)) (dCons (dVar 0) (dCons (dC (.ref A.NoNumber)) dNil))) (dCons (dCB (rdIsV (IsP A)) (dCons (dVar 0) (dCons (dC (.ref A.NoSeed)) dNil))) (dCons (dCB (rdIsV (IsP A)) (dCons (dVar 0) (dCons (dC (.ref A.BadGround)) dNil))) (dCons (dCB (rdIsV (IsP A)) (dCons (dVar 0) (dCons (dC (.ref A.BadProgram)) dNil))) (dCons (dCB (rdIsV (IsP A)) (dCons (dVar 0) (dCons (dC (.ref A.BadKind)) dNil))) (dCons (dCB (rdIsV (IsP A)) (dCons (dVar 0) (dCons (dC (.ref A.BadGame)) dNil))) (dCons (dCB (rdIsV (IsP A)) (dCons (dVar 0) (dCons (dC (.ref A.NoWorld)) dNil))) (dCons (dCB (rdIsV (IsP A)) (dCons (dVar 0) (dCons (dC (.ref A.NoBody)) dNil))) dNil))))))))) (gN 1))
    (dSeq (dAsg (dLstV (dCons (dCB (rdIsV (IsP A)) (dCons (dVar 0) (dCons (dC (.ref A.NoWay)) dNil))) (dCons (dCB (rdIsV (IsP A)) (dCons (dVar 0) (dCons (dC (.ref A.NoInputs)) dNil))) (dCons (dCB (rdIsV (IsP A)) (dCons (dVar 0) (dCons (dC (.ref A.NoHandler)) dNil))) (dCons (dCB (rdIsV (IsP A)) (dCons (dVar 0) (dCons (dC (.ref A.NoCode)) dNil))) (dCons (dCB (rdIsV (IsP A)) (dCons (dVar 0) (dCons (dC (.ref A.NoRows)) dNil))) (dCons (dCB (rdIsV (IsP A)) (dCons (dVar 0) (dCons (dC (.ref A.NoRow)) dNil))) (dCons (dCB (rdIsV (IsP A)) (dCons (dVar 0) (dCons (dC (.ref A.NoPlace)) dNil))) (dCons (dCB (rdIsV (IsP A)) (dCons (dVar 0) (dCons (dC (.ref A.BadRow)) dNil))) (dCons (dCB (rdIsV (IsP A)) (dCons (dVar 0) (dCons (dC (.ref A.BadChange)) dNil))) dNil)))))))))) (gN 2))
    (dSeq (dAsg (dLstV (dCons (dCB (rdIsV (IsP A)) (dCons (dVar 0) (dCons (dC (.ref A.NoSeat)) dNil))) (dCons (dCB (rdIsV (IsP A)) (dCons (dVar 0) (dCons (dC (.ref A.NotWaiting)) dNil))) (dCons (dCB (rdIsV (IsP A)) (dCons (dVar 0) (dCons (dC (.ref A.NoTick)) dNil))) (dCons (dCB (rdIsV (IsP A)) (dCons (dVar 0) (dCons (dC (.ref A.NotOpen)) dNil))) (dCons (dCB (rdIsV (IsP A)) (dCons (dVar 0) (dCons (dC (.ref A.Gap)) dNil))) (dCons (dCB (rdIsV (IsP A)) (dCons (dVar 0) (dCons (dC (.ref A.BadDeed)) dNil))) (dCons (dCB (rdIsV (IsP A)) (dCons (dVar 0) (dCons (dC (.ref A.NoBook)) dNil))) (dCons (dCB (rdIsV (IsP A)) (dCons (dVar 0) (dCons (dC (.ref A.NoPeer)) dNil))) (dCons (dCB (rdIsV (IsP A)) (dCons (dVar 0) (dCons (dC (.ref A.NoRules)) dNil))) (dCons (dCB (rdIsV (IsP A)) (dCons (dVar 0) (dCons (dC (.ref A.NoPast)) dNil))) dNil))))))))))) (gN 3))
    (dSeq (dAsg (dLstV (dCons (dCB (rdIsV (IsP A)) (dCons (dVar 0) (dCons (dC (.ref A.NoLetter)) dNil))) (dCons (dCB (rdIsV (IsP A)) (dCons (dVar 0) (dCons (dC (.ref A.NoDeed)) dNil))) (dCons (dCB (rdIsV (IsP A)) (dCons (dVar 0) (dCons (dC (.ref A.BadDeeds)) dNil))) (dCons (dCB (rdIsV (IsP A)) (dCons (dVar 0) (dCons (dC (.ref A.NoCut)) dNil))) (dCons (dCB (rdIsV (IsP A)) (dCons (dVar 0) (dCons (dC (.ref A.NoBlocks)) dNil))) (dCons (dCB (rdIsV (IsP A)) (dCons (dVar 0) (dCons (dC (.ref A.NoDisk)) dNil))) (dCons (dCB (rdIsV (IsP A)) (dCons (dVar 0) (dCons (dC (.ref A.OtherMatch)) dNil))) (dCons (dCB (rdIsV (IsP A)) (dCons (dVar 0) (dCons (dC (.ref A.BadTurns)) dNil))) dNil))))))))) (gN 4))
    (dSeq (dAsg (dLstV (dCons (dCB (rdIsV (IsP A)) (dCons (dVar 0) (dCons (dC (.ref A.OtherGame)) dNil))) (dCons (dCB (rdIsV (IsP A)) (dCons (dVar 0) (dCons (dC (.ref A.Strayed)) dNil))) (dCons (dCB (rdIsV (IsP A)) (dCons (dVar 0) (dCons (dC (.ref A.NoNode)) dNil))) (dCons (dCB (rdIsV (IsP A)) (dCons (dVar 0) (dCons (dC (.ref A.NoReplay)) dNil))) (dCons (dCB (rdIsV (IsP A)) (dCons (dVar 0) (dCons (dC (.ref A.NoExpression)) dNil))) (dCons (dCB (rdIsV (IsP A)) (dCons (dVar 0) (dCons (dC (.ref A.BadText)) dNil))) (dCons (dCB (rdIsV (IsP A)) (dCons (dVar 0) (dCons (dC (.ref A.NoProgram)) dNil))) (dCons (dCB (rdIsV (IsP A)) (dCons (dVar 0) (dCons (dC (.ref A.NoPicture)) dNil))) dNil))))))))) (gN 5))
    (dSeq (dAsg (dLstV (dCons (dCB (rdIsV (IsP A)) (dCons (dVar 0) (dCons (dC (.ref A.Unlike)) dNil))) (dCons (dCB (rdIsV (IsP A)) (dCons (dVar 0) (dCons (dC (.ref A.NoChanges)) dNil))) (dCons (dCB (rdIsV (IsP A)) (dCons (dVar 0) (dCons (dC (.ref A.NoLine)) dNil))) (dCons (dCB (rdIsV (IsP A)) (dCons (dVar 0) (dCons (dC (.ref A.NoName)) dNil))) dNil))))) (gN 6))
    (dRet (dOp rdAddV (dOp rdAddV (dOp rdAddV (dOp rdAddV (dOp rdAddV (dVar 1) (dVar 2)) (dVar 3)) (dVar 4)) (dVar 5)) (dVar 6)))))))))
theorem rd__law_marks (A : Ad) : Rd (r__law_marks A) 7 (sp__law_marks A) := by
  rintro ds S Q X ⟨d, k, rfl, hk, h⟩
  unfold r__law_marks
  refine cut_seq (fun ρ T => S = T ∧ ρ = [some d, some (.rol (BL k 0 8)), none, none, none, none, none]) (fun N hN => ?_) fun ρ T hM => ?_
  · refine isL_run (k := k) (d := d) rfl hk [A.NoNumber, A.NoSeed, A.BadGround, A.BadProgram, A.BadKind, A.BadGame, A.NoWorld, A.NoBody] 0 _ _ (fun i C e => ?_) ⟨slK (Nat.le_of_ble_eq_true rfl), hN _ _ ⟨rfl, rfl⟩⟩
    · have hi : i < 8 := (List.getElem?_eq_some_iff.mp e).1
      have : i = 0 ∨ i = 1 ∨ i = 2 ∨ i = 3 ∨ i = 4 ∨ i = 5 ∨ i = 6 ∨ i = 7 := by omega
      rcases this with rfl | rfl | rfl | rfl | rfl | rfl | rfl | rfl <;> exact e
  obtain ⟨rfl, rfl⟩ := hM
  refine cut_seq (fun ρ T => S = T ∧ ρ = [some d, some (.rol (BL k 0 8)), some (.rol (BL k 8 9)), none, none, none, none]) (fun N hN => ?_) fun ρ T hM => ?_
  · refine isL_run (k := k) (d := d) rfl hk [A.NoWay, A.NoInputs, A.NoHandler, A.NoCode, A.NoRows, A.NoRow, A.NoPlace, A.BadRow, A.BadChange] 8 _ _ (fun i C e => ?_) ⟨slK (Nat.le_of_ble_eq_true rfl), hN _ _ ⟨rfl, rfl⟩⟩
    · have hi : i < 9 := (List.getElem?_eq_some_iff.mp e).1
      have : i = 0 ∨ i = 1 ∨ i = 2 ∨ i = 3 ∨ i = 4 ∨ i = 5 ∨ i = 6 ∨ i = 7 ∨ i = 8 := by omega
      rcases this with rfl | rfl | rfl | rfl | rfl | rfl | rfl | rfl | rfl <;> exact e
  obtain ⟨rfl, rfl⟩ := hM
  refine cut_seq (fun ρ T => S = T ∧ ρ = [some d, some (.rol (BL k 0 8)), some (.rol (BL k 8 9)), some (.rol (BL k 17 10)), none, none, none]) (fun N hN => ?_) fun ρ T hM => ?_
  · refine isL_run (k := k) (d := d) rfl hk [A.NoSeat, A.NotWaiting, A.NoTick, A.NotOpen, A.Gap, A.BadDeed, A.NoBook, A.NoPeer, A.NoRules, A.NoPast] 17 _ _ (fun i C e => ?_) ⟨slK (Nat.le_of_ble_eq_true rfl), hN _ _ ⟨rfl, rfl⟩⟩
    · have hi : i < 10 := (List.getElem?_eq_some_iff.mp e).1
      have : i = 0 ∨ i = 1 ∨ i = 2 ∨ i = 3 ∨ i = 4 ∨ i = 5 ∨ i = 6 ∨ i = 7 ∨ i = 8 ∨ i = 9 := by omega
      rcases this with rfl | rfl | rfl | rfl | rfl | rfl | rfl | rfl | rfl | rfl <;> exact e
  obtain ⟨rfl, rfl⟩ := hM
  refine cut_seq (fun ρ T => S = T ∧ ρ = [some d, some (.rol (BL k 0 8)), some (.rol (BL k 8 9)), some (.rol (BL k 17 10)), some (.rol (BL k 27 8)), none, none]) (fun N hN => ?_) fun ρ T hM => ?_
  · refine isL_run (k := k) (d := d) rfl hk [A.NoLetter, A.NoDeed, A.BadDeeds, A.NoCut, A.NoBlocks, A.NoDisk, A.OtherMatch, A.BadTurns] 27 _ _ (fun i C e => ?_) ⟨slK (Nat.le_of_ble_eq_true rfl), hN _ _ ⟨rfl, rfl⟩⟩
    · have hi : i < 8 := (List.getElem?_eq_some_iff.mp e).1
      have : i = 0 ∨ i = 1 ∨ i = 2 ∨ i = 3 ∨ i = 4 ∨ i = 5 ∨ i = 6 ∨ i = 7 := by omega
      rcases this with rfl | rfl | rfl | rfl | rfl | rfl | rfl | rfl <;> exact e
  obtain ⟨rfl, rfl⟩ := hM
  refine cut_seq (fun ρ T => S = T ∧ ρ = [some d, some (.rol (BL k 0 8)), some (.rol (BL k 8 9)), some (.rol (BL k 17 10)), some (.rol (BL k 27 8)), some (.rol (BL k 35 8)), none]) (fun N hN => ?_) fun ρ T hM => ?_
  · refine isL_run (k := k) (d := d) rfl hk [A.OtherGame, A.Strayed, A.NoNode, A.NoReplay, A.NoExpression, A.BadText, A.NoProgram, A.NoPicture] 35 _ _ (fun i C e => ?_) ⟨slK (Nat.le_of_ble_eq_true rfl), hN _ _ ⟨rfl, rfl⟩⟩
    · have hi : i < 8 := (List.getElem?_eq_some_iff.mp e).1
      have : i = 0 ∨ i = 1 ∨ i = 2 ∨ i = 3 ∨ i = 4 ∨ i = 5 ∨ i = 6 ∨ i = 7 := by omega
      rcases this with rfl | rfl | rfl | rfl | rfl | rfl | rfl | rfl <;> exact e
  obtain ⟨rfl, rfl⟩ := hM
  refine cut_seq (fun ρ T => S = T ∧ ρ = [some d, some (.rol (BL k 0 8)), some (.rol (BL k 8 9)), some (.rol (BL k 17 10)), some (.rol (BL k 27 8)), some (.rol (BL k 35 8)), some (.rol (BL k 43 4))]) (fun N hN => ?_) fun ρ T hM => ?_
  · refine isL_run (k := k) (d := d) rfl hk [A.Unlike, A.NoChanges, A.NoLine, A.NoName] 43 _ _ (fun i C e => ?_) ⟨slK (Nat.le_of_ble_eq_true rfl), hN _ _ ⟨rfl, rfl⟩⟩
    · have hi : i < 4 := (List.getElem?_eq_some_iff.mp e).1
      have : i = 0 ∨ i = 1 ∨ i = 2 ∨ i = 3 := by omega
      rcases this with rfl | rfl | rfl | rfl <;> exact e
  obtain ⟨rfl, rfl⟩ := hM
  simp_arith only [and_self]
  simp only [List.length_append, BL_len]
  refine ⟨slK (by decide), slK (by decide), slK (by decide), slK (by decide), slK (by decide), ?_⟩
  have e1 : BL k 0 8 ++ BL k 8 9 = BL k 0 17 := BL_app
  have e2 : BL k 0 17 ++ BL k 17 10 = BL k 0 27 := BL_app
  have e3 : BL k 0 27 ++ BL k 27 8 = BL k 0 35 := BL_app
  have e4 : BL k 0 35 ++ BL k 35 8 = BL k 0 43 := BL_app
  have e5 : BL k 0 43 ++ BL k 43 4 = BL k 0 47 := BL_app
  rw [e1, e2, e3, e4, e5]
  exact h
/-- the field of the i-th error -/
theorem xv_at {A : Ad} {S : Sto} {d : Dv} {as : List Addr} {ρ : Rho} {C : Addr} {f : Str} {P : Addr → Prop} {i : Int} {n : Nat} {Q : QD} {X : XD} (hi : ρ[0]? = some (some (.rol (as.map Dv.ref)))) (hp : Paired (Held S d) as (erL A)) (he : (erL A)[n]? = some (C, some f)) (hn : i = (n : Nat)) (hP : P C) (q : Q d S) :
    dXv P f (dOp rdIx (dVar 0) (dC (.int i))) ρ S Q X := by
  have at_ : ∀ {as : List Addr} {ms : List (Addr × Option Str)} {n : Nat} {m : Addr × Option Str}, Paired (Held S d) as ms → ms[n]? = some m → ∃ a, as[n]? = some a ∧ Held S d a m := by
    intro as ms n m p
    induction p generalizing n with
    | nil => intro h; simp at h
    | cons a b ih =>
      intro h
      cases n with
      | zero => cases h; exact ⟨_, rfl, a⟩
      | succ n => exact ih h
  obtain ⟨a, ha, dd, h1, h2⟩ := at_ hp he
  subst hn
  show ∃ d0, ρ[0]? = some (some d0) ∧ rdIx d0 (.int (n : Nat)) S (fun x S1 => match x with
    | .ref a => ∃ C dd fs v, S1 a = some (.ex (.ref C) (some dd)) ∧ P C ∧ S1 dd = some (.xd fs) ∧ fs.lookup f = some v ∧ Q v S1
    | _ => False)
  refine ⟨_, hi, .ref a, by rw [atI_nn (by omega), Int.toNat_natCast, List.getElem?_map, ha]; rfl, ?_⟩
  refine ⟨C, dd, _, d, h1, hP, h2, ?_, q⟩
  simp
def sp__law_fields (A : Ad) : SpD := fun ds S Q _ => ∃ d as, ds = [.rol (as.map Dv.ref)] ∧ Paired (Held S d) as (erL A) ∧ Q (.rol (List.replicate 13 d)) S
theorem len__law_fields (A : Ad) : ∀ ds S Q X, sp__law_fields A ds S Q X → ds.length = 1 := by rintro _ _ _ _ ⟨_, _, rfl, _⟩; rfl
def r__law_fields (A : Ad) : DS := (dSeq (dAsg (dLstV (dCons (dXv (fun C => C ∈ [A.BadGround, A.BadProgram, A.BadKind, A.BadGame]) (Str.ofString "part") (dOp rdIx (dVar 0) (dC (.int 2)))) (dCons (dXv (fun C => C ∈ [A.BadGround, A.BadProgram, A.BadKind, A.BadGame]) (Str.ofString "part") (dOp rdIx (dVar 0) (dC (.int 3)))) (dCons (dXv (fun C => C ∈ [A.BadGround, A.BadProgram, A.BadKind, A.BadGame]) (Str.ofString "part") (dOp rdIx (dVar 0) (dC (.int 4)))) (dCons (dXv (fun C => C ∈ [A.BadGround, A.BadProgram, A.BadKind, A.BadGame]) (Str.ofString "part") (dOp rdIx (dVar 0) (dC (.int 5)))) (dCons (dXv (fun C => C ∈ [A.NoRows, A.BadDeed, A.BadDeeds, A.BadTurns]) (Str.ofString "index") (dOp rdIx (dVar 0) (dC (.int 12)))) (dCons (dXv (fun C => C ∈ [A.BadRow, A.BadChange]) (Str.ofString "place") (dOp rdIx (dVar 0) (dC (.int 15)))) dNil))))))) (gN 1))
    (dSeq (dAsg (dLstV (dCons (dXv (fun C => C ∈ [A.BadRow, A.BadChange]) (Str.ofString "place") (dOp rdIx (dVar 0) (dC (.int 16)))) (dCons (dXv (fun C => C ∈ [A.NoRows, A.BadDeed, A.BadDeeds, A.BadTurns]) (Str.ofString "index") (dOp rdIx (dVar 0) (dC (.int 22)))) (dCons (dXv (fun C => C ∈ [A.NoRows, A.BadDeed, A.BadDeeds, A.BadTurns]) (Str.ofString "index") (dOp rdIx (dVar 0) (dC (.int 29)))) (dCons (dXv (fun C => C ∈ [A.NoRows, A.BadDeed, A.BadDeeds, A.BadTurns]) (Str.ofString "index") (dOp rdIx (dVar 0) (dC (.int 34)))) (dCons (dXv (fun C => C ∈ [A.Strayed]) (Str.ofString "tick") (dOp rdIx (dVar 0) (dC (.int 36)))) dNil)))))) (gN 2))
    (dRet (dOp rdAddV (dOp rdAddV (dVar 1) (dVar 2)) (dLstV (dCons (dXv (fun C => C ∈ [A.BadText]) (Str.ofString "line") (dOp rdIx (dVar 0) (dC (.int 40)))) (dCons (dXv (fun C => C ∈ [A.NoName]) (Str.ofString "name") (dOp rdIx (dVar 0) (dC (.int 46)))) dNil)))))))
theorem rd__law_fields (A : Ad) : Rd (r__law_fields A) 3 (sp__law_fields A) := by
  rintro ds S Q X ⟨d, as, rfl, hp, h⟩
  unfold r__law_fields
  refine cut_seq (fun ρ T => T = S ∧ ρ = [some (.rol (as.map Dv.ref)), some (.rol (List.replicate 6 d)), none]) (fun N hN => ?_) fun ρ T hM => ?_
  · refine xv_at (n := 2) rfl hp rfl rfl (by simp) ?_
    refine xv_at (n := 3) rfl hp rfl rfl (by simp) ?_
    refine xv_at (n := 4) rfl hp rfl rfl (by simp) ?_
    refine xv_at (n := 5) rfl hp rfl rfl (by simp) ?_
    refine xv_at (n := 12) rfl hp rfl rfl (by simp) ?_
    refine xv_at (n := 15) rfl hp rfl rfl (by simp) ?_
    exact ⟨slK (Nat.le_of_ble_eq_true rfl), hN _ _ ⟨rfl, rfl⟩⟩
  obtain ⟨rfl, rfl⟩ := hM
  refine cut_seq (fun ρ S => S = T ∧ ρ = [some (.rol (as.map Dv.ref)), some (.rol (List.replicate 6 d)), some (.rol (List.replicate 5 d))]) (fun N hN => ?_) fun ρ S hM => ?_
  · refine xv_at (n := 16) rfl hp rfl rfl (by simp) ?_
    refine xv_at (n := 22) rfl hp rfl rfl (by simp) ?_
    refine xv_at (n := 29) rfl hp rfl rfl (by simp) ?_
    refine xv_at (n := 34) rfl hp rfl rfl (by simp) ?_
    refine xv_at (n := 36) rfl hp rfl rfl (by simp) ?_
    exact ⟨slK (Nat.le_of_ble_eq_true rfl), hN _ _ ⟨rfl, rfl⟩⟩
  obtain ⟨rfl, rfl⟩ := hM
  show ∃ d0, _ ∧ ∃ d1, _ ∧ _
  refine ⟨_, rfl, _, rfl, ?_⟩
  refine ⟨slK (Nat.le_of_ble_eq_true rfl), ?_⟩
  refine xv_at (n := 40) rfl hp rfl rfl (by simp) ?_
  refine xv_at (n := 46) rfl hp rfl rfl (by simp) ?_
  exact ⟨slK (Nat.le_of_ble_eq_true rfl), slK (Nat.le_of_ble_eq_true rfl), h⟩
def raL (A : Ad) : List (Addr × Str) := [(A.BadGround, Str.ofString "part"), (A.BadProgram, Str.ofString "part"), (A.BadKind, Str.ofString "part"), (A.BadGame, Str.ofString "part"), (A.NoRows, Str.ofString "index"), (A.BadRow, Str.ofString "place"), (A.BadChange, Str.ofString "place"), (A.BadDeed, Str.ofString "index"), (A.BadDeeds, Str.ofString "index"), (A.BadTurns, Str.ofString "index"), (A.Strayed, Str.ofString "tick"), (A.BadText, Str.ofString "line"), (A.NoName, Str.ofString "name")]
def sp__law_raise (A : Ad) : SpD := fun ds S _ X => ∃ (w : Nat) (d : Dv), ds = [.int (w : Nat), d] ∧ w < 13 ∧ ∀ C f dx, (raL A)[w]? = some (C, f) → S dx = none → X (.ref C) (some dx) (put S dx (.xd [(f, d)]))
theorem len__law_raise (A : Ad) : ∀ ds S Q X, sp__law_raise A ds S Q X → ds.length = 2 := by rintro _ _ _ _ ⟨_, _, rfl, _⟩; rfl
def r__law_raise (A : Ad) : DS := (dSeq (dIfS (dTest (dOp rdEq (dVar 0) (dC (.int 0)))) (dRaiseF (.ref A.BadGround) (Str.ofString "part") (dCons (dVar 1) dNil)) dNext)
    (dSeq (dIfS (dTest (dOp rdEq (dVar 0) (dC (.int 1)))) (dRaiseF (.ref A.BadProgram) (Str.ofString "part") (dCons (dVar 1) dNil)) dNext)
    (dSeq (dIfS (dTest (dOp rdEq (dVar 0) (dC (.int 2)))) (dRaiseF (.ref A.BadKind) (Str.ofString "part") (dCons (dVar 1) dNil)) dNext)
    (dSeq (dIfS (dTest (dOp rdEq (dVar 0) (dC (.int 3)))) (dRaiseF (.ref A.BadGame) (Str.ofString "part") (dCons (dVar 1) dNil)) dNext)
    (dSeq (dIfS (dTest (dOp rdEq (dVar 0) (dC (.int 4)))) (dRaiseF (.ref A.NoRows) (Str.ofString "index") (dCons (dVar 1) dNil)) dNext)
    (dSeq (dIfS (dTest (dOp rdEq (dVar 0) (dC (.int 5)))) (dRaiseF (.ref A.BadRow) (Str.ofString "place") (dCons (dVar 1) dNil)) dNext)
    (dSeq (dIfS (dTest (dOp rdEq (dVar 0) (dC (.int 6)))) (dRaiseF (.ref A.BadChange) (Str.ofString "place") (dCons (dVar 1) dNil)) dNext)
    (dSeq (dIfS (dTest (dOp rdEq (dVar 0) (dC (.int 7)))) (dRaiseF (.ref A.BadDeed) (Str.ofString "index") (dCons (dVar 1) dNil)) dNext)
    (dSeq (dIfS (dTest (dOp rdEq (dVar 0) (dC (.int 8)))) (dRaiseF (.ref A.BadDeeds) (Str.ofString "index") (dCons (dVar 1) dNil)) dNext)
    (dSeq (dIfS (dTest (dOp rdEq (dVar 0) (dC (.int 9)))) (dRaiseF (.ref A.BadTurns) (Str.ofString "index") (dCons (dVar 1) dNil)) dNext)
    (dSeq (dIfS (dTest (dOp rdEq (dVar 0) (dC (.int 10)))) (dRaiseF (.ref A.Strayed) (Str.ofString "tick") (dCons (dVar 1) dNil)) dNext)
    (dSeq (dIfS (dTest (dOp rdEq (dVar 0) (dC (.int 11)))) (dRaiseF (.ref A.BadText) (Str.ofString "line") (dCons (dVar 1) dNil)) dNext)
    (dRaiseF (.ref A.NoName) (Str.ofString "name") (dCons (dVar 1) dNil))))))))))))))
theorem rd__law_raise (A : Ad) : Rd (r__law_raise A) 2 (sp__law_raise A) := by
  rintro ds S Q X ⟨w, d, rfl, hw, h⟩
  unfold r__law_raise
  have : w = 0 ∨ w = 1 ∨ w = 2 ∨ w = 3 ∨ w = 4 ∨ w = 5 ∨ w = 6 ∨ w = 7 ∨ w = 8 ∨ w = 9 ∨ w = 10 ∨ w = 11 ∨ w = 12 := by omega
  rcases this with rfl | rfl | rfl | rfl | rfl | rfl | rfl | rfl | rfl | rfl | rfl | rfl | rfl
  · simp_arith only [Bool.true_eq_false]
    rw [if_pos (by decide)]
    exact fun dx hx => h _ _ dx rfl hx
  · simp_arith only [Bool.true_eq_false]
    rw [if_neg (by decide)]
    rw [if_pos (by decide)]
    exact fun dx hx => h _ _ dx rfl hx
  · simp_arith only [Bool.true_eq_false]
    rw [if_neg (by decide)]
    rw [if_neg (by decide)]
    rw [if_pos (by decide)]
    exact fun dx hx => h _ _ dx rfl hx
  · simp_arith only [Bool.true_eq_false]
    rw [if_neg (by decide)]
    rw [if_neg (by decide)]
    rw [if_neg (by decide)]
    rw [if_pos (by decide)]
    exact fun dx hx => h _ _ dx rfl hx
  · simp_arith only [Bool.true_eq_false]
    rw [if_neg (by decide)]
    rw [if_neg (by decide)]
    rw [if_neg (by decide)]
    rw [if_neg (by decide)]
    rw [if_pos (by decide)]
    exact fun dx hx => h _ _ dx rfl hx
  · simp_arith only [Bool.true_eq_false]
    rw [if_neg (by decide)]
    rw [if_neg (by decide)]
    rw [if_neg (by decide)]
    rw [if_neg (by decide)]
    rw [if_neg (by decide)]
    rw [if_pos (by decide)]
    exact fun dx hx => h _ _ dx rfl hx
  · simp_arith only [Bool.true_eq_false]
    rw [if_neg (by decide)]
    rw [if_neg (by decide)]
    rw [if_neg (by decide)]
    rw [if_neg (by decide)]
    rw [if_neg (by decide)]
    rw [if_neg (by decide)]
    rw [if_pos (by decide)]
    exact fun dx hx => h _ _ dx rfl hx
  · simp_arith only [Bool.true_eq_false]
    rw [if_neg (by decide)]
    rw [if_neg (by decide)]
    rw [if_neg (by decide)]
    rw [if_neg (by decide)]
    rw [if_neg (by decide)]
    rw [if_neg (by decide)]
    rw [if_neg (by decide)]
    rw [if_pos (by decide)]
    exact fun dx hx => h _ _ dx rfl hx
  · simp_arith only [Bool.true_eq_false]
    rw [if_neg (by decide)]
    rw [if_neg (by decide)]
    rw [if_neg (by decide)]
    rw [if_neg (by decide)]
    rw [if_neg (by decide)]
    rw [if_neg (by decide)]
    rw [if_neg (by decide)]
    rw [if_neg (by decide)]
    rw [if_pos (by decide)]
    exact fun dx hx => h _ _ dx rfl hx
  · simp_arith only [Bool.true_eq_false]
    rw [if_neg (by decide)]
    rw [if_neg (by decide)]
    rw [if_neg (by decide)]
    rw [if_neg (by decide)]
    rw [if_neg (by decide)]
    rw [if_neg (by decide)]
    rw [if_neg (by decide)]
    rw [if_neg (by decide)]
    rw [if_neg (by decide)]
    rw [if_pos (by decide)]
    exact fun dx hx => h _ _ dx rfl hx
  · simp_arith only [Bool.true_eq_false]
    rw [if_neg (by decide)]
    rw [if_neg (by decide)]
    rw [if_neg (by decide)]
    rw [if_neg (by decide)]
    rw [if_neg (by decide)]
    rw [if_neg (by decide)]
    rw [if_neg (by decide)]
    rw [if_neg (by decide)]
    rw [if_neg (by decide)]
    rw [if_neg (by decide)]
    rw [if_pos (by decide)]
    exact fun dx hx => h _ _ dx rfl hx
  · simp_arith only [Bool.true_eq_false]
    rw [if_neg (by decide)]
    rw [if_neg (by decide)]
    rw [if_neg (by decide)]
    rw [if_neg (by decide)]
    rw [if_neg (by decide)]
    rw [if_neg (by decide)]
    rw [if_neg (by decide)]
    rw [if_neg (by decide)]
    rw [if_neg (by decide)]
    rw [if_neg (by decide)]
    rw [if_neg (by decide)]
    rw [if_pos (by decide)]
    exact fun dx hx => h _ _ dx rfl hx
  · simp_arith only [Bool.true_eq_false]
    rw [if_neg (by decide)]
    rw [if_neg (by decide)]
    rw [if_neg (by decide)]
    rw [if_neg (by decide)]
    rw [if_neg (by decide)]
    rw [if_neg (by decide)]
    rw [if_neg (by decide)]
    rw [if_neg (by decide)]
    rw [if_neg (by decide)]
    rw [if_neg (by decide)]
    rw [if_neg (by decide)]
    rw [if_neg (by decide)]
    exact fun dx hx => h _ _ dx rfl hx
def sp__law_caught (A : Ad) : SpD := fun ds S Q _ => ∃ (w : Nat) (d : Dv), ds = [.int (w : Nat), d] ∧ w < 13 ∧ Q (.tup [.int (w : Nat), d]) S
theorem len__law_caught (A : Ad) : ∀ ds S Q X, sp__law_caught A ds S Q X → ds.length = 2 := by rintro _ _ _ _ ⟨_, _, rfl, _⟩; rfl
def r__law_caught (A : Ad) : DS := (dSeq (dMix (dDrop (dCall (sp__law_raise A) (dCons (dVar 0) (dCons (dVar 1) dNil)))) [([(.ref A.BadGround, true), (.ref A.BadProgram, false), (.ref A.BadKind, false), (.ref A.BadGame, false), (.ref A.NoRows, false), (.ref A.BadRow, false), (.ref A.BadChange, false), (.ref A.BadDeed, false), (.ref A.BadDeeds, false), (.ref A.BadTurns, false), (.ref A.Strayed, false), (.ref A.BadText, false), (.ref A.NoName, false)], some 2, fun ea ecls eda => (dRet (dTup (dCons (dC (.int 0)) (dCons (dXf ea ecls eda A.BadGround (Str.ofString "part") (dVar 2)) dNil))))), ([(.ref A.BadGround, false), (.ref A.BadProgram, true), (.ref A.BadKind, false), (.ref A.BadGame, false), (.ref A.NoRows, false), (.ref A.BadRow, false), (.ref A.BadChange, false), (.ref A.BadDeed, false), (.ref A.BadDeeds, false), (.ref A.BadTurns, false), (.ref A.Strayed, false), (.ref A.BadText, false), (.ref A.NoName, false)], some 2, fun ea ecls eda => (dRet (dTup (dCons (dC (.int 1)) (dCons (dXf ea ecls eda A.BadProgram (Str.ofString "part") (dVar 2)) dNil))))), ([(.ref A.BadGround, false), (.ref A.BadProgram, false), (.ref A.BadKind, true), (.ref A.BadGame, false), (.ref A.NoRows, false), (.ref A.BadRow, false), (.ref A.BadChange, false), (.ref A.BadDeed, false), (.ref A.BadDeeds, false), (.ref A.BadTurns, false), (.ref A.Strayed, false), (.ref A.BadText, false), (.ref A.NoName, false)], some 2, fun ea ecls eda => (dRet (dTup (dCons (dC (.int 2)) (dCons (dXf ea ecls eda A.BadKind (Str.ofString "part") (dVar 2)) dNil))))), ([(.ref A.BadGround, false), (.ref A.BadProgram, false), (.ref A.BadKind, false), (.ref A.BadGame, true), (.ref A.NoRows, false), (.ref A.BadRow, false), (.ref A.BadChange, false), (.ref A.BadDeed, false), (.ref A.BadDeeds, false), (.ref A.BadTurns, false), (.ref A.Strayed, false), (.ref A.BadText, false), (.ref A.NoName, false)], some 2, fun ea ecls eda => (dRet (dTup (dCons (dC (.int 3)) (dCons (dXf ea ecls eda A.BadGame (Str.ofString "part") (dVar 2)) dNil))))), ([(.ref A.BadGround, false), (.ref A.BadProgram, false), (.ref A.BadKind, false), (.ref A.BadGame, false), (.ref A.NoRows, true), (.ref A.BadRow, false), (.ref A.BadChange, false), (.ref A.BadDeed, false), (.ref A.BadDeeds, false), (.ref A.BadTurns, false), (.ref A.Strayed, false), (.ref A.BadText, false), (.ref A.NoName, false)], some 2, fun ea ecls eda => (dRet (dTup (dCons (dC (.int 4)) (dCons (dXf ea ecls eda A.NoRows (Str.ofString "index") (dVar 2)) dNil))))), ([(.ref A.BadGround, false), (.ref A.BadProgram, false), (.ref A.BadKind, false), (.ref A.BadGame, false), (.ref A.NoRows, false), (.ref A.BadRow, true), (.ref A.BadChange, false), (.ref A.BadDeed, false), (.ref A.BadDeeds, false), (.ref A.BadTurns, false), (.ref A.Strayed, false), (.ref A.BadText, false), (.ref A.NoName, false)], some 2, fun ea ecls eda => (dRet (dTup (dCons (dC (.int 5)) (dCons (dXf ea ecls eda A.BadRow (Str.ofString "place") (dVar 2)) dNil))))), ([(.ref A.BadGround, false), (.ref A.BadProgram, false), (.ref A.BadKind, false), (.ref A.BadGame, false), (.ref A.NoRows, false), (.ref A.BadRow, false), (.ref A.BadChange, true), (.ref A.BadDeed, false), (.ref A.BadDeeds, false), (.ref A.BadTurns, false), (.ref A.Strayed, false), (.ref A.BadText, false), (.ref A.NoName, false)], some 2, fun ea ecls eda => (dRet (dTup (dCons (dC (.int 6)) (dCons (dXf ea ecls eda A.BadChange (Str.ofString "place") (dVar 2)) dNil))))), ([(.ref A.BadGround, false), (.ref A.BadProgram, false), (.ref A.BadKind, false), (.ref A.BadGame, false), (.ref A.NoRows, false), (.ref A.BadRow, false), (.ref A.BadChange, false), (.ref A.BadDeed, true), (.ref A.BadDeeds, false), (.ref A.BadTurns, false), (.ref A.Strayed, false), (.ref A.BadText, false), (.ref A.NoName, false)], some 2, fun ea ecls eda => (dRet (dTup (dCons (dC (.int 7)) (dCons (dXf ea ecls eda A.BadDeed (Str.ofString "index") (dVar 2)) dNil))))), ([(.ref A.BadGround, false), (.ref A.BadProgram, false), (.ref A.BadKind, false), (.ref A.BadGame, false), (.ref A.NoRows, false), (.ref A.BadRow, false), (.ref A.BadChange, false), (.ref A.BadDeed, false), (.ref A.BadDeeds, true), (.ref A.BadTurns, false), (.ref A.Strayed, false), (.ref A.BadText, false), (.ref A.NoName, false)], some 2, fun ea ecls eda => (dRet (dTup (dCons (dC (.int 8)) (dCons (dXf ea ecls eda A.BadDeeds (Str.ofString "index") (dVar 2)) dNil))))), ([(.ref A.BadGround, false), (.ref A.BadProgram, false), (.ref A.BadKind, false), (.ref A.BadGame, false), (.ref A.NoRows, false), (.ref A.BadRow, false), (.ref A.BadChange, false), (.ref A.BadDeed, false), (.ref A.BadDeeds, false), (.ref A.BadTurns, true), (.ref A.Strayed, false), (.ref A.BadText, false), (.ref A.NoName, false)], some 2, fun ea ecls eda => (dRet (dTup (dCons (dC (.int 9)) (dCons (dXf ea ecls eda A.BadTurns (Str.ofString "index") (dVar 2)) dNil))))), ([(.ref A.BadGround, false), (.ref A.BadProgram, false), (.ref A.BadKind, false), (.ref A.BadGame, false), (.ref A.NoRows, false), (.ref A.BadRow, false), (.ref A.BadChange, false), (.ref A.BadDeed, false), (.ref A.BadDeeds, false), (.ref A.BadTurns, false), (.ref A.Strayed, true), (.ref A.BadText, false), (.ref A.NoName, false)], some 2, fun ea ecls eda => (dRet (dTup (dCons (dC (.int 10)) (dCons (dXf ea ecls eda A.Strayed (Str.ofString "tick") (dVar 2)) dNil))))), ([(.ref A.BadGround, false), (.ref A.BadProgram, false), (.ref A.BadKind, false), (.ref A.BadGame, false), (.ref A.NoRows, false), (.ref A.BadRow, false), (.ref A.BadChange, false), (.ref A.BadDeed, false), (.ref A.BadDeeds, false), (.ref A.BadTurns, false), (.ref A.Strayed, false), (.ref A.BadText, true), (.ref A.NoName, false)], some 2, fun ea ecls eda => (dRet (dTup (dCons (dC (.int 11)) (dCons (dXf ea ecls eda A.BadText (Str.ofString "line") (dVar 2)) dNil))))), ([(.ref A.BadGround, false), (.ref A.BadProgram, false), (.ref A.BadKind, false), (.ref A.BadGame, false), (.ref A.NoRows, false), (.ref A.BadRow, false), (.ref A.BadChange, false), (.ref A.BadDeed, false), (.ref A.BadDeeds, false), (.ref A.BadTurns, false), (.ref A.Strayed, false), (.ref A.BadText, false), (.ref A.NoName, true)], some 2, fun ea ecls eda => (dRet (dTup (dCons (dC (.int 12)) (dCons (dXf ea ecls eda A.NoName (Str.ofString "name") (dVar 2)) dNil)))))])
    (dRet (dTup (dCons (dC (.int 13)) (dCons (dC .non) dNil)))))
theorem rd__law_caught (A : Ad) : RdF (r__law_caught A) 3 (sp__law_caught A) := by
  rintro ds S Q X ⟨w, d, rfl, hw, h⟩
  unfold r__law_caught dMix
  have : w = 0 ∨ w = 1 ∨ w = 2 ∨ w = 3 ∨ w = 4 ∨ w = 5 ∨ w = 6 ∨ w = 7 ∨ w = 8 ∨ w = 9 ∨ w = 10 ∨ w = 11 ∨ w = 12 := by omega
  rcases this with rfl | rfl | rfl | rfl | rfl | rfl | rfl | rfl | rfl | rfl | rfl | rfl | rfl
  · simp_arith only [Bool.true_eq_false]
    refine ⟨0, d, rfl, by decide, fun C f dx e hx => ?_⟩
    cases e
    unfold wMixD
    refine ⟨true, by simp, fun _ a ha => ?_, fun z => by cases z⟩
    simp_arith only [Bool.true_eq_false]
    exact ⟨_, rfl, rfl, rfl, dx, _, d, rfl, put_same, by simp, slK (by decide), S, Sub.new hx, h⟩
  · simp_arith only [Bool.true_eq_false]
    refine ⟨1, d, rfl, by decide, fun C f dx e hx => ?_⟩
    cases e
    unfold wMixD
    refine ⟨false, by simp, (fun z => by cases z), fun _ => ?_⟩
    unfold wMixD
    refine ⟨true, by simp, fun _ a ha => ?_, fun z => by cases z⟩
    simp_arith only [Bool.true_eq_false]
    exact ⟨_, rfl, rfl, rfl, dx, _, d, rfl, put_same, by simp, slK (by decide), S, Sub.new hx, h⟩
  · simp_arith only [Bool.true_eq_false]
    refine ⟨2, d, rfl, by decide, fun C f dx e hx => ?_⟩
    cases e
    unfold wMixD
    refine ⟨false, by simp, (fun z => by cases z), fun _ => ?_⟩
    unfold wMixD
    refine ⟨false, by simp, (fun z => by cases z), fun _ => ?_⟩
    unfold wMixD
    refine ⟨true, by simp, fun _ a ha => ?_, fun z => by cases z⟩
    simp_arith only [Bool.true_eq_false]
    exact ⟨_, rfl, rfl, rfl, dx, _, d, rfl, put_same, by simp, slK (by decide), S, Sub.new hx, h⟩
  · simp_arith only [Bool.true_eq_false]
    refine ⟨3, d, rfl, by decide, fun C f dx e hx => ?_⟩
    cases e
    unfold wMixD
    refine ⟨false, by simp, (fun z => by cases z), fun _ => ?_⟩
    unfold wMixD
    refine ⟨false, by simp, (fun z => by cases z), fun _ => ?_⟩
    unfold wMixD
    refine ⟨false, by simp, (fun z => by cases z), fun _ => ?_⟩
    unfold wMixD
    refine ⟨true, by simp, fun _ a ha => ?_, fun z => by cases z⟩
    simp_arith only [Bool.true_eq_false]
    exact ⟨_, rfl, rfl, rfl, dx, _, d, rfl, put_same, by simp, slK (by decide), S, Sub.new hx, h⟩
  · simp_arith only [Bool.true_eq_false]
    refine ⟨4, d, rfl, by decide, fun C f dx e hx => ?_⟩
    cases e
    unfold wMixD
    refine ⟨false, by simp, (fun z => by cases z), fun _ => ?_⟩
    unfold wMixD
    refine ⟨false, by simp, (fun z => by cases z), fun _ => ?_⟩
    unfold wMixD
    refine ⟨false, by simp, (fun z => by cases z), fun _ => ?_⟩
    unfold wMixD
    refine ⟨false, by simp, (fun z => by cases z), fun _ => ?_⟩
    unfold wMixD
    refine ⟨true, by simp, fun _ a ha => ?_, fun z => by cases z⟩
    simp_arith only [Bool.true_eq_false]
    exact ⟨_, rfl, rfl, rfl, dx, _, d, rfl, put_same, by simp, slK (by decide), S, Sub.new hx, h⟩
  · simp_arith only [Bool.true_eq_false]
    refine ⟨5, d, rfl, by decide, fun C f dx e hx => ?_⟩
    cases e
    unfold wMixD
    refine ⟨false, by simp, (fun z => by cases z), fun _ => ?_⟩
    unfold wMixD
    refine ⟨false, by simp, (fun z => by cases z), fun _ => ?_⟩
    unfold wMixD
    refine ⟨false, by simp, (fun z => by cases z), fun _ => ?_⟩
    unfold wMixD
    refine ⟨false, by simp, (fun z => by cases z), fun _ => ?_⟩
    unfold wMixD
    refine ⟨false, by simp, (fun z => by cases z), fun _ => ?_⟩
    unfold wMixD
    refine ⟨true, by simp, fun _ a ha => ?_, fun z => by cases z⟩
    simp_arith only [Bool.true_eq_false]
    exact ⟨_, rfl, rfl, rfl, dx, _, d, rfl, put_same, by simp, slK (by decide), S, Sub.new hx, h⟩
  · simp_arith only [Bool.true_eq_false]
    refine ⟨6, d, rfl, by decide, fun C f dx e hx => ?_⟩
    cases e
    unfold wMixD
    refine ⟨false, by simp, (fun z => by cases z), fun _ => ?_⟩
    unfold wMixD
    refine ⟨false, by simp, (fun z => by cases z), fun _ => ?_⟩
    unfold wMixD
    refine ⟨false, by simp, (fun z => by cases z), fun _ => ?_⟩
    unfold wMixD
    refine ⟨false, by simp, (fun z => by cases z), fun _ => ?_⟩
    unfold wMixD
    refine ⟨false, by simp, (fun z => by cases z), fun _ => ?_⟩
    unfold wMixD
    refine ⟨false, by simp, (fun z => by cases z), fun _ => ?_⟩
    unfold wMixD
    refine ⟨true, by simp, fun _ a ha => ?_, fun z => by cases z⟩
    simp_arith only [Bool.true_eq_false]
    exact ⟨_, rfl, rfl, rfl, dx, _, d, rfl, put_same, by simp, slK (by decide), S, Sub.new hx, h⟩
  · simp_arith only [Bool.true_eq_false]
    refine ⟨7, d, rfl, by decide, fun C f dx e hx => ?_⟩
    cases e
    unfold wMixD
    refine ⟨false, by simp, (fun z => by cases z), fun _ => ?_⟩
    unfold wMixD
    refine ⟨false, by simp, (fun z => by cases z), fun _ => ?_⟩
    unfold wMixD
    refine ⟨false, by simp, (fun z => by cases z), fun _ => ?_⟩
    unfold wMixD
    refine ⟨false, by simp, (fun z => by cases z), fun _ => ?_⟩
    unfold wMixD
    refine ⟨false, by simp, (fun z => by cases z), fun _ => ?_⟩
    unfold wMixD
    refine ⟨false, by simp, (fun z => by cases z), fun _ => ?_⟩
    unfold wMixD
    refine ⟨false, by simp, (fun z => by cases z), fun _ => ?_⟩
    unfold wMixD
    refine ⟨true, by simp, fun _ a ha => ?_, fun z => by cases z⟩
    simp_arith only [Bool.true_eq_false]
    exact ⟨_, rfl, rfl, rfl, dx, _, d, rfl, put_same, by simp, slK (by decide), S, Sub.new hx, h⟩
  · simp_arith only [Bool.true_eq_false]
    refine ⟨8, d, rfl, by decide, fun C f dx e hx => ?_⟩
    cases e
    unfold wMixD
    refine ⟨false, by simp, (fun z => by cases z), fun _ => ?_⟩
    unfold wMixD
    refine ⟨false, by simp, (fun z => by cases z), fun _ => ?_⟩
    unfold wMixD
    refine ⟨false, by simp, (fun z => by cases z), fun _ => ?_⟩
    unfold wMixD
    refine ⟨false, by simp, (fun z => by cases z), fun _ => ?_⟩
    unfold wMixD
    refine ⟨false, by simp, (fun z => by cases z), fun _ => ?_⟩
    unfold wMixD
    refine ⟨false, by simp, (fun z => by cases z), fun _ => ?_⟩
    unfold wMixD
    refine ⟨false, by simp, (fun z => by cases z), fun _ => ?_⟩
    unfold wMixD
    refine ⟨false, by simp, (fun z => by cases z), fun _ => ?_⟩
    unfold wMixD
    refine ⟨true, by simp, fun _ a ha => ?_, fun z => by cases z⟩
    simp_arith only [Bool.true_eq_false]
    exact ⟨_, rfl, rfl, rfl, dx, _, d, rfl, put_same, by simp, slK (by decide), S, Sub.new hx, h⟩
  · simp_arith only [Bool.true_eq_false]
    refine ⟨9, d, rfl, by decide, fun C f dx e hx => ?_⟩
    cases e
    unfold wMixD
    refine ⟨false, by simp, (fun z => by cases z), fun _ => ?_⟩
    unfold wMixD
    refine ⟨false, by simp, (fun z => by cases z), fun _ => ?_⟩
    unfold wMixD
    refine ⟨false, by simp, (fun z => by cases z), fun _ => ?_⟩
    unfold wMixD
    refine ⟨false, by simp, (fun z => by cases z), fun _ => ?_⟩
    unfold wMixD
    refine ⟨false, by simp, (fun z => by cases z), fun _ => ?_⟩
    unfold wMixD
    refine ⟨false, by simp, (fun z => by cases z), fun _ => ?_⟩
    unfold wMixD
    refine ⟨false, by simp, (fun z => by cases z), fun _ => ?_⟩
    unfold wMixD
    refine ⟨false, by simp, (fun z => by cases z), fun _ => ?_⟩
    unfold wMixD
    refine ⟨false, by simp, (fun z => by cases z), fun _ => ?_⟩
    unfold wMixD
    refine ⟨true, by simp, fun _ a ha => ?_, fun z => by cases z⟩
    simp_arith only [Bool.true_eq_false]
    exact ⟨_, rfl, rfl, rfl, dx, _, d, rfl, put_same, by simp, slK (by decide), S, Sub.new hx, h⟩
  · simp_arith only [Bool.true_eq_false]
    refine ⟨10, d, rfl, by decide, fun C f dx e hx => ?_⟩
    cases e
    unfold wMixD
    refine ⟨false, by simp, (fun z => by cases z), fun _ => ?_⟩
    unfold wMixD
    refine ⟨false, by simp, (fun z => by cases z), fun _ => ?_⟩
    unfold wMixD
    refine ⟨false, by simp, (fun z => by cases z), fun _ => ?_⟩
    unfold wMixD
    refine ⟨false, by simp, (fun z => by cases z), fun _ => ?_⟩
    unfold wMixD
    refine ⟨false, by simp, (fun z => by cases z), fun _ => ?_⟩
    unfold wMixD
    refine ⟨false, by simp, (fun z => by cases z), fun _ => ?_⟩
    unfold wMixD
    refine ⟨false, by simp, (fun z => by cases z), fun _ => ?_⟩
    unfold wMixD
    refine ⟨false, by simp, (fun z => by cases z), fun _ => ?_⟩
    unfold wMixD
    refine ⟨false, by simp, (fun z => by cases z), fun _ => ?_⟩
    unfold wMixD
    refine ⟨false, by simp, (fun z => by cases z), fun _ => ?_⟩
    unfold wMixD
    refine ⟨true, by simp, fun _ a ha => ?_, fun z => by cases z⟩
    simp_arith only [Bool.true_eq_false]
    exact ⟨_, rfl, rfl, rfl, dx, _, d, rfl, put_same, by simp, slK (by decide), S, Sub.new hx, h⟩
  · simp_arith only [Bool.true_eq_false]
    refine ⟨11, d, rfl, by decide, fun C f dx e hx => ?_⟩
    cases e
    unfold wMixD
    refine ⟨false, by simp, (fun z => by cases z), fun _ => ?_⟩
    unfold wMixD
    refine ⟨false, by simp, (fun z => by cases z), fun _ => ?_⟩
    unfold wMixD
    refine ⟨false, by simp, (fun z => by cases z), fun _ => ?_⟩
    unfold wMixD
    refine ⟨false, by simp, (fun z => by cases z), fun _ => ?_⟩
    unfold wMixD
    refine ⟨false, by simp, (fun z => by cases z), fun _ => ?_⟩
    unfold wMixD
    refine ⟨false, by simp, (fun z => by cases z), fun _ => ?_⟩
    unfold wMixD
    refine ⟨false, by simp, (fun z => by cases z), fun _ => ?_⟩
    unfold wMixD
    refine ⟨false, by simp, (fun z => by cases z), fun _ => ?_⟩
    unfold wMixD
    refine ⟨false, by simp, (fun z => by cases z), fun _ => ?_⟩
    unfold wMixD
    refine ⟨false, by simp, (fun z => by cases z), fun _ => ?_⟩
    unfold wMixD
    refine ⟨false, by simp, (fun z => by cases z), fun _ => ?_⟩
    unfold wMixD
    refine ⟨true, by simp, fun _ a ha => ?_, fun z => by cases z⟩
    simp_arith only [Bool.true_eq_false]
    exact ⟨_, rfl, rfl, rfl, dx, _, d, rfl, put_same, by simp, slK (by decide), S, Sub.new hx, h⟩
  · simp_arith only [Bool.true_eq_false]
    refine ⟨12, d, rfl, by decide, fun C f dx e hx => ?_⟩
    cases e
    unfold wMixD
    refine ⟨false, by simp, (fun z => by cases z), fun _ => ?_⟩
    unfold wMixD
    refine ⟨false, by simp, (fun z => by cases z), fun _ => ?_⟩
    unfold wMixD
    refine ⟨false, by simp, (fun z => by cases z), fun _ => ?_⟩
    unfold wMixD
    refine ⟨false, by simp, (fun z => by cases z), fun _ => ?_⟩
    unfold wMixD
    refine ⟨false, by simp, (fun z => by cases z), fun _ => ?_⟩
    unfold wMixD
    refine ⟨false, by simp, (fun z => by cases z), fun _ => ?_⟩
    unfold wMixD
    refine ⟨false, by simp, (fun z => by cases z), fun _ => ?_⟩
    unfold wMixD
    refine ⟨false, by simp, (fun z => by cases z), fun _ => ?_⟩
    unfold wMixD
    refine ⟨false, by simp, (fun z => by cases z), fun _ => ?_⟩
    unfold wMixD
    refine ⟨false, by simp, (fun z => by cases z), fun _ => ?_⟩
    unfold wMixD
    refine ⟨false, by simp, (fun z => by cases z), fun _ => ?_⟩
    unfold wMixD
    refine ⟨false, by simp, (fun z => by cases z), fun _ => ?_⟩
    unfold wMixD
    refine ⟨true, by simp, fun _ a ha => ?_, fun z => by cases z⟩
    simp_arith only [Bool.true_eq_false]
    exact ⟨_, rfl, rfl, rfl, dx, _, d, rfl, put_same, by simp, slK (by decide), S, Sub.new hx, h⟩
def sp__law_based (A : Ad) : SpD := fun ds S Q _ => ∃ (w : Nat) (d : Dv), ds = [.int (w : Nat), d] ∧ w < 13 ∧ Q (.bl true) S
theorem len__law_based (A : Ad) : ∀ ds S Q X, sp__law_based A ds S Q X → ds.length = 2 := by rintro _ _ _ _ ⟨_, _, rfl, _⟩; rfl
def r__law_based (A : Ad) : DS := (dSeq (dTry (dDrop (dCall (sp__law_raise A) (dCons (dVar 0) (dCons (dVar 1) dNil)))) [([(.ref A.BadGround, true), (.ref A.BadProgram, true), (.ref A.BadKind, true), (.ref A.BadGame, true), (.ref A.NoRows, true), (.ref A.BadRow, true), (.ref A.BadChange, true), (.ref A.BadDeed, true), (.ref A.BadDeeds, true), (.ref A.BadTurns, true), (.ref A.Strayed, true), (.ref A.BadText, true), (.ref A.NoName, true)], (dRet (dC (.bl true))))])
    (dRet (dC (.bl false))))
theorem rd__law_based (A : Ad) : RdF (r__law_based A) 2 (sp__law_based A) := by
  rintro ds S Q X ⟨w, d, rfl, hw, h⟩
  unfold r__law_based dTry
  simp_arith only [Bool.true_eq_false]
  refine ⟨w, d, rfl, hw, fun C f dx e hx => ?_⟩
  unfold wD
  refine ⟨true, ?_, fun _ => ?_, fun z => by cases z⟩
  · have : w = 0 ∨ w = 1 ∨ w = 2 ∨ w = 3 ∨ w = 4 ∨ w = 5 ∨ w = 6 ∨ w = 7 ∨ w = 8 ∨ w = 9 ∨ w = 10 ∨ w = 11 ∨ w = 12 := by omega
    rcases this with rfl | rfl | rfl | rfl | rfl | rfl | rfl | rfl | rfl | rfl | rfl | rfl | rfl <;> (cases e; simp)
  · simp_arith only [Bool.true_eq_false]
    exact ⟨S, Sub.new hx, h⟩
end Lw

--CLS Ground
namespace Lw
open PySem PySem.Spec PyProof.Rows L2 VD
local macro_rules
  | `(tactic| simp_arith only [$xs,*]) => `(tactic| simp only [dSeq, dAsg, dRet, dRetN, dDrop, dRaise, dBreak, dCont, dPar, dAug, dFor, dNext, dSetF, dAugF, dRaiseF, dIfS, dTest, dOp, dVar, dC, dCB, dCons, dNil, dCall, dAndV, dOrV, dNotV, dAndT, dOrT, dNotT, dIf, dTup, dLst, dLstV, dSl, dSlV, oSome, oNone, dNeg, gN, gT, gConsD, gNilD, gSubD, gFldD, dChain, dLc, dBM, isLst, iSeqD, iR1, iR2, iR3, dYes, isn_non, isn_bl, isn_int, isn_str, isn_ref, isn_tup, isn_rol, isn_obj, rdIx_tup, rdIx_rol, rdIx_put, rdSet, rdLen_tup, rdLen_rol, rdLen_str, rdLen_put, rdAppend, rdExt, rdPopAt, rdIsB, isBlV, rdStrI, rdIntS, dFrz, dFld, insOf_put, dMeth, lstOf_rol, lstOf_put, seqOf_tup, seqOf_rol, seqOf_put, frz_tup, frz_rol, frz_int, frz_bl, frz_non, frz_str, frz_obj, startN, wipeD, List.map_cons, List.map_nil, List.length_cons, List.length_nil, Nat.zero_add, Nat.sub_self, Nat.reduceAdd, Nat.reduceSub, List.replicate_succ, List.replicate_zero, List.cons_append, List.nil_append, List.append_nil, List.getElem?_cons_zero, List.getElem?_cons_succ, List.set_cons_zero, List.set_cons_succ, Option.some.injEq, exists_eq_left', atI_0, atI_1, atI_2, atI_3, atI_4, atI_5, atI_6, atI_7, ixN_50, ixN_51, ixN_52, ixN_53, ixN_54, ixN_30, ixN_31, ixN_32, put_same, put_put, true_and, and_true, decide_true, decide_false, Bool.not_true, Bool.not_false, Bool.false_eq_true, if_true, if_false, decide_eq_true_eq, Bool.not_eq_true', decide_eq_false_iff_not, mem_one, ex_one, and_self, xd_mk, qAdd_i, qAdd_t, qAdd_s, qAdd_l, qMul_i, qMul_t, qMul_l, qSub_i, qDiv_i, qMod_i, qPow_i, qIAdd_i, qEq_i, qEq_b, qEq_s, qCmp_i, qIsN, qSl_t, qSl_l, qSl_s, qInt_i, qInt_b, qInt1, qMax, qMin, qList_t, qList_l, i_Ground, l_Ground, h_Ground_eq, g_Ground_rows, p_Ground_rows, k_Ground_rows, g_Ground_wide, p_Ground_wide, k_Ground_wide, g_Ground_high, p_Ground_high, k_Ground_high, $xs,*])
theorem held_ex {A : Ad} {S : Sto} {d : Dv} {as : List Addr} (hp : Paired (Held S d) as (erL A)) {k : Nat} (hk : k < 47) : ∃ a, as[k]? = some a ∧ Ex A S k (.ref a) := by
  have at_ : ∀ {as : List Addr} {ms : List (Addr × Option Str)} {n : Nat} {m : Addr × Option Str}, Paired (Held S d) as ms → ms[n]? = some m → ∃ a, as[n]? = some a ∧ Held S d a m := by
    intro as ms n m p
    induction p generalizing n with
    | nil => intro h; simp at h
    | cons a b ih =>
      intro h
      cases n with
      | zero => cases h; exact ⟨_, rfl, a⟩
      | succ n => exact ih h
  obtain ⟨m, hm⟩ : ∃ m, (erL A)[k]? = some m := ⟨_, List.getElem?_eq_getElem (by rw [erL_len]; exact hk)⟩
  obtain ⟨a, ha, hh⟩ := at_ hp hm
  have h1 : (exL A ++ [A.WorldError])[k]? = some m.1 := by
    rw [List.getElem?_append_left (by rw [← erL_ex, List.length_map, erL_len]; exact hk), ← erL_ex, List.getElem?_map, hm]
    rfl
  obtain ⟨C, f⟩ := m
  refine ⟨a, ha, a, C, ?_⟩
  cases f with
  | none => exact ⟨none, rfl, h1, hh, fun dd e => by cases e⟩
  | some f =>
    obtain ⟨dd, h2, h3⟩ := hh
    exact ⟨some dd, rfl, h1, h2, fun d2 e => by cases e; exact ⟨_, h3⟩⟩
def isK (k : Nat) : Dv → Bool
  | .int i => decide (i = (k : Nat))
  | _ => false
theorem only_k {k : Nat} (h : k < 47) : (rangeL 0 47 1).filter (isK k) = [.int (k : Nat)] := by
  have : k = 0 ∨ k = 1 ∨ k = 2 ∨ k = 3 ∨ k = 4 ∨ k = 5 ∨ k = 6 ∨ k = 7 ∨ k = 8 ∨ k = 9 ∨ k = 10 ∨ k = 11 ∨ k = 12 ∨ k = 13 ∨ k = 14 ∨ k = 15 ∨ k = 16 ∨ k = 17 ∨ k = 18 ∨ k = 19 ∨ k = 20 ∨ k = 21 ∨ k = 22 ∨ k = 23 ∨ k = 24 ∨ k = 25 ∨ k = 26 ∨ k = 27 ∨ k = 28 ∨ k = 29 ∨ k = 30 ∨ k = 31 ∨ k = 32 ∨ k = 33 ∨ k = 34 ∨ k = 35 ∨ k = 36 ∨ k = 37 ∨ k = 38 ∨ k = 39 ∨ k = 40 ∨ k = 41 ∨ k = 42 ∨ k = 43 ∨ k = 44 ∨ k = 45 ∨ k = 46 := by omega
  rcases this with rfl | rfl | rfl | rfl | rfl | rfl | rfl | rfl | rfl | rfl | rfl | rfl | rfl | rfl | rfl | rfl | rfl | rfl | rfl | rfl | rfl | rfl | rfl | rfl | rfl | rfl | rfl | rfl | rfl | rfl | rfl | rfl | rfl | rfl | rfl | rfl | rfl | rfl | rfl | rfl | rfl | rfl | rfl | rfl | rfl | rfl | rfl <;> rfl
theorem th_shw {n : Nat} {d : Dv} (h : Th n d) (hn : n ≤ 38) : shwR d = true := by
  obtain ⟨h1, h2, h3, h4⟩ := th_ok h
  unfold shwR
  rw [h1, h2, decide_eq_true (by omega), decide_eq_true (slK (by omega))]
  rfl
def r_law (A : Ad) : DS := (dSeq (dAsg (dCall (sp__law_hand A) (dCons (dVar 0) dNil)) (gN 1))
    (dSeq (dAsg (dCall (sp__law_take A) (dCons (dVar 1) (dCons (dC (.int 13)) dNil))) (gN 2))
    (dSeq (dAsg (dCall (sp__law_thing A) (dCons (dVar 1) dNil)) (gN 3))
    (dSeq (dAsg (dCB rdReprR (dCons (dVar 3) dNil)) (gN 4))
    (dSeq (dAsg (dCall (sp__law_all A) (dCons (dVar 3) dNil)) (gN 5))
    (dSeq (dFor (iR1 (dCons (dCB rdLen (dCons (dVar 5) dNil)) dNil)) (gN 6) (dSeq (dIfS (dOrT (dNotT (dTest (dCB (rdIsV (IsP A)) (dCons (dOp rdIx (dVar 5) (dVar 6)) (dCons (dC (.ref A.WorldError)) dNil))))) (dOrT (dNotT (dTest (dCB (rdIsV (IsP A)) (dCons (dOp rdIx (dVar 5) (dVar 6)) (dCons (dC (.ty "ValueError")) dNil))))) (dTest (dCall (sp__law_alien A) (dCons (dOp rdIx (dVar 5) (dVar 6)) dNil))))) (dRet (dC (.bl false))) dNext)
    (dSeq (dAsg (dCall (sp__law_marks A) (dCons (dOp rdIx (dVar 5) (dVar 6)) dNil)) (gN 7))
    (dIfS (dTest (dOp rdNe (dFrz (dLc (iR1 (dCons (dCB rdLen (dCons (dVar 7) dNil)) dNil)) (gN 10) (dTest (dOp rdIx (dVar 7) (dVar 10))) (dVar 10) [10])) (dLstV (dCons (dVar 6) dNil)))) (dRet (dC (.bl false))) dNext))))
    (dSeq (dFor (iSeqD (dCall (sp__law_fields A) (dCons (dVar 5) dNil))) (gN 8) (dIfS (dTest (dOp rdNe (dCB rdReprR (dCons (dVar 8) dNil)) (dVar 4))) (dRet (dC (.bl false))) dNext))
    (dSeq (dIfS (dOrT (dTest (dCB (rdIsV (IsP A)) (dCons (dMkX (.ref A.WorldError)) (dCons (dC (.ref A.NoNumber)) dNil)))) (dNotT (dTest (dCB (rdIsV (IsP A)) (dCons (dMkX (.ref A.WorldError)) (dCons (dC (.ty "ValueError")) dNil)))))) (dRet (dC (.bl false))) dNext)
    (dSeq (dAsg (dCall (sp__law_caught A) (dCons (dVar 2) (dCons (dVar 3) dNil))) (gN 9))
    (dRet (dAndV (dOp rdEq (dOp rdIx (dVar 9) (dC (.int 0))) (dVar 2)) (dAndV (dOp rdEq (dCB rdReprR (dCons (dOp rdIx (dVar 9) (dC (.int 1))) dNil)) (dVar 4)) (dCall (sp__law_based A) (dCons (dVar 2) (dCons (dVar 3) dNil)))))))))))))))
theorem rd_law (A : Ad) : Rd (r_law A) 11 spLaw := by
  rintro ds S Q X ⟨script, rfl, hl, rfl, q⟩
  unfold r_law
  refine cut_seq (fun ρ T => ∃ a, IsH a T T ∧ ρ = [some (.rol (List.map Dv.int script)), some (.ref a), none, none, none, none, none, none, none, none, none]) (fun N hN => ?_) (fun ρ T hM => ?_)
  · simp_arith only [and_self]
    exact ⟨script, rfl, hl, fun a T _ hH => hN _ _ ⟨a, hH.self, rfl⟩⟩
  obtain ⟨a, hT, rfl⟩ := hM
  refine cut_seq (fun ρ U => ∃ w : Nat, w < 13 ∧ IsH a U U ∧ ρ = [some (.rol (List.map Dv.int script)), some (.ref a), some (.int (w : Nat)), none, none, none, none, none, none, none, none]) (fun N hN => ?_) (fun ρ U hM => ?_)
  · simp_arith only [and_self]
    (refine ask hT (fun r V h1 a1 b1 => ?_) (by first | decide | omega) (by first | decide | omega); try simp_arith only [and_self])
    exact hN _ _ ⟨r.toNat, by omega, h1.self, by rw [show ((r.toNat : Nat) : Int) = r by omega]⟩
  clear hT
  obtain ⟨w, hw, hU, rfl⟩ := hM
  refine cut_seq (fun ρ T => ∃ n d, n ≤ 38 ∧ Th n d ∧ ρ = [some (.rol (List.map Dv.int script)), some (.ref a), some (.int (w : Nat)), some d, none, none, none, none, none, none, none]) (fun N hN => ?_) (fun ρ T hM => ?_)
  · simp_arith only [and_self]
    exact ⟨a, _, rfl, hU, fun n d V hV hn hd => hN _ _ ⟨n, d, hn, hd, rfl⟩⟩
  clear hU
  obtain ⟨n, d, hn, hd, rfl⟩ := hM
  have hs := th_shw hd hn
  refine cut_seq (fun ρ U => ρ = [some (.rol (List.map Dv.int script)), some (.ref a), some (.int (w : Nat)), some d, some (.str (pyR d).shown), none, none, none, none, none, none]) (fun N hN => ?_) (fun ρ U hM => ?_)
  · simp_arith only [and_self]
    exact ⟨hs, hN _ _ rfl⟩
  subst hM
  refine cut_seq (fun ρ T => ∃ as, Paired (Held T d) as (erL A) ∧ ρ = [some (.rol (List.map Dv.int script)), some (.ref a), some (.int (w : Nat)), some d, some (.str (pyR d).shown), some (.rol (as.map Dv.ref)), none, none, none, none, none]) (fun N hN => ?_) (fun ρ T hM => ?_)
  · simp_arith only [and_self]
    exact ⟨d, rfl, fun as T _ hp => hN _ _ ⟨as, hp, rfl⟩⟩
  obtain ⟨as, hp, rfl⟩ := hM
  have la : as.length = 47 := by rw [paired_len hp, erL_len]
  refine cut_seq (fun ρ U => T = U ∧ ∃ y6 y7 y10, ρ = [some (.rol (List.map Dv.int script)), some (.ref a), some (.int (w : Nat)), some d, some (.str (pyR d).shown), some (.rol (as.map Dv.ref)), y6, y7, none, none, y10]) (fun N hN => ?_) (fun ρ U hM => ?_)
  · simp_arith only [and_self]
    rw [List.length_map, la]
    refine for_go (fun j ρ U => T = U ∧ ∃ y6 y7 y10, ρ = [some (.rol (List.map Dv.int script)), some (.ref a), some (.int (w : Nat)), some d, some (.str (pyR d).shown), some (.rol (as.map Dv.ref)), y6, y7, none, none, y10]) ⟨rfl, _, _, _, rfl⟩ (fun _ _ _ _ _ => by first | rfl | exact trivial) (fun k z ρ U hz hw => ?_) fun ρ U hw => hN _ _ hw
    obtain ⟨rfl, y6, y7, y10, rfl⟩ := hw
    obtain ⟨hk, rfl⟩ := rangeL_mem hz
    have hk : k < 47 := hk
    rw [Int.zero_add]
    obtain ⟨b, hb, he⟩ := held_ex hp hk
    have hix : atI (as.map Dv.ref) ((k : Nat) : Int) = some (.ref b) := by rw [atI_nn (by omega), Int.toNat_natCast, List.getElem?_map, hb]; rfl
    simp only [dIfS, dTest, dOp, dVar, dC, dCB, dCons, dNil, dCall, dAndV, dOrV, dNotV, dAndT, dOrT, dNotT, dIf, dTup, dLst, dLstV, dSl, dSlV, oSome, oNone, dNeg, gN, gT, gConsD, gNilD, gSubD, gFldD, dChain, dLc, dBM, isLst, iSeqD, iR1, iR2, iR3, dYes, isn_non, isn_bl, isn_int, isn_str, isn_ref, isn_tup, isn_rol, isn_obj, rdIx_tup, rdIx_rol, rdIx_put, rdSet, rdLen_tup, rdLen_rol, rdLen_str, rdLen_put, rdAppend, rdExt, rdPopAt, rdIsB, isBlV, rdStrI, rdIntS, dFrz, dFld, insOf_put, dMeth, lstOf_rol, lstOf_put, seqOf_tup, seqOf_rol, seqOf_put, frz_tup, frz_rol, frz_int, frz_bl, frz_non, frz_str, frz_obj, startN, wipeD, List.map_cons, List.map_nil, List.length_cons, List.length_nil, Nat.zero_add, Nat.sub_self, Nat.reduceAdd, Nat.reduceSub, List.replicate_succ, List.replicate_zero, List.cons_append, List.nil_append, List.append_nil, List.getElem?_cons_zero, List.getElem?_cons_succ, List.set_cons_zero, List.set_cons_succ, Option.some.injEq, exists_eq_left', atI_0, atI_1, atI_2, atI_3, atI_4, atI_5, atI_6, atI_7, ixN_50, ixN_51, ixN_52, ixN_53, ixN_54, ixN_30, ixN_31, ixN_32, put_same, put_put, true_and, and_true, decide_true, decide_false, Bool.not_true, Bool.not_false, Bool.false_eq_true, if_true, if_false, decide_eq_true_eq, Bool.not_eq_true', decide_eq_false_iff_not, mem_one, ex_one, and_self, xd_mk, qAdd_i, qAdd_t, qAdd_s, qAdd_l, qMul_i, qMul_t, qMul_l, qSub_i, qDiv_i, qMod_i, qPow_i, qIAdd_i, qEq_i, qEq_b, qEq_s, qCmp_i, qIsN, qSl_t, qSl_l, qSl_s, qInt_i, qInt_b, qInt1, qMax, qMin, qList_t, qList_l, i_Ground, l_Ground, h_Ground_eq, g_Ground_rows, p_Ground_rows, k_Ground_rows, g_Ground_wide, p_Ground_wide, k_Ground_wide, g_Ground_high, p_Ground_high, k_Ground_high]
    refine cut_seq (fun ρ U => T = U ∧ ρ = [some (.rol (List.map Dv.int script)), some (.ref a), some (.int (w : Nat)), some d, some (.str (pyR d).shown), some (.rol (as.map Dv.ref)), some (.int (k : Nat)), y7, none, none, y10]) (fun N2 hN2 => ?_) (fun ρ U hM => ?_)
    · simp_arith only [and_self]
      refine ⟨_, hix, he.is rfl (.inr (.inl ⟨rfl, rfl⟩)) ?_⟩
      simp_arith only [Bool.true_eq_false]
      refine ⟨_, hix, he.is rfl (.inr (.inr (.inl ⟨rfl, rfl⟩))) ?_⟩
      simp_arith only [Bool.true_eq_false]
      refine ⟨_, hix, _, k, rfl, he, ?_⟩
      simp_arith only [Bool.true_eq_false]
      exact hN2 _ _ ⟨rfl, rfl⟩
    obtain ⟨rfl, rfl⟩ := hM
    refine cut_seq (fun ρ U => T = U ∧ ρ = [some (.rol (List.map Dv.int script)), some (.ref a), some (.int (w : Nat)), some d, some (.str (pyR d).shown), some (.rol (as.map Dv.ref)), some (.int (k : Nat)), some (.rol (BL k 0 47)), none, none, y10]) (fun N2 hN2 => ?_) (fun ρ U hM => ?_)
    · simp_arith only [and_self]
      exact ⟨_, hix, .ref b, k, rfl, he, hN2 _ _ ⟨rfl, rfl⟩⟩
    obtain ⟨rfl, rfl⟩ := hM
    simp_arith only [and_self]
    refine lcV_filter (isK k) id (by rw [rangeL_len]; exact slK (by rw [BL_len]; decide)) (fun _ _ _ => by first | rfl | exact trivial) (fun x hx U K2 N2 hs2 k1 k2 => ?_) ?_
    · obtain ⟨i, hi⟩ := List.getElem?_of_mem hx
      obtain ⟨hi2, rfl⟩ := rangeL_mem hi
      rw [Int.zero_add] at k1 k2 ⊢
      rw [BL_len] at hi2
      have hi2 : i < 47 := hi2
      simp_arith only [and_self]
      refine ⟨.bl (decide (k = 0 + i)), ?_, ?_⟩
      · rw [atI_nn (by omega), Int.toNat_natCast]
        unfold BL
        rw [List.getElem?_map, List.getElem?_range hi2]
        rfl
      · by_cases c : k = 0 + i
        · rw [decide_eq_true c]
          simp_arith only [Bool.true_eq_false]
          exact k1 (decide_eq_true (by omega))
        · rw [decide_eq_false c]
          simp_arith only [Bool.true_eq_false]
          exact k2 (decide_eq_false (by omega))
    · rw [BL_len, List.map_id]
      have er : ∀ (Q3 : List Dv → Prop), Q3 [.int (k : Nat)] → Q3 (List.filter (isK k) (rangeL 0 47 1)) := fun Q3 q3 => by rw [only_k hk]; exact q3
      refine er (fun l => 1 ≤ sizeLine ∧ rdNe (.rol l) (.rol [.int (k : Nat)]) T _) ?_
      have hc : clean 2 (.rol [.int (k : Nat)]) := fun x hx => by rw [List.mem_singleton.mp hx]; trivial
      refine ⟨slK (by decide), ⟨shp_clean (n := 2) hc, shp_clean (n := 2) hc⟩, ?_⟩
      have en : eqvD (valOf (.rol [.int (k : Nat)]) T) (valOf (.rol [.int (k : Nat)]) T) = true := eqv_same (n := 2) hc
      rw [en]
      dsimp only
      rw [if_neg (by decide)]
      exact ⟨rfl, _, _, _, rfl⟩
  obtain ⟨rfl, y6, y7, y10, rfl⟩ := hM
  refine cut_seq (fun ρ U => T = U ∧ ∃ y8, ρ = [some (.rol (List.map Dv.int script)), some (.ref a), some (.int (w : Nat)), some d, some (.str (pyR d).shown), some (.rol (as.map Dv.ref)), y6, y7, y8, none, y10]) (fun N hN => ?_) (fun ρ U hM => ?_)
  · simp_arith only [and_self]
    refine ⟨d, as, rfl, hp, ?_⟩
    try simp_arith only [and_self]
    refine for_go (fun j ρ U => T = U ∧ ∃ y8, ρ = [some (.rol (List.map Dv.int script)), some (.ref a), some (.int (w : Nat)), some d, some (.str (pyR d).shown), some (.rol (as.map Dv.ref)), y6, y7, y8, none, y10]) ⟨rfl, _, rfl⟩ (fun _ _ _ _ _ => by first | rfl | exact trivial) (fun k z ρ U hz hw => ?_) fun ρ U hw => hN _ _ hw
    obtain ⟨rfl, y8, rfl⟩ := hw
    obtain rfl : z = d := by
      have := List.mem_of_getElem? hz
      simpa using this
    simp_arith only [and_self]
    refine ⟨hs, ?_⟩
    simp_arith only [and_self]
    exact ⟨_, rfl⟩
  obtain ⟨rfl, y8, rfl⟩ := hM
  refine cut_seq (fun ρ U => ρ = [some (.rol (List.map Dv.int script)), some (.ref a), some (.int (w : Nat)), some d, some (.str (pyR d).shown), some (.rol (as.map Dv.ref)), y6, y7, y8, none, y10]) (fun N hN => ?_) (fun ρ U hM => ?_)
  · simp_arith only [and_self]
    intro b hb
    have ex : ∀ {S : Sto} {b : Addr}, Ex A (put S b (.ex (.ref A.WorldError) none)) 47 (.ref b) := fun {S b} => ⟨b, A.WorldError, none, rfl, rfl, put_same, fun dd e => by cases e⟩
    refine ex.is rfl (.inl ⟨0, A.NoNumber, rfl, rfl, rfl⟩) ?_
    simp_arith only [Bool.true_eq_false]
    intro b2 hb2
    refine ex.is rfl (.inr (.inr (.inl ⟨rfl, rfl⟩))) ?_
    simp_arith only [Bool.true_eq_false]
    exact hN _ _ rfl
  subst hM
  refine cut_seq (fun ρ T => ρ = [some (.rol (List.map Dv.int script)), some (.ref a), some (.int (w : Nat)), some d, some (.str (pyR d).shown), some (.rol (as.map Dv.ref)), y6, y7, y8, some (.tup [.int (w : Nat), d]), y10]) (fun N hN => ?_) (fun ρ T hM => ?_)
  · simp_arith only [and_self]
    exact ⟨w, d, rfl, hw, hN _ _ rfl⟩
  subst hM
  simp_arith only [and_self]
  refine ⟨hs, ?_⟩
  simp_arith only [and_self]
  exact ⟨w, d, rfl, hw, q _⟩
end Lw

namespace Lw
open PySem PySem.Spec PyProof.Rows L2 VD
/-! terms, printed by gen.py from the law k00 -/
def topS (i : Nat) : Stmt := PySem.Challenge.pw_guessedworlds_k00_errors_keep_what_is_pa.main.body.getD i (.Pass ⟨0, 0, 0, 0⟩)
abbrev s__law_hand : Stmt := topS 50
abbrev N__law_hand : List Str := [Str.ofString "_law_script"]
theorem sc__law_hand : FnScope N__law_hand [Str.ofString "_law_script"] (defScope s__law_hand) := ⟨rfl, rfl, rfl, by decide +kernel, rfl, by decide +kernel, by decide +kernel⟩
abbrev s__law_take : Stmt := topS 51
abbrev N__law_take : List Str := [Str.ofString "_law_hand_here", Str.ofString "_law_many", Str.ofString "_law_cell", Str.ofString "_law_found", Str.ofString "_law_number"]
theorem sc__law_take : FnScope N__law_take [Str.ofString "_law_hand_here", Str.ofString "_law_many"] (defScope s__law_take) := ⟨rfl, rfl, rfl, by decide +kernel, rfl, by decide +kernel, by decide +kernel⟩
abbrev s__law_odd : Stmt := topS 52
abbrev N__law_odd : List Str := [Str.ofString "_law_hand_here", Str.ofString "_law_way"]
theorem sc__law_odd : FnScope N__law_odd [Str.ofString "_law_hand_here"] (defScope s__law_odd) := ⟨rfl, rfl, rfl, by decide +kernel, rfl, by decide +kernel, by decide +kernel⟩
abbrev s__law_thing : Stmt := topS 53
abbrev N__law_thing : List Str := [Str.ofString "_law_hand_here", Str.ofString "_law_thing_here", Str.ofString "_law_k"]
theorem sc__law_thing : FnScope N__law_thing [Str.ofString "_law_hand_here"] (defScope s__law_thing) := ⟨rfl, rfl, rfl, by decide +kernel, rfl, by decide +kernel, by decide +kernel⟩
abbrev s__law_all : Stmt := topS 54
abbrev N__law_all : List Str := [Str.ofString "_law_thing_here", Str.ofString "_law_first", Str.ofString "_law_second", Str.ofString "_law_third", Str.ofString "_law_fourth", Str.ofString "_law_fifth"]
theorem sc__law_all : FnScope N__law_all [Str.ofString "_law_thing_here"] (defScope s__law_all) := ⟨rfl, rfl, rfl, by decide +kernel, rfl, by decide +kernel, by decide +kernel⟩
abbrev s__law_marks : Stmt := topS 55
abbrev N__law_marks : List Str := [Str.ofString "_law_one", Str.ofString "_law_first", Str.ofString "_law_second", Str.ofString "_law_third", Str.ofString "_law_fourth", Str.ofString "_law_fifth", Str.ofString "_law_sixth"]
theorem sc__law_marks : FnScope N__law_marks [Str.ofString "_law_one"] (defScope s__law_marks) := ⟨rfl, rfl, rfl, by decide +kernel, rfl, by decide +kernel, by decide +kernel⟩
abbrev s__law_alien : Stmt := topS 56
abbrev N__law_alien : List Str := [Str.ofString "_law_one"]
theorem sc__law_alien : FnScope N__law_alien [Str.ofString "_law_one"] (defScope s__law_alien) := ⟨rfl, rfl, rfl, by decide +kernel, rfl, by decide +kernel, by decide +kernel⟩
abbrev s__law_fields : Stmt := topS 57
abbrev N__law_fields : List Str := [Str.ofString "_law_errors", Str.ofString "_law_first", Str.ofString "_law_second"]
theorem sc__law_fields : FnScope N__law_fields [Str.ofString "_law_errors"] (defScope s__law_fields) := ⟨rfl, rfl, rfl, by decide +kernel, rfl, by decide +kernel, by decide +kernel⟩
abbrev s__law_raise : Stmt := topS 58
abbrev N__law_raise : List Str := [Str.ofString "_law_which", Str.ofString "_law_thing_here"]
theorem sc__law_raise : FnScope N__law_raise [Str.ofString "_law_which", Str.ofString "_law_thing_here"] (defScope s__law_raise) := ⟨rfl, rfl, rfl, by decide +kernel, rfl, by decide +kernel, by decide +kernel⟩
abbrev s__law_caught : Stmt := topS 59
abbrev N__law_caught : List Str := [Str.ofString "_law_which", Str.ofString "_law_thing_here", Str.ofString "error"]
theorem sc__law_caught : FnScope N__law_caught [Str.ofString "_law_which", Str.ofString "_law_thing_here"] (defScope s__law_caught) := ⟨rfl, rfl, rfl, by decide +kernel, rfl, by decide +kernel, by decide +kernel⟩
abbrev s__law_based : Stmt := topS 60
abbrev N__law_based : List Str := [Str.ofString "_law_which", Str.ofString "_law_thing_here"]
theorem sc__law_based : FnScope N__law_based [Str.ofString "_law_which", Str.ofString "_law_thing_here"] (defScope s__law_based) := ⟨rfl, rfl, rfl, by decide +kernel, rfl, by decide +kernel, by decide +kernel⟩
abbrev s_law : Stmt := topS 61
abbrev N_law : List Str := [Str.ofString "_law_script", Str.ofString "_law_hand_here", Str.ofString "_law_which", Str.ofString "_law_thing_here", Str.ofString "_law_due", Str.ofString "_law_errors", Str.ofString "_law_k", Str.ofString "_law_marks_here", Str.ofString "_law_kept", Str.ofString "_law_caught_here", Str.ofString "_law_j"]
theorem sc_law : FnScope N_law [Str.ofString "_law_script"] (defScope s_law) := ⟨rfl, rfl, rfl, by decide +kernel, rfl, by decide +kernel, by decide +kernel⟩
abbrev s_BadGround_init : Stmt := inClass (topS 4) 0
theorem sc_BadGround_init : FnScope [Str.ofString "self", Str.ofString "part"] [Str.ofString "self", Str.ofString "part"] (defScope s_BadGround_init) := ⟨rfl, rfl, rfl, by decide +kernel, rfl, by decide +kernel, by decide +kernel⟩
abbrev s_BadProgram_init : Stmt := inClass (topS 5) 0
theorem sc_BadProgram_init : FnScope [Str.ofString "self", Str.ofString "part"] [Str.ofString "self", Str.ofString "part"] (defScope s_BadProgram_init) := ⟨rfl, rfl, rfl, by decide +kernel, rfl, by decide +kernel, by decide +kernel⟩
abbrev s_BadKind_init : Stmt := inClass (topS 6) 0
theorem sc_BadKind_init : FnScope [Str.ofString "self", Str.ofString "part"] [Str.ofString "self", Str.ofString "part"] (defScope s_BadKind_init) := ⟨rfl, rfl, rfl, by decide +kernel, rfl, by decide +kernel, by decide +kernel⟩
abbrev s_BadGame_init : Stmt := inClass (topS 7) 0
theorem sc_BadGame_init : FnScope [Str.ofString "self", Str.ofString "part"] [Str.ofString "self", Str.ofString "part"] (defScope s_BadGame_init) := ⟨rfl, rfl, rfl, by decide +kernel, rfl, by decide +kernel, by decide +kernel⟩
abbrev s_NoRows_init : Stmt := inClass (topS 14) 0
theorem sc_NoRows_init : FnScope [Str.ofString "self", Str.ofString "index"] [Str.ofString "self", Str.ofString "index"] (defScope s_NoRows_init) := ⟨rfl, rfl, rfl, by decide +kernel, rfl, by decide +kernel, by decide +kernel⟩
abbrev s_BadRow_init : Stmt := inClass (topS 17) 0
theorem sc_BadRow_init : FnScope [Str.ofString "self", Str.ofString "place"] [Str.ofString "self", Str.ofString "place"] (defScope s_BadRow_init) := ⟨rfl, rfl, rfl, by decide +kernel, rfl, by decide +kernel, by decide +kernel⟩
abbrev s_BadChange_init : Stmt := inClass (topS 18) 0
theorem sc_BadChange_init : FnScope [Str.ofString "self", Str.ofString "place"] [Str.ofString "self", Str.ofString "place"] (defScope s_BadChange_init) := ⟨rfl, rfl, rfl, by decide +kernel, rfl, by decide +kernel, by decide +kernel⟩
abbrev s_BadDeed_init : Stmt := inClass (topS 24) 0
theorem sc_BadDeed_init : FnScope [Str.ofString "self", Str.ofString "index"] [Str.ofString "self", Str.ofString "index"] (defScope s_BadDeed_init) := ⟨rfl, rfl, rfl, by decide +kernel, rfl, by decide +kernel, by decide +kernel⟩
abbrev s_BadDeeds_init : Stmt := inClass (topS 31) 0
theorem sc_BadDeeds_init : FnScope [Str.ofString "self", Str.ofString "index"] [Str.ofString "self", Str.ofString "index"] (defScope s_BadDeeds_init) := ⟨rfl, rfl, rfl, by decide +kernel, rfl, by decide +kernel, by decide +kernel⟩
abbrev s_BadTurns_init : Stmt := inClass (topS 36) 0
theorem sc_BadTurns_init : FnScope [Str.ofString "self", Str.ofString "index"] [Str.ofString "self", Str.ofString "index"] (defScope s_BadTurns_init) := ⟨rfl, rfl, rfl, by decide +kernel, rfl, by decide +kernel, by decide +kernel⟩
abbrev s_Strayed_init : Stmt := inClass (topS 38) 0
theorem sc_Strayed_init : FnScope [Str.ofString "self", Str.ofString "tick"] [Str.ofString "self", Str.ofString "tick"] (defScope s_Strayed_init) := ⟨rfl, rfl, rfl, by decide +kernel, rfl, by decide +kernel, by decide +kernel⟩
abbrev s_BadText_init : Stmt := inClass (topS 42) 0
theorem sc_BadText_init : FnScope [Str.ofString "self", Str.ofString "line"] [Str.ofString "self", Str.ofString "line"] (defScope s_BadText_init) := ⟨rfl, rfl, rfl, by decide +kernel, rfl, by decide +kernel, by decide +kernel⟩
abbrev s_NoName_init : Stmt := inClass (topS 48) 0
theorem sc_NoName_init : FnScope [Str.ofString "self", Str.ofString "name"] [Str.ofString "self", Str.ofString "name"] (defScope s_NoName_init) := ⟨rfl, rfl, rfl, by decide +kernel, rfl, by decide +kernel, by decide +kernel⟩
structure Tx (K : PySem.W.Frag) (mg : Str → Option Value) (A : Ad) where
  ot : OTab.Ok K A.ot
  a__law_hand : Addr
  fd__law_hand : FuncData
  F__law_hand : Fun K "_law_hand" "_law_hand" s__law_hand a__law_hand fd__law_hand
  m__law_hand : mg "_law_hand" = some (.ref a__law_hand)
  b__law_hand : Binds K fd__law_hand [Str.ofString "_law_script"] []
  a__law_take : Addr
  fd__law_take : FuncData
  F__law_take : Fun K "_law_take" "_law_take" s__law_take a__law_take fd__law_take
  m__law_take : mg "_law_take" = some (.ref a__law_take)
  b__law_take : Binds K fd__law_take [Str.ofString "_law_hand_here", Str.ofString "_law_many"] []
  a__law_odd : Addr
  fd__law_odd : FuncData
  F__law_odd : Fun K "_law_odd" "_law_odd" s__law_odd a__law_odd fd__law_odd
  m__law_odd : mg "_law_odd" = some (.ref a__law_odd)
  b__law_odd : Binds K fd__law_odd [Str.ofString "_law_hand_here"] []
  a__law_thing : Addr
  fd__law_thing : FuncData
  F__law_thing : Fun K "_law_thing" "_law_thing" s__law_thing a__law_thing fd__law_thing
  m__law_thing : mg "_law_thing" = some (.ref a__law_thing)
  b__law_thing : Binds K fd__law_thing [Str.ofString "_law_hand_here"] []
  a__law_all : Addr
  fd__law_all : FuncData
  F__law_all : Fun K "_law_all" "_law_all" s__law_all a__law_all fd__law_all
  m__law_all : mg "_law_all" = some (.ref a__law_all)
  b__law_all : Binds K fd__law_all [Str.ofString "_law_thing_here"] []
  a__law_marks : Addr
  fd__law_marks : FuncData
  F__law_marks : Fun K "_law_marks" "_law_marks" s__law_marks a__law_marks fd__law_marks
  m__law_marks : mg "_law_marks" = some (.ref a__law_marks)
  b__law_marks : Binds K fd__law_marks [Str.ofString "_law_one"] []
  a__law_alien : Addr
  fd__law_alien : FuncData
  F__law_alien : Fun K "_law_alien" "_law_alien" s__law_alien a__law_alien fd__law_alien
  m__law_alien : mg "_law_alien" = some (.ref a__law_alien)
  b__law_alien : Binds K fd__law_alien [Str.ofString "_law_one"] []
  a__law_fields : Addr
  fd__law_fields : FuncData
  F__law_fields : Fun K "_law_fields" "_law_fields" s__law_fields a__law_fields fd__law_fields
  m__law_fields : mg "_law_fields" = some (.ref a__law_fields)
  b__law_fields : Binds K fd__law_fields [Str.ofString "_law_errors"] []
  a__law_raise : Addr
  fd__law_raise : FuncData
  F__law_raise : Fun K "_law_raise" "_law_raise" s__law_raise a__law_raise fd__law_raise
  m__law_raise : mg "_law_raise" = some (.ref a__law_raise)
  b__law_raise : Binds K fd__law_raise [Str.ofString "_law_which", Str.ofString "_law_thing_here"] []
  a__law_caught : Addr
  fd__law_caught : FuncData
  F__law_caught : Fun K "_law_caught" "_law_caught" s__law_caught a__law_caught fd__law_caught
  m__law_caught : mg "_law_caught" = some (.ref a__law_caught)
  b__law_caught : Binds K fd__law_caught [Str.ofString "_law_which", Str.ofString "_law_thing_here"] []
  a__law_based : Addr
  fd__law_based : FuncData
  F__law_based : Fun K "_law_based" "_law_based" s__law_based a__law_based fd__law_based
  m__law_based : mg "_law_based" = some (.ref a__law_based)
  b__law_based : Binds K fd__law_based [Str.ofString "_law_which", Str.ofString "_law_thing_here"] []
  a_law : Addr
  fd_law : FuncData
  F_law : Fun K "law" "law" s_law a_law fd_law
  m_law : mg "law" = some (.ref a_law)
  b_law : Binds K fd_law [Str.ofString "_law_script"] []
  n_ArithmeticError : mg "ArithmeticError" = none
  n_IndexError : mg "IndexError" = none
  n_KeyError : mg "KeyError" = none
  n_ValueError : mg "ValueError" = none
  n_int : mg "int" = none
  n_isinstance : mg "isinstance" = none
  n_len : mg "len" = none
  n_list : mg "list" = none
  n_range : mg "range" = none
  n_repr : mg "repr" = none
  m_WorldError : mg "WorldError" = some (.ref A.WorldError)
  x_WorldError : Exc0 K A.WorldError
  m_NoNumber : mg "NoNumber" = some (.ref A.NoNumber)
  x_NoNumber : Exc0 K A.NoNumber
  m_NoSeed : mg "NoSeed" = some (.ref A.NoSeed)
  x_NoSeed : Exc0 K A.NoSeed
  m_BadGround : mg "BadGround" = some (.ref A.BadGround)
  o_BadGround : OexC K A.BadGround
  z_BadGround : XfC K A.BadGround
  nf_BadGround : PySem.W.findIn K (.ref A.BadGround) (Str.ofString "part") = some none
  ai_BadGround : Addr
  fdi_BadGround : FuncData
  i_BadGround : PySem.W.findIn K (.ref A.BadGround) "__init__" = some (some (.ref ai_BadGround))
  t_BadGround : PySem.W.typeIn K (.ref ai_BadGround) = some (.type "function")
  Fi_BadGround : Fun K "__init__" "BadGround.__init__" s_BadGround_init ai_BadGround fdi_BadGround
  bi_BadGround : Binds K fdi_BadGround [Str.ofString "self", Str.ofString "part"] []
  m_BadProgram : mg "BadProgram" = some (.ref A.BadProgram)
  o_BadProgram : OexC K A.BadProgram
  z_BadProgram : XfC K A.BadProgram
  nf_BadProgram : PySem.W.findIn K (.ref A.BadProgram) (Str.ofString "part") = some none
  ai_BadProgram : Addr
  fdi_BadProgram : FuncData
  i_BadProgram : PySem.W.findIn K (.ref A.BadProgram) "__init__" = some (some (.ref ai_BadProgram))
  t_BadProgram : PySem.W.typeIn K (.ref ai_BadProgram) = some (.type "function")
  Fi_BadProgram : Fun K "__init__" "BadProgram.__init__" s_BadProgram_init ai_BadProgram fdi_BadProgram
  bi_BadProgram : Binds K fdi_BadProgram [Str.ofString "self", Str.ofString "part"] []
  m_BadKind : mg "BadKind" = some (.ref A.BadKind)
  o_BadKind : OexC K A.BadKind
  z_BadKind : XfC K A.BadKind
  nf_BadKind : PySem.W.findIn K (.ref A.BadKind) (Str.ofString "part") = some none
  ai_BadKind : Addr
  fdi_BadKind : FuncData
  i_BadKind : PySem.W.findIn K (.ref A.BadKind) "__init__" = some (some (.ref ai_BadKind))
  t_BadKind : PySem.W.typeIn K (.ref ai_BadKind) = some (.type "function")
  Fi_BadKind : Fun K "__init__" "BadKind.__init__" s_BadKind_init ai_BadKind fdi_BadKind
  bi_BadKind : Binds K fdi_BadKind [Str.ofString "self", Str.ofString "part"] []
  m_BadGame : mg "BadGame" = some (.ref A.BadGame)
  o_BadGame : OexC K A.BadGame
  z_BadGame : XfC K A.BadGame
  nf_BadGame : PySem.W.findIn K (.ref A.BadGame) (Str.ofString "part") = some none
  ai_BadGame : Addr
  fdi_BadGame : FuncData
  i_BadGame : PySem.W.findIn K (.ref A.BadGame) "__init__" = some (some (.ref ai_BadGame))
  t_BadGame : PySem.W.typeIn K (.ref ai_BadGame) = some (.type "function")
  Fi_BadGame : Fun K "__init__" "BadGame.__init__" s_BadGame_init ai_BadGame fdi_BadGame
  bi_BadGame : Binds K fdi_BadGame [Str.ofString "self", Str.ofString "part"] []
  m_NoWorld : mg "NoWorld" = some (.ref A.NoWorld)
  x_NoWorld : Exc0 K A.NoWorld
  m_NoBody : mg "NoBody" = some (.ref A.NoBody)
  x_NoBody : Exc0 K A.NoBody
  m_NoWay : mg "NoWay" = some (.ref A.NoWay)
  x_NoWay : Exc0 K A.NoWay
  m_NoInputs : mg "NoInputs" = some (.ref A.NoInputs)
  x_NoInputs : Exc0 K A.NoInputs
  m_NoHandler : mg "NoHandler" = some (.ref A.NoHandler)
  x_NoHandler : Exc0 K A.NoHandler
  m_NoCode : mg "NoCode" = some (.ref A.NoCode)
  x_NoCode : Exc0 K A.NoCode
  m_NoRows : mg "NoRows" = some (.ref A.NoRows)
  o_NoRows : OexC K A.NoRows
  z_NoRows : XfC K A.NoRows
  nf_NoRows : PySem.W.findIn K (.ref A.NoRows) (Str.ofString "index") = some none
  ai_NoRows : Addr
  fdi_NoRows : FuncData
  i_NoRows : PySem.W.findIn K (.ref A.NoRows) "__init__" = some (some (.ref ai_NoRows))
  t_NoRows : PySem.W.typeIn K (.ref ai_NoRows) = some (.type "function")
  Fi_NoRows : Fun K "__init__" "NoRows.__init__" s_NoRows_init ai_NoRows fdi_NoRows
  bi_NoRows : Binds K fdi_NoRows [Str.ofString "self", Str.ofString "index"] []
  m_NoRow : mg "NoRow" = some (.ref A.NoRow)
  x_NoRow : Exc0 K A.NoRow
  m_NoPlace : mg "NoPlace" = some (.ref A.NoPlace)
  x_NoPlace : Exc0 K A.NoPlace
  m_BadRow : mg "BadRow" = some (.ref A.BadRow)
  o_BadRow : OexC K A.BadRow
  z_BadRow : XfC K A.BadRow
  nf_BadRow : PySem.W.findIn K (.ref A.BadRow) (Str.ofString "place") = some none
  ai_BadRow : Addr
  fdi_BadRow : FuncData
  i_BadRow : PySem.W.findIn K (.ref A.BadRow) "__init__" = some (some (.ref ai_BadRow))
  t_BadRow : PySem.W.typeIn K (.ref ai_BadRow) = some (.type "function")
  Fi_BadRow : Fun K "__init__" "BadRow.__init__" s_BadRow_init ai_BadRow fdi_BadRow
  bi_BadRow : Binds K fdi_BadRow [Str.ofString "self", Str.ofString "place"] []
  m_BadChange : mg "BadChange" = some (.ref A.BadChange)
  o_BadChange : OexC K A.BadChange
  z_BadChange : XfC K A.BadChange
  nf_BadChange : PySem.W.findIn K (.ref A.BadChange) (Str.ofString "place") = some none
  ai_BadChange : Addr
  fdi_BadChange : FuncData
  i_BadChange : PySem.W.findIn K (.ref A.BadChange) "__init__" = some (some (.ref ai_BadChange))
  t_BadChange : PySem.W.typeIn K (.ref ai_BadChange) = some (.type "function")
  Fi_BadChange : Fun K "__init__" "BadChange.__init__" s_BadChange_init ai_BadChange fdi_BadChange
  bi_BadChange : Binds K fdi_BadChange [Str.ofString "self", Str.ofString "place"] []
  m_NoSeat : mg "NoSeat" = some (.ref A.NoSeat)
  x_NoSeat : Exc0 K A.NoSeat
  m_NotWaiting : mg "NotWaiting" = some (.ref A.NotWaiting)
  x_NotWaiting : Exc0 K A.NotWaiting
  m_NoTick : mg "NoTick" = some (.ref A.NoTick)
  x_NoTick : Exc0 K A.NoTick
  m_NotOpen : mg "NotOpen" = some (.ref A.NotOpen)
  x_NotOpen : Exc0 K A.NotOpen
  m_Gap : mg "Gap" = some (.ref A.Gap)
  x_Gap : Exc0 K A.Gap
  m_BadDeed : mg "BadDeed" = some (.ref A.BadDeed)
  o_BadDeed : OexC K A.BadDeed
  z_BadDeed : XfC K A.BadDeed
  nf_BadDeed : PySem.W.findIn K (.ref A.BadDeed) (Str.ofString "index") = some none
  ai_BadDeed : Addr
  fdi_BadDeed : FuncData
  i_BadDeed : PySem.W.findIn K (.ref A.BadDeed) "__init__" = some (some (.ref ai_BadDeed))
  t_BadDeed : PySem.W.typeIn K (.ref ai_BadDeed) = some (.type "function")
  Fi_BadDeed : Fun K "__init__" "BadDeed.__init__" s_BadDeed_init ai_BadDeed fdi_BadDeed
  bi_BadDeed : Binds K fdi_BadDeed [Str.ofString "self", Str.ofString "index"] []
  m_NoBook : mg "NoBook" = some (.ref A.NoBook)
  x_NoBook : Exc0 K A.NoBook
  m_NoPeer : mg "NoPeer" = some (.ref A.NoPeer)
  x_NoPeer : Exc0 K A.NoPeer
  m_NoRules : mg "NoRules" = some (.ref A.NoRules)
  x_NoRules : Exc0 K A.NoRules
  m_NoPast : mg "NoPast" = some (.ref A.NoPast)
  x_NoPast : Exc0 K A.NoPast
  m_NoLetter : mg "NoLetter" = some (.ref A.NoLetter)
  x_NoLetter : Exc0 K A.NoLetter
  m_NoDeed : mg "NoDeed" = some (.ref A.NoDeed)
  x_NoDeed : Exc0 K A.NoDeed
  m_BadDeeds : mg "BadDeeds" = some (.ref A.BadDeeds)
  o_BadDeeds : OexC K A.BadDeeds
  z_BadDeeds : XfC K A.BadDeeds
  nf_BadDeeds : PySem.W.findIn K (.ref A.BadDeeds) (Str.ofString "index") = some none
  ai_BadDeeds : Addr
  fdi_BadDeeds : FuncData
  i_BadDeeds : PySem.W.findIn K (.ref A.BadDeeds) "__init__" = some (some (.ref ai_BadDeeds))
  t_BadDeeds : PySem.W.typeIn K (.ref ai_BadDeeds) = some (.type "function")
  Fi_BadDeeds : Fun K "__init__" "BadDeeds.__init__" s_BadDeeds_init ai_BadDeeds fdi_BadDeeds
  bi_BadDeeds : Binds K fdi_BadDeeds [Str.ofString "self", Str.ofString "index"] []
  m_NoCut : mg "NoCut" = some (.ref A.NoCut)
  x_NoCut : Exc0 K A.NoCut
  m_NoBlocks : mg "NoBlocks" = some (.ref A.NoBlocks)
  x_NoBlocks : Exc0 K A.NoBlocks
  m_NoDisk : mg "NoDisk" = some (.ref A.NoDisk)
  x_NoDisk : Exc0 K A.NoDisk
  m_OtherMatch : mg "OtherMatch" = some (.ref A.OtherMatch)
  x_OtherMatch : Exc0 K A.OtherMatch
  m_BadTurns : mg "BadTurns" = some (.ref A.BadTurns)
  o_BadTurns : OexC K A.BadTurns
  z_BadTurns : XfC K A.BadTurns
  nf_BadTurns : PySem.W.findIn K (.ref A.BadTurns) (Str.ofString "index") = some none
  ai_BadTurns : Addr
  fdi_BadTurns : FuncData
  i_BadTurns : PySem.W.findIn K (.ref A.BadTurns) "__init__" = some (some (.ref ai_BadTurns))
  t_BadTurns : PySem.W.typeIn K (.ref ai_BadTurns) = some (.type "function")
  Fi_BadTurns : Fun K "__init__" "BadTurns.__init__" s_BadTurns_init ai_BadTurns fdi_BadTurns
  bi_BadTurns : Binds K fdi_BadTurns [Str.ofString "self", Str.ofString "index"] []
  m_OtherGame : mg "OtherGame" = some (.ref A.OtherGame)
  x_OtherGame : Exc0 K A.OtherGame
  m_Strayed : mg "Strayed" = some (.ref A.Strayed)
  o_Strayed : OexC K A.Strayed
  z_Strayed : XfC K A.Strayed
  nf_Strayed : PySem.W.findIn K (.ref A.Strayed) (Str.ofString "tick") = some none
  ai_Strayed : Addr
  fdi_Strayed : FuncData
  i_Strayed : PySem.W.findIn K (.ref A.Strayed) "__init__" = some (some (.ref ai_Strayed))
  t_Strayed : PySem.W.typeIn K (.ref ai_Strayed) = some (.type "function")
  Fi_Strayed : Fun K "__init__" "Strayed.__init__" s_Strayed_init ai_Strayed fdi_Strayed
  bi_Strayed : Binds K fdi_Strayed [Str.ofString "self", Str.ofString "tick"] []
  m_NoNode : mg "NoNode" = some (.ref A.NoNode)
  x_NoNode : Exc0 K A.NoNode
  m_NoReplay : mg "NoReplay" = some (.ref A.NoReplay)
  x_NoReplay : Exc0 K A.NoReplay
  m_NoExpression : mg "NoExpression" = some (.ref A.NoExpression)
  x_NoExpression : Exc0 K A.NoExpression
  m_BadText : mg "BadText" = some (.ref A.BadText)
  o_BadText : OexC K A.BadText
  z_BadText : XfC K A.BadText
  nf_BadText : PySem.W.findIn K (.ref A.BadText) (Str.ofString "line") = some none
  ai_BadText : Addr
  fdi_BadText : FuncData
  i_BadText : PySem.W.findIn K (.ref A.BadText) "__init__" = some (some (.ref ai_BadText))
  t_BadText : PySem.W.typeIn K (.ref ai_BadText) = some (.type "function")
  Fi_BadText : Fun K "__init__" "BadText.__init__" s_BadText_init ai_BadText fdi_BadText
  bi_BadText : Binds K fdi_BadText [Str.ofString "self", Str.ofString "line"] []
  m_NoProgram : mg "NoProgram" = some (.ref A.NoProgram)
  x_NoProgram : Exc0 K A.NoProgram
  m_NoPicture : mg "NoPicture" = some (.ref A.NoPicture)
  x_NoPicture : Exc0 K A.NoPicture
  m_Unlike : mg "Unlike" = some (.ref A.Unlike)
  x_Unlike : Exc0 K A.Unlike
  m_NoChanges : mg "NoChanges" = some (.ref A.NoChanges)
  x_NoChanges : Exc0 K A.NoChanges
  m_NoLine : mg "NoLine" = some (.ref A.NoLine)
  x_NoLine : Exc0 K A.NoLine
  m_NoName : mg "NoName" = some (.ref A.NoName)
  o_NoName : OexC K A.NoName
  z_NoName : XfC K A.NoName
  nf_NoName : PySem.W.findIn K (.ref A.NoName) (Str.ofString "name") = some none
  ai_NoName : Addr
  fdi_NoName : FuncData
  i_NoName : PySem.W.findIn K (.ref A.NoName) "__init__" = some (some (.ref ai_NoName))
  t_NoName : PySem.W.typeIn K (.ref ai_NoName) = some (.type "function")
  Fi_NoName : Fun K "__init__" "NoName.__init__" s_NoName_init ai_NoName fdi_NoName
  bi_NoName : Binds K fdi_NoName [Str.ofString "self", Str.ofString "name"] []
  e_BadChange_BadChange : PySem.W.exmOne K (.ref A.BadChange) (.ref A.BadChange) = some true
  e_BadChange_BadDeed : PySem.W.exmOne K (.ref A.BadChange) (.ref A.BadDeed) = some false
  e_BadChange_BadDeeds : PySem.W.exmOne K (.ref A.BadChange) (.ref A.BadDeeds) = some false
  e_BadChange_BadGame : PySem.W.exmOne K (.ref A.BadChange) (.ref A.BadGame) = some false
  e_BadChange_BadGround : PySem.W.exmOne K (.ref A.BadChange) (.ref A.BadGround) = some false
  e_BadChange_BadKind : PySem.W.exmOne K (.ref A.BadChange) (.ref A.BadKind) = some false
  e_BadChange_BadProgram : PySem.W.exmOne K (.ref A.BadChange) (.ref A.BadProgram) = some false
  e_BadChange_BadRow : PySem.W.exmOne K (.ref A.BadChange) (.ref A.BadRow) = some false
  e_BadChange_BadText : PySem.W.exmOne K (.ref A.BadChange) (.ref A.BadText) = some false
  e_BadChange_BadTurns : PySem.W.exmOne K (.ref A.BadChange) (.ref A.BadTurns) = some false
  e_BadChange_NoName : PySem.W.exmOne K (.ref A.BadChange) (.ref A.NoName) = some false
  e_BadChange_NoRows : PySem.W.exmOne K (.ref A.BadChange) (.ref A.NoRows) = some false
  e_BadChange_Strayed : PySem.W.exmOne K (.ref A.BadChange) (.ref A.Strayed) = some false
  e_BadChange_WorldError : PySem.W.exmOne K (.ref A.BadChange) (.ref A.WorldError) = some true
  e_BadDeed_BadChange : PySem.W.exmOne K (.ref A.BadDeed) (.ref A.BadChange) = some false
  e_BadDeed_BadDeed : PySem.W.exmOne K (.ref A.BadDeed) (.ref A.BadDeed) = some true
  e_BadDeed_BadDeeds : PySem.W.exmOne K (.ref A.BadDeed) (.ref A.BadDeeds) = some false
  e_BadDeed_BadGame : PySem.W.exmOne K (.ref A.BadDeed) (.ref A.BadGame) = some false
  e_BadDeed_BadGround : PySem.W.exmOne K (.ref A.BadDeed) (.ref A.BadGround) = some false
  e_BadDeed_BadKind : PySem.W.exmOne K (.ref A.BadDeed) (.ref A.BadKind) = some false
  e_BadDeed_BadProgram : PySem.W.exmOne K (.ref A.BadDeed) (.ref A.BadProgram) = some false
  e_BadDeed_BadRow : PySem.W.exmOne K (.ref A.BadDeed) (.ref A.BadRow) = some false
  e_BadDeed_BadText : PySem.W.exmOne K (.ref A.BadDeed) (.ref A.BadText) = some false
  e_BadDeed_BadTurns : PySem.W.exmOne K (.ref A.BadDeed) (.ref A.BadTurns) = some false
  e_BadDeed_NoName : PySem.W.exmOne K (.ref A.BadDeed) (.ref A.NoName) = some false
  e_BadDeed_NoRows : PySem.W.exmOne K (.ref A.BadDeed) (.ref A.NoRows) = some false
  e_BadDeed_Strayed : PySem.W.exmOne K (.ref A.BadDeed) (.ref A.Strayed) = some false
  e_BadDeed_WorldError : PySem.W.exmOne K (.ref A.BadDeed) (.ref A.WorldError) = some true
  e_BadDeeds_BadChange : PySem.W.exmOne K (.ref A.BadDeeds) (.ref A.BadChange) = some false
  e_BadDeeds_BadDeed : PySem.W.exmOne K (.ref A.BadDeeds) (.ref A.BadDeed) = some false
  e_BadDeeds_BadDeeds : PySem.W.exmOne K (.ref A.BadDeeds) (.ref A.BadDeeds) = some true
  e_BadDeeds_BadGame : PySem.W.exmOne K (.ref A.BadDeeds) (.ref A.BadGame) = some false
  e_BadDeeds_BadGround : PySem.W.exmOne K (.ref A.BadDeeds) (.ref A.BadGround) = some false
  e_BadDeeds_BadKind : PySem.W.exmOne K (.ref A.BadDeeds) (.ref A.BadKind) = some false
  e_BadDeeds_BadProgram : PySem.W.exmOne K (.ref A.BadDeeds) (.ref A.BadProgram) = some false
  e_BadDeeds_BadRow : PySem.W.exmOne K (.ref A.BadDeeds) (.ref A.BadRow) = some false
  e_BadDeeds_BadText : PySem.W.exmOne K (.ref A.BadDeeds) (.ref A.BadText) = some false
  e_BadDeeds_BadTurns : PySem.W.exmOne K (.ref A.BadDeeds) (.ref A.BadTurns) = some false
  e_BadDeeds_NoName : PySem.W.exmOne K (.ref A.BadDeeds) (.ref A.NoName) = some false
  e_BadDeeds_NoRows : PySem.W.exmOne K (.ref A.BadDeeds) (.ref A.NoRows) = some false
  e_BadDeeds_Strayed : PySem.W.exmOne K (.ref A.BadDeeds) (.ref A.Strayed) = some false
  e_BadDeeds_WorldError : PySem.W.exmOne K (.ref A.BadDeeds) (.ref A.WorldError) = some true
  e_BadGame_BadChange : PySem.W.exmOne K (.ref A.BadGame) (.ref A.BadChange) = some false
  e_BadGame_BadDeed : PySem.W.exmOne K (.ref A.BadGame) (.ref A.BadDeed) = some false
  e_BadGame_BadDeeds : PySem.W.exmOne K (.ref A.BadGame) (.ref A.BadDeeds) = some false
  e_BadGame_BadGame : PySem.W.exmOne K (.ref A.BadGame) (.ref A.BadGame) = some true
  e_BadGame_BadGround : PySem.W.exmOne K (.ref A.BadGame) (.ref A.BadGround) = some false
  e_BadGame_BadKind : PySem.W.exmOne K (.ref A.BadGame) (.ref A.BadKind) = some false
  e_BadGame_BadProgram : PySem.W.exmOne K (.ref A.BadGame) (.ref A.BadProgram) = some false
  e_BadGame_BadRow : PySem.W.exmOne K (.ref A.BadGame) (.ref A.BadRow) = some false
  e_BadGame_BadText : PySem.W.exmOne K (.ref A.BadGame) (.ref A.BadText) = some false
  e_BadGame_BadTurns : PySem.W.exmOne K (.ref A.BadGame) (.ref A.BadTurns) = some false
  e_BadGame_NoName : PySem.W.exmOne K (.ref A.BadGame) (.ref A.NoName) = some false
  e_BadGame_NoRows : PySem.W.exmOne K (.ref A.BadGame) (.ref A.NoRows) = some false
  e_BadGame_Strayed : PySem.W.exmOne K (.ref A.BadGame) (.ref A.Strayed) = some false
  e_BadGame_WorldError : PySem.W.exmOne K (.ref A.BadGame) (.ref A.WorldError) = some true
  e_BadGround_BadChange : PySem.W.exmOne K (.ref A.BadGround) (.ref A.BadChange) = some false
  e_BadGround_BadDeed : PySem.W.exmOne K (.ref A.BadGround) (.ref A.BadDeed) = some false
  e_BadGround_BadDeeds : PySem.W.exmOne K (.ref A.BadGround) (.ref A.BadDeeds) = some false
  e_BadGround_BadGame : PySem.W.exmOne K (.ref A.BadGround) (.ref A.BadGame) = some false
  e_BadGround_BadGround : PySem.W.exmOne K (.ref A.BadGround) (.ref A.BadGround) = some true
  e_BadGround_BadKind : PySem.W.exmOne K (.ref A.BadGround) (.ref A.BadKind) = some false
  e_BadGround_BadProgram : PySem.W.exmOne K (.ref A.BadGround) (.ref A.BadProgram) = some false
  e_BadGround_BadRow : PySem.W.exmOne K (.ref A.BadGround) (.ref A.BadRow) = some false
  e_BadGround_BadText : PySem.W.exmOne K (.ref A.BadGround) (.ref A.BadText) = some false
  e_BadGround_BadTurns : PySem.W.exmOne K (.ref A.BadGround) (.ref A.BadTurns) = some false
  e_BadGround_NoName : PySem.W.exmOne K (.ref A.BadGround) (.ref A.NoName) = some false
  e_BadGround_NoRows : PySem.W.exmOne K (.ref A.BadGround) (.ref A.NoRows) = some false
  e_BadGround_Strayed : PySem.W.exmOne K (.ref A.BadGround) (.ref A.Strayed) = some false
  e_BadGround_WorldError : PySem.W.exmOne K (.ref A.BadGround) (.ref A.WorldError) = some true
  e_BadKind_BadChange : PySem.W.exmOne K (.ref A.BadKind) (.ref A.BadChange) = some false
  e_BadKind_BadDeed : PySem.W.exmOne K (.ref A.BadKind) (.ref A.BadDeed) = some false
  e_BadKind_BadDeeds : PySem.W.exmOne K (.ref A.BadKind) (.ref A.BadDeeds) = some false
  e_BadKind_BadGame : PySem.W.exmOne K (.ref A.BadKind) (.ref A.BadGame) = some false
  e_BadKind_BadGround : PySem.W.exmOne K (.ref A.BadKind) (.ref A.BadGround) = some false
  e_BadKind_BadKind : PySem.W.exmOne K (.ref A.BadKind) (.ref A.BadKind) = some true
  e_BadKind_BadProgram : PySem.W.exmOne K (.ref A.BadKind) (.ref A.BadProgram) = some false
  e_BadKind_BadRow : PySem.W.exmOne K (.ref A.BadKind) (.ref A.BadRow) = some false
  e_BadKind_BadText : PySem.W.exmOne K (.ref A.BadKind) (.ref A.BadText) = some false
  e_BadKind_BadTurns : PySem.W.exmOne K (.ref A.BadKind) (.ref A.BadTurns) = some false
  e_BadKind_NoName : PySem.W.exmOne K (.ref A.BadKind) (.ref A.NoName) = some false
  e_BadKind_NoRows : PySem.W.exmOne K (.ref A.BadKind) (.ref A.NoRows) = some false
  e_BadKind_Strayed : PySem.W.exmOne K (.ref A.BadKind) (.ref A.Strayed) = some false
  e_BadKind_WorldError : PySem.W.exmOne K (.ref A.BadKind) (.ref A.WorldError) = some true
  e_BadProgram_BadChange : PySem.W.exmOne K (.ref A.BadProgram) (.ref A.BadChange) = some false
  e_BadProgram_BadDeed : PySem.W.exmOne K (.ref A.BadProgram) (.ref A.BadDeed) = some false
  e_BadProgram_BadDeeds : PySem.W.exmOne K (.ref A.BadProgram) (.ref A.BadDeeds) = some false
  e_BadProgram_BadGame : PySem.W.exmOne K (.ref A.BadProgram) (.ref A.BadGame) = some false
  e_BadProgram_BadGround : PySem.W.exmOne K (.ref A.BadProgram) (.ref A.BadGround) = some false
  e_BadProgram_BadKind : PySem.W.exmOne K (.ref A.BadProgram) (.ref A.BadKind) = some false
  e_BadProgram_BadProgram : PySem.W.exmOne K (.ref A.BadProgram) (.ref A.BadProgram) = some true
  e_BadProgram_BadRow : PySem.W.exmOne K (.ref A.BadProgram) (.ref A.BadRow) = some false
  e_BadProgram_BadText : PySem.W.exmOne K (.ref A.BadProgram) (.ref A.BadText) = some false
  e_BadProgram_BadTurns : PySem.W.exmOne K (.ref A.BadProgram) (.ref A.BadTurns) = some false
  e_BadProgram_NoName : PySem.W.exmOne K (.ref A.BadProgram) (.ref A.NoName) = some false
  e_BadProgram_NoRows : PySem.W.exmOne K (.ref A.BadProgram) (.ref A.NoRows) = some false
  e_BadProgram_Strayed : PySem.W.exmOne K (.ref A.BadProgram) (.ref A.Strayed) = some false
  e_BadProgram_WorldError : PySem.W.exmOne K (.ref A.BadProgram) (.ref A.WorldError) = some true
  e_BadRow_BadChange : PySem.W.exmOne K (.ref A.BadRow) (.ref A.BadChange) = some false
  e_BadRow_BadDeed : PySem.W.exmOne K (.ref A.BadRow) (.ref A.BadDeed) = some false
  e_BadRow_BadDeeds : PySem.W.exmOne K (.ref A.BadRow) (.ref A.BadDeeds) = some false
  e_BadRow_BadGame : PySem.W.exmOne K (.ref A.BadRow) (.ref A.BadGame) = some false
  e_BadRow_BadGround : PySem.W.exmOne K (.ref A.BadRow) (.ref A.BadGround) = some false
  e_BadRow_BadKind : PySem.W.exmOne K (.ref A.BadRow) (.ref A.BadKind) = some false
  e_BadRow_BadProgram : PySem.W.exmOne K (.ref A.BadRow) (.ref A.BadProgram) = some false
  e_BadRow_BadRow : PySem.W.exmOne K (.ref A.BadRow) (.ref A.BadRow) = some true
  e_BadRow_BadText : PySem.W.exmOne K (.ref A.BadRow) (.ref A.BadText) = some false
  e_BadRow_BadTurns : PySem.W.exmOne K (.ref A.BadRow) (.ref A.BadTurns) = some false
  e_BadRow_NoName : PySem.W.exmOne K (.ref A.BadRow) (.ref A.NoName) = some false
  e_BadRow_NoRows : PySem.W.exmOne K (.ref A.BadRow) (.ref A.NoRows) = some false
  e_BadRow_Strayed : PySem.W.exmOne K (.ref A.BadRow) (.ref A.Strayed) = some false
  e_BadRow_WorldError : PySem.W.exmOne K (.ref A.BadRow) (.ref A.WorldError) = some true
  e_BadText_BadChange : PySem.W.exmOne K (.ref A.BadText) (.ref A.BadChange) = some false
  e_BadText_BadDeed : PySem.W.exmOne K (.ref A.BadText) (.ref A.BadDeed) = some false
  e_BadText_BadDeeds : PySem.W.exmOne K (.ref A.BadText) (.ref A.BadDeeds) = some false
  e_BadText_BadGame : PySem.W.exmOne K (.ref A.BadText) (.ref A.BadGame) = some false
  e_BadText_BadGround : PySem.W.exmOne K (.ref A.BadText) (.ref A.BadGround) = some false
  e_BadText_BadKind : PySem.W.exmOne K (.ref A.BadText) (.ref A.BadKind) = some false
  e_BadText_BadProgram : PySem.W.exmOne K (.ref A.BadText) (.ref A.BadProgram) = some false
  e_BadText_BadRow : PySem.W.exmOne K (.ref A.BadText) (.ref A.BadRow) = some false
  e_BadText_BadText : PySem.W.exmOne K (.ref A.BadText) (.ref A.BadText) = some true
  e_BadText_BadTurns : PySem.W.exmOne K (.ref A.BadText) (.ref A.BadTurns) = some false
  e_BadText_NoName : PySem.W.exmOne K (.ref A.BadText) (.ref A.NoName) = some false
  e_BadText_NoRows : PySem.W.exmOne K (.ref A.BadText) (.ref A.NoRows) = some false
  e_BadText_Strayed : PySem.W.exmOne K (.ref A.BadText) (.ref A.Strayed) = some false
  e_BadText_WorldError : PySem.W.exmOne K (.ref A.BadText) (.ref A.WorldError) = some true
  e_BadTurns_BadChange : PySem.W.exmOne K (.ref A.BadTurns) (.ref A.BadChange) = some false
  e_BadTurns_BadDeed : PySem.W.exmOne K (.ref A.BadTurns) (.ref A.BadDeed) = some false
  e_BadTurns_BadDeeds : PySem.W.exmOne K (.ref A.BadTurns) (.ref A.BadDeeds) = some false
  e_BadTurns_BadGame : PySem.W.exmOne K (.ref A.BadTurns) (.ref A.BadGame) = some false
  e_BadTurns_BadGround : PySem.W.exmOne K (.ref A.BadTurns) (.ref A.BadGround) = some false
  e_BadTurns_BadKind : PySem.W.exmOne K (.ref A.BadTurns) (.ref A.BadKind) = some false
  e_BadTurns_BadProgram : PySem.W.exmOne K (.ref A.BadTurns) (.ref A.BadProgram) = some false
  e_BadTurns_BadRow : PySem.W.exmOne K (.ref A.BadTurns) (.ref A.BadRow) = some false
  e_BadTurns_BadText : PySem.W.exmOne K (.ref A.BadTurns) (.ref A.BadText) = some false
  e_BadTurns_BadTurns : PySem.W.exmOne K (.ref A.BadTurns) (.ref A.BadTurns) = some true
  e_BadTurns_NoName : PySem.W.exmOne K (.ref A.BadTurns) (.ref A.NoName) = some false
  e_BadTurns_NoRows : PySem.W.exmOne K (.ref A.BadTurns) (.ref A.NoRows) = some false
  e_BadTurns_Strayed : PySem.W.exmOne K (.ref A.BadTurns) (.ref A.Strayed) = some false
  e_BadTurns_WorldError : PySem.W.exmOne K (.ref A.BadTurns) (.ref A.WorldError) = some true
  e_NoName_BadChange : PySem.W.exmOne K (.ref A.NoName) (.ref A.BadChange) = some false
  e_NoName_BadDeed : PySem.W.exmOne K (.ref A.NoName) (.ref A.BadDeed) = some false
  e_NoName_BadDeeds : PySem.W.exmOne K (.ref A.NoName) (.ref A.BadDeeds) = some false
  e_NoName_BadGame : PySem.W.exmOne K (.ref A.NoName) (.ref A.BadGame) = some false
  e_NoName_BadGround : PySem.W.exmOne K (.ref A.NoName) (.ref A.BadGround) = some false
  e_NoName_BadKind : PySem.W.exmOne K (.ref A.NoName) (.ref A.BadKind) = some false
  e_NoName_BadProgram : PySem.W.exmOne K (.ref A.NoName) (.ref A.BadProgram) = some false
  e_NoName_BadRow : PySem.W.exmOne K (.ref A.NoName) (.ref A.BadRow) = some false
  e_NoName_BadText : PySem.W.exmOne K (.ref A.NoName) (.ref A.BadText) = some false
  e_NoName_BadTurns : PySem.W.exmOne K (.ref A.NoName) (.ref A.BadTurns) = some false
  e_NoName_NoName : PySem.W.exmOne K (.ref A.NoName) (.ref A.NoName) = some true
  e_NoName_NoRows : PySem.W.exmOne K (.ref A.NoName) (.ref A.NoRows) = some false
  e_NoName_Strayed : PySem.W.exmOne K (.ref A.NoName) (.ref A.Strayed) = some false
  e_NoName_WorldError : PySem.W.exmOne K (.ref A.NoName) (.ref A.WorldError) = some true
  e_NoRows_BadChange : PySem.W.exmOne K (.ref A.NoRows) (.ref A.BadChange) = some false
  e_NoRows_BadDeed : PySem.W.exmOne K (.ref A.NoRows) (.ref A.BadDeed) = some false
  e_NoRows_BadDeeds : PySem.W.exmOne K (.ref A.NoRows) (.ref A.BadDeeds) = some false
  e_NoRows_BadGame : PySem.W.exmOne K (.ref A.NoRows) (.ref A.BadGame) = some false
  e_NoRows_BadGround : PySem.W.exmOne K (.ref A.NoRows) (.ref A.BadGround) = some false
  e_NoRows_BadKind : PySem.W.exmOne K (.ref A.NoRows) (.ref A.BadKind) = some false
  e_NoRows_BadProgram : PySem.W.exmOne K (.ref A.NoRows) (.ref A.BadProgram) = some false
  e_NoRows_BadRow : PySem.W.exmOne K (.ref A.NoRows) (.ref A.BadRow) = some false
  e_NoRows_BadText : PySem.W.exmOne K (.ref A.NoRows) (.ref A.BadText) = some false
  e_NoRows_BadTurns : PySem.W.exmOne K (.ref A.NoRows) (.ref A.BadTurns) = some false
  e_NoRows_NoName : PySem.W.exmOne K (.ref A.NoRows) (.ref A.NoName) = some false
  e_NoRows_NoRows : PySem.W.exmOne K (.ref A.NoRows) (.ref A.NoRows) = some true
  e_NoRows_Strayed : PySem.W.exmOne K (.ref A.NoRows) (.ref A.Strayed) = some false
  e_NoRows_WorldError : PySem.W.exmOne K (.ref A.NoRows) (.ref A.WorldError) = some true
  e_Strayed_BadChange : PySem.W.exmOne K (.ref A.Strayed) (.ref A.BadChange) = some false
  e_Strayed_BadDeed : PySem.W.exmOne K (.ref A.Strayed) (.ref A.BadDeed) = some false
  e_Strayed_BadDeeds : PySem.W.exmOne K (.ref A.Strayed) (.ref A.BadDeeds) = some false
  e_Strayed_BadGame : PySem.W.exmOne K (.ref A.Strayed) (.ref A.BadGame) = some false
  e_Strayed_BadGround : PySem.W.exmOne K (.ref A.Strayed) (.ref A.BadGround) = some false
  e_Strayed_BadKind : PySem.W.exmOne K (.ref A.Strayed) (.ref A.BadKind) = some false
  e_Strayed_BadProgram : PySem.W.exmOne K (.ref A.Strayed) (.ref A.BadProgram) = some false
  e_Strayed_BadRow : PySem.W.exmOne K (.ref A.Strayed) (.ref A.BadRow) = some false
  e_Strayed_BadText : PySem.W.exmOne K (.ref A.Strayed) (.ref A.BadText) = some false
  e_Strayed_BadTurns : PySem.W.exmOne K (.ref A.Strayed) (.ref A.BadTurns) = some false
  e_Strayed_NoName : PySem.W.exmOne K (.ref A.Strayed) (.ref A.NoName) = some false
  e_Strayed_NoRows : PySem.W.exmOne K (.ref A.Strayed) (.ref A.NoRows) = some false
  e_Strayed_Strayed : PySem.W.exmOne K (.ref A.Strayed) (.ref A.Strayed) = some true
  e_Strayed_WorldError : PySem.W.exmOne K (.ref A.Strayed) (.ref A.WorldError) = some true
  xis : ∀ D cv b, IsP A D cv b → ExcC K D ∧ PySem.W.kitOne K (.ref D) cv = some b
section
variable {P : Program} {w : World} {K : PySem.W.Frag} {mg : Str → Option Value} {base : Heap} {A : Ad}
theorem gi_BadGround (T : Tx K mg A) : FnOk P w K mg base (L2.CX P w) 1 T.ai_BadGround T.fdi_BadGround [Str.ofString "self", Str.ofString "part"] (spInit A.BadGround (Str.ofString "part")) := okInit T.Fi_BadGround sc_BadGround_init T.o_BadGround T.nf_BadGround (fun cdv An outer s H E hr => pss_one (ps_ost (pv 0) (pv 1)))
theorem gi_BadProgram (T : Tx K mg A) : FnOk P w K mg base (L2.CX P w) 1 T.ai_BadProgram T.fdi_BadProgram [Str.ofString "self", Str.ofString "part"] (spInit A.BadProgram (Str.ofString "part")) := okInit T.Fi_BadProgram sc_BadProgram_init T.o_BadProgram T.nf_BadProgram (fun cdv An outer s H E hr => pss_one (ps_ost (pv 0) (pv 1)))
theorem gi_BadKind (T : Tx K mg A) : FnOk P w K mg base (L2.CX P w) 1 T.ai_BadKind T.fdi_BadKind [Str.ofString "self", Str.ofString "part"] (spInit A.BadKind (Str.ofString "part")) := okInit T.Fi_BadKind sc_BadKind_init T.o_BadKind T.nf_BadKind (fun cdv An outer s H E hr => pss_one (ps_ost (pv 0) (pv 1)))
theorem gi_BadGame (T : Tx K mg A) : FnOk P w K mg base (L2.CX P w) 1 T.ai_BadGame T.fdi_BadGame [Str.ofString "self", Str.ofString "part"] (spInit A.BadGame (Str.ofString "part")) := okInit T.Fi_BadGame sc_BadGame_init T.o_BadGame T.nf_BadGame (fun cdv An outer s H E hr => pss_one (ps_ost (pv 0) (pv 1)))
theorem gi_NoRows (T : Tx K mg A) : FnOk P w K mg base (L2.CX P w) 1 T.ai_NoRows T.fdi_NoRows [Str.ofString "self", Str.ofString "index"] (spInit A.NoRows (Str.ofString "index")) := okInit T.Fi_NoRows sc_NoRows_init T.o_NoRows T.nf_NoRows (fun cdv An outer s H E hr => pss_one (ps_ost (pv 0) (pv 1)))
theorem gi_BadRow (T : Tx K mg A) : FnOk P w K mg base (L2.CX P w) 1 T.ai_BadRow T.fdi_BadRow [Str.ofString "self", Str.ofString "place"] (spInit A.BadRow (Str.ofString "place")) := okInit T.Fi_BadRow sc_BadRow_init T.o_BadRow T.nf_BadRow (fun cdv An outer s H E hr => pss_one (ps_ost (pv 0) (pv 1)))
theorem gi_BadChange (T : Tx K mg A) : FnOk P w K mg base (L2.CX P w) 1 T.ai_BadChange T.fdi_BadChange [Str.ofString "self", Str.ofString "place"] (spInit A.BadChange (Str.ofString "place")) := okInit T.Fi_BadChange sc_BadChange_init T.o_BadChange T.nf_BadChange (fun cdv An outer s H E hr => pss_one (ps_ost (pv 0) (pv 1)))
theorem gi_BadDeed (T : Tx K mg A) : FnOk P w K mg base (L2.CX P w) 1 T.ai_BadDeed T.fdi_BadDeed [Str.ofString "self", Str.ofString "index"] (spInit A.BadDeed (Str.ofString "index")) := okInit T.Fi_BadDeed sc_BadDeed_init T.o_BadDeed T.nf_BadDeed (fun cdv An outer s H E hr => pss_one (ps_ost (pv 0) (pv 1)))
theorem gi_BadDeeds (T : Tx K mg A) : FnOk P w K mg base (L2.CX P w) 1 T.ai_BadDeeds T.fdi_BadDeeds [Str.ofString "self", Str.ofString "index"] (spInit A.BadDeeds (Str.ofString "index")) := okInit T.Fi_BadDeeds sc_BadDeeds_init T.o_BadDeeds T.nf_BadDeeds (fun cdv An outer s H E hr => pss_one (ps_ost (pv 0) (pv 1)))
theorem gi_BadTurns (T : Tx K mg A) : FnOk P w K mg base (L2.CX P w) 1 T.ai_BadTurns T.fdi_BadTurns [Str.ofString "self", Str.ofString "index"] (spInit A.BadTurns (Str.ofString "index")) := okInit T.Fi_BadTurns sc_BadTurns_init T.o_BadTurns T.nf_BadTurns (fun cdv An outer s H E hr => pss_one (ps_ost (pv 0) (pv 1)))
theorem gi_Strayed (T : Tx K mg A) : FnOk P w K mg base (L2.CX P w) 1 T.ai_Strayed T.fdi_Strayed [Str.ofString "self", Str.ofString "tick"] (spInit A.Strayed (Str.ofString "tick")) := okInit T.Fi_Strayed sc_Strayed_init T.o_Strayed T.nf_Strayed (fun cdv An outer s H E hr => pss_one (ps_ost (pv 0) (pv 1)))
theorem gi_BadText (T : Tx K mg A) : FnOk P w K mg base (L2.CX P w) 1 T.ai_BadText T.fdi_BadText [Str.ofString "self", Str.ofString "line"] (spInit A.BadText (Str.ofString "line")) := okInit T.Fi_BadText sc_BadText_init T.o_BadText T.nf_BadText (fun cdv An outer s H E hr => pss_one (ps_ost (pv 0) (pv 1)))
theorem gi_NoName (T : Tx K mg A) : FnOk P w K mg base (L2.CX P w) 1 T.ai_NoName T.fdi_NoName [Str.ofString "self", Str.ofString "name"] (spInit A.NoName (Str.ofString "name")) := okInit T.Fi_NoName sc_NoName_init T.o_NoName T.nf_NoName (fun cdv An outer s H E hr => pss_one (ps_ost (pv 0) (pv 1)))
theorem w__law_hand (T : Tx K mg A) (cdv : Value) (An : Around) (outer : List Env) (s : Shared) (H : Hp) (E : XK) (hr : RoomG 0 (An.deeper (envOfC "_law_hand" (defScope s__law_hand) s.heap.objs.size T.a__law_hand cdv))) :
    PSs (cxOf (L2.CX P w) P w K mg base N__law_hand "_law_hand" (defScope s__law_hand) T.a__law_hand cdv An outer s H E) (defBody s__law_hand) (lowS K (WF E) (r__law_hand A)) :=
  (s_one (s_ret (d_lst (da_cons (d_callTyV call_list_of l_listV T.n_list bt_list (da_cons (dv 0) da_nil)) (da_cons d_int (da_cons d_int (da_cons d_int (da_cons d_int da_nil))))))))
theorem w__law_take (T : Tx K mg A) (cdv : Value) (An : Around) (outer : List Env) (s : Shared) (H : Hp) (E : XK) (hr : RoomG 0 (An.deeper (envOfC "_law_take" (defScope s__law_take) s.heap.objs.size T.a__law_take cdv))) :
    PSs (cxOf (L2.CX P w) P w K mg base N__law_take "_law_take" (defScope s__law_take) T.a__law_take cdv An outer s H E) (defBody s__law_take) (lowS K (WF E) (r__law_take A)) :=
  (s_cons (s_asg (d_opV op_addA l_addV (d_ix (dv 0) d_int) d_int) (g_sub (W := W0) set_list l_set (dv 0) d_int))
    (s_cons (s_if (PW.pt (t_and (t_cmp (op_eqA hr.units) l_eq (d_ix (dv 0) d_int) d_int) (t_and1 (t_cmp op_lt l_cmp (d_ix (dv 0) d_int) (d_callB call_len l_len T.n_len bt_len (da_cons (d_ix (dv 0) d_int) da_nil)))))) (s_cons (s_set 2 sc__law_take.nd (d_callTy call_int1 l_int T.n_int bt_int (da_cons (d_ix (d_ix (dv 0) d_int) (d_ix (dv 0) d_int)) da_nil)))
    (s_cons (s_asg (d_opV op_addA l_addV (d_ix (dv 0) d_int) d_int) (g_sub (W := W0) set_list l_set (dv 0) d_int))
    (s_one (s_if (t_cmp op_ge l_cmp (dv 2) (d_op op_pow l_pow d_int d_int)) (s_one (s_asg (dv 2) (g_sub (W := W0) set_list l_set (dv 0) d_int))) (s_one (s_asg (d_op op_mod l_mod (d_callTy call_int1 l_int T.n_int bt_int (da_cons (d_opV op_addA l_addV (d_opV op_addA l_addV (d_opV op_mulB l_mulV (d_ix (dv 0) d_int) d_int) (d_op op_mod l_mod (d_callTy call_int1 l_int T.n_int bt_int (da_cons (dv 2) da_nil)) d_int)) d_int) da_nil)) d_int) (g_sub (W := W0) set_list l_set (dv 0) d_int))))))) s_nil)
    (s_cons (s_if (t_cmp op_gt l_cmp (d_ix (dv 0) d_int) d_int) (s_cons (s_set 3 sc__law_take.nd (d_op op_mod l_mod (d_callTy call_int1 l_int T.n_int bt_int (da_cons (d_ix (dv 0) d_int) da_nil)) (dv 1)))
    (s_cons (s_asg (d_op op_divP l_div (d_callTy call_int1 l_int T.n_int bt_int (da_cons (d_ix (dv 0) d_int) da_nil)) (dv 1)) (g_sub (W := W0) set_list l_set (dv 0) d_int))
    (s_one (s_ret (dv 3))))) s_nil)
    (s_cons (s_asg (d_op op_mod l_mod (d_callTy call_int1 l_int T.n_int bt_int (da_cons (d_opV op_addA l_addV (d_opV op_mulB l_mulV (d_ix (dv 0) d_int) d_int) (d_opV op_mulB l_mulV d_int (d_ix (dv 0) d_int))) da_nil)) d_int) (g_sub (W := W0) set_list l_set (dv 0) d_int))
    (s_cons (s_set 4 sc__law_take.nd (d_op op_mod l_mod (d_callTy call_int1 l_int T.n_int bt_int (da_cons (d_opV op_mulB l_mulV (d_ix (dv 0) d_int) (d_opV op_addA l_addV (d_op op_divP l_div (d_ix (dv 0) d_int) d_int) d_int)) da_nil)) d_int))
    (s_cons (s_set 4 sc__law_take.nd (d_op op_mod l_mod (d_callTy call_int1 l_int T.n_int bt_int (da_cons (d_opV op_mulB l_mulV (dv 4) (d_opV op_addA l_addV (d_op op_divP l_div (dv 4) d_int) d_int)) da_nil)) d_int))
    (s_one (s_ret (d_op op_mod l_mod (d_callTy call_int1 l_int T.n_int bt_int (da_cons (d_op op_divP l_div (dv 4) d_int) da_nil)) (dv 1))))))))))
theorem w__law_odd (T : Tx K mg A) (G__law_take : FnD P w K mg base 1 T.a__law_take T.fd__law_take [Str.ofString "_law_hand_here", Str.ofString "_law_many"] (sp__law_take A)) (cdv : Value) (An : Around) (outer : List Env) (s : Shared) (H : Hp) (E : XK) (hr : RoomG 1 (An.deeper (envOfC "_law_odd" (defScope s__law_odd) s.heap.objs.size T.a__law_odd cdv))) :
    PSs (cxOf (L2.CX P w) P w K mg base N__law_odd "_law_odd" (defScope s__law_odd) T.a__law_odd cdv An outer s H E) (defBody s__law_odd) (lowS K (WF E) (r__law_odd A)) :=
  (s_cons (s_set 1 sc__law_odd.nd (d_call G__law_take (hr.mono (by decide)) T.m__law_take T.F__law_take.kp T.b__law_take tkF (da_cons (dv 0) (da_cons d_int da_nil))))
    (s_cons (s_if (t_cmp op_lt l_cmp (dv 1) d_int) (s_one (s_ret (d_ix (d_lstV (da_cons d_non (da_cons d_bl (da_cons d_bl (da_cons d_str (da_cons d_str (da_cons d_str da_nil))))))) (dv 1)))) s_nil)
    (s_cons (s_if (t_cmp op_lt l_cmp (dv 1) d_int) (s_one (s_ret (d_ix (d_lstV (da_cons (d_tup da_nil) (da_cons (d_lstV da_nil) (da_cons (d_frz d_dict0) (da_cons (d_tup (da_cons d_int da_nil)) (da_cons (d_lstV (da_cons d_int da_nil)) (da_cons (d_tup (da_cons (d_tup da_nil) da_nil)) da_nil))))))) (d_op op_sub l_sub (dv 1) d_int)))) s_nil)
    (s_cons (s_if (t_cmp op_lt l_cmp (dv 1) d_int) (s_one (s_ret (d_ix (d_lstV (da_cons (d_neg d_int) (da_cons d_int (da_cons (d_neg d_int) (da_cons (d_op op_sub l_sub (d_op op_pow l_pow d_int d_int) d_int) (da_cons (d_op op_sub l_sub d_int (d_op op_pow l_pow d_int d_int)) (da_cons d_int da_nil))))))) (d_op op_sub l_sub (dv 1) d_int)))) s_nil)
    (s_cons (s_if (t_cmp (op_eqA hr.units) l_eq (dv 1) d_int) (s_one (s_ret (d_lstV (da_cons (d_op op_mulS l_mulS d_str d_int) (da_cons (d_tup (da_cons d_non (da_cons d_int da_nil))) da_nil))))) s_nil)
    (s_one (s_ret (d_frz (d_dict1 d_str (d_tup da_nil))))))))))
theorem w__law_thing (T : Tx K mg A) (G__law_take : FnD P w K mg base 1 T.a__law_take T.fd__law_take [Str.ofString "_law_hand_here", Str.ofString "_law_many"] (sp__law_take A)) (G__law_odd : FnD P w K mg base 2 T.a__law_odd T.fd__law_odd [Str.ofString "_law_hand_here"] (sp__law_odd A)) (cdv : Value) (An : Around) (outer : List Env) (s : Shared) (H : Hp) (E : XK) (hr : RoomG 2 (An.deeper (envOfC "_law_thing" (defScope s__law_thing) s.heap.objs.size T.a__law_thing cdv))) :
    PSs (cxOf (L2.CX P w) P w K mg base N__law_thing "_law_thing" (defScope s__law_thing) T.a__law_thing cdv An outer s H E) (defBody s__law_thing) (lowS K (WF E) (r__law_thing A)) :=
  (s_cons (s_set 1 sc__law_thing.nd (d_call G__law_odd (hr.mono (by decide)) T.m__law_odd T.F__law_odd.kp T.b__law_odd tkF (da_cons (dv 0) da_nil)))
    (s_cons (s_for (passes_of rfl) rfl (i_r1 T.n_range (da_cons (d_call G__law_take (hr.mono (by decide)) T.m__law_take T.F__law_take.kp T.b__law_take tkF (da_cons (dv 0) (da_cons d_int da_nil))) da_nil)) (g_name 2 sc__law_thing.nd) (s_one (s_if (t_cmp (op_eqA hr.units) l_eq (d_call G__law_take (hr.mono (by decide)) T.m__law_take T.F__law_take.kp T.b__law_take tkF (da_cons (dv 0) (da_cons d_int da_nil))) d_int) (s_one (s_set 1 sc__law_thing.nd (d_tup (da_cons (dv 1) (da_cons (dv 2) da_nil))))) (s_one (s_set 1 sc__law_thing.nd (d_lstV (da_cons (dv 2) (da_cons (dv 1) da_nil))))))))
    (s_one (s_ret (dv 1)))))
theorem w__law_all (T : Tx K mg A) (cdv : Value) (An : Around) (outer : List Env) (s : Shared) (H : Hp) (E : XK) (hr : RoomG 2 (An.deeper (envOfC "_law_all" (defScope s__law_all) s.heap.objs.size T.a__law_all cdv))) :
    PSs (cxOf (L2.CX P w) P w K mg base N__law_all "_law_all" (defScope s__law_all) T.a__law_all cdv An outer s H E) (defBody s__law_all) (lowS K (WF E) (r__law_all A)) :=
  (s_cons (s_set 1 sc__law_all.nd (d_lstV (da_cons (d_mkx0 T.x_NoNumber T.m_NoNumber) (da_cons (d_mkx0 T.x_NoSeed T.m_NoSeed) (da_cons (d_mkxF tkF T.o_BadGround T.i_BadGround T.t_BadGround (gi_BadGround T) (hr.mono (by decide)) T.bi_BadGround T.m_BadGround (da_cons (dv 0) da_nil)) (da_cons (d_mkxF tkF T.o_BadProgram T.i_BadProgram T.t_BadProgram (gi_BadProgram T) (hr.mono (by decide)) T.bi_BadProgram T.m_BadProgram (da_cons (dv 0) da_nil)) (da_cons (d_mkxF tkF T.o_BadKind T.i_BadKind T.t_BadKind (gi_BadKind T) (hr.mono (by decide)) T.bi_BadKind T.m_BadKind (da_cons (dv 0) da_nil)) (da_cons (d_mkxF tkF T.o_BadGame T.i_BadGame T.t_BadGame (gi_BadGame T) (hr.mono (by decide)) T.bi_BadGame T.m_BadGame (da_cons (dv 0) da_nil)) (da_cons (d_mkx0 T.x_NoWorld T.m_NoWorld) (da_cons (d_mkx0 T.x_NoBody T.m_NoBody) da_nil))))))))))
    (s_cons (s_set 2 sc__law_all.nd (d_lstV (da_cons (d_mkx0 T.x_NoWay T.m_NoWay) (da_cons (d_mkx0 T.x_NoInputs T.m_NoInputs) (da_cons (d_mkx0 T.x_NoHandler T.m_NoHandler) (da_cons (d_mkx0 T.x_NoCode T.m_NoCode) (da_cons (d_mkxF tkF T.o_NoRows T.i_NoRows T.t_NoRows (gi_NoRows T) (hr.mono (by decide)) T.bi_NoRows T.m_NoRows (da_cons (dv 0) da_nil)) (da_cons (d_mkx0 T.x_NoRow T.m_NoRow) (da_cons (d_mkx0 T.x_NoPlace T.m_NoPlace) (da_cons (d_mkxF tkF T.o_BadRow T.i_BadRow T.t_BadRow (gi_BadRow T) (hr.mono (by decide)) T.bi_BadRow T.m_BadRow (da_cons (dv 0) da_nil)) (da_cons (d_mkxF tkF T.o_BadChange T.i_BadChange T.t_BadChange (gi_BadChange T) (hr.mono (by decide)) T.bi_BadChange T.m_BadChange (da_cons (dv 0) da_nil)) da_nil)))))))))))
    (s_cons (s_set 3 sc__law_all.nd (d_lstV (da_cons (d_mkx0 T.x_NoSeat T.m_NoSeat) (da_cons (d_mkx0 T.x_NotWaiting T.m_NotWaiting) (da_cons (d_mkx0 T.x_NoTick T.m_NoTick) (da_cons (d_mkx0 T.x_NotOpen T.m_NotOpen) (da_cons (d_mkx0 T.x_Gap T.m_Gap) (da_cons (d_mkxF tkF T.o_BadDeed T.i_BadDeed T.t_BadDeed (gi_BadDeed T) (hr.mono (by decide)) T.bi_BadDeed T.m_BadDeed (da_cons (dv 0) da_nil)) (da_cons (d_mkx0 T.x_NoBook T.m_NoBook) (da_cons (d_mkx0 T.x_NoPeer T.m_NoPeer) (da_cons (d_mkx0 T.x_NoRules T.m_NoRules) (da_cons (d_mkx0 T.x_NoPast T.m_NoPast) da_nil))))))))))))
    (s_cons (s_set 4 sc__law_all.nd (d_lstV (da_cons (d_mkx0 T.x_NoLetter T.m_NoLetter) (da_cons (d_mkx0 T.x_NoDeed T.m_NoDeed) (da_cons (d_mkxF tkF T.o_BadDeeds T.i_BadDeeds T.t_BadDeeds (gi_BadDeeds T) (hr.mono (by decide)) T.bi_BadDeeds T.m_BadDeeds (da_cons (dv 0) da_nil)) (da_cons (d_mkx0 T.x_NoCut T.m_NoCut) (da_cons (d_mkx0 T.x_NoBlocks T.m_NoBlocks) (da_cons (d_mkx0 T.x_NoDisk T.m_NoDisk) (da_cons (d_mkx0 T.x_OtherMatch T.m_OtherMatch) (da_cons (d_mkxF tkF T.o_BadTurns T.i_BadTurns T.t_BadTurns (gi_BadTurns T) (hr.mono (by decide)) T.bi_BadTurns T.m_BadTurns (da_cons (dv 0) da_nil)) da_nil))))))))))
    (s_cons (s_set 5 sc__law_all.nd (d_lstV (da_cons (d_mkx0 T.x_OtherGame T.m_OtherGame) (da_cons (d_mkxF tkF T.o_Strayed T.i_Strayed T.t_Strayed (gi_Strayed T) (hr.mono (by decide)) T.bi_Strayed T.m_Strayed (da_cons (dv 0) da_nil)) (da_cons (d_mkx0 T.x_NoNode T.m_NoNode) (da_cons (d_mkx0 T.x_NoReplay T.m_NoReplay) (da_cons (d_mkx0 T.x_NoExpression T.m_NoExpression) (da_cons (d_mkxF tkF T.o_BadText T.i_BadText T.t_BadText (gi_BadText T) (hr.mono (by decide)) T.bi_BadText T.m_BadText (da_cons (dv 0) da_nil)) (da_cons (d_mkx0 T.x_NoProgram T.m_NoProgram) (da_cons (d_mkx0 T.x_NoPicture T.m_NoPicture) da_nil))))))))))
    (s_one (s_ret (d_opV op_addA l_addV (d_opV op_addA l_addV (d_opV op_addA l_addV (d_opV op_addA l_addV (d_opV op_addA l_addV (dv 1) (dv 2)) (dv 3)) (dv 4)) (dv 5)) (d_lstV (da_cons (d_mkx0 T.x_Unlike T.m_Unlike) (da_cons (d_mkx0 T.x_NoChanges T.m_NoChanges) (da_cons (d_mkx0 T.x_NoLine T.m_NoLine) (da_cons (d_mkxF tkF T.o_NoName T.i_NoName T.t_NoName (gi_NoName T) (hr.mono (by decide)) T.bi_NoName T.m_NoName (da_cons (dv 0) da_nil)) da_nil)))))))))))))
theorem w__law_marks (T : Tx K mg A) (cdv : Value) (An : Around) (outer : List Env) (s : Shared) (H : Hp) (E : XK) (hr : RoomG 0 (An.deeper (envOfC "_law_marks" (defScope s__law_marks) s.heap.objs.size T.a__law_marks cdv))) :
    PSs (cxOf (L2.CX P w) P w K mg base N__law_marks "_law_marks" (defScope s__law_marks) T.a__law_marks cdv An outer s H E) (defBody s__law_marks) (lowS K (WF E) (r__law_marks A)) :=
  (s_cons (s_set 1 sc__law_marks.nd (d_lstV (da_cons (d_callB (call_isV T.xis) l_isV T.n_isinstance bt_isinstance (da_cons (dv 0) (da_cons (d_glob T.m_NoNumber v_ref) da_nil))) (da_cons (d_callB (call_isV T.xis) l_isV T.n_isinstance bt_isinstance (da_cons (dv 0) (da_cons (d_glob T.m_NoSeed v_ref) da_nil))) (da_cons (d_callB (call_isV T.xis) l_isV T.n_isinstance bt_isinstance (da_cons (dv 0) (da_cons (d_glob T.m_BadGround v_ref) da_nil))) (da_cons (d_callB (call_isV T.xis) l_isV T.n_isinstance bt_isinstance (da_cons (dv 0) (da_cons (d_glob T.m_BadProgram v_ref) da_nil))) (da_cons (d_callB (call_isV T.xis) l_isV T.n_isinstance bt_isinstance (da_cons (dv 0) (da_cons (d_glob T.m_BadKind v_ref) da_nil))) (da_cons (d_callB (call_isV T.xis) l_isV T.n_isinstance bt_isinstance (da_cons (dv 0) (da_cons (d_glob T.m_BadGame v_ref) da_nil))) (da_cons (d_callB (call_isV T.xis) l_isV T.n_isinstance bt_isinstance (da_cons (dv 0) (da_cons (d_glob T.m_NoWorld v_ref) da_nil))) (da_cons (d_callB (call_isV T.xis) l_isV T.n_isinstance bt_isinstance (da_cons (dv 0) (da_cons (d_glob T.m_NoBody v_ref) da_nil))) da_nil))))))))))
    (s_cons (s_set 2 sc__law_marks.nd (d_lstV (da_cons (d_callB (call_isV T.xis) l_isV T.n_isinstance bt_isinstance (da_cons (dv 0) (da_cons (d_glob T.m_NoWay v_ref) da_nil))) (da_cons (d_callB (call_isV T.xis) l_isV T.n_isinstance bt_isinstance (da_cons (dv 0) (da_cons (d_glob T.m_NoInputs v_ref) da_nil))) (da_cons (d_callB (call_isV T.xis) l_isV T.n_isinstance bt_isinstance (da_cons (dv 0) (da_cons (d_glob T.m_NoHandler v_ref) da_nil))) (da_cons (d_callB (call_isV T.xis) l_isV T.n_isinstance bt_isinstance (da_cons (dv 0) (da_cons (d_glob T.m_NoCode v_ref) da_nil))) (da_cons (d_callB (call_isV T.xis) l_isV T.n_isinstance bt_isinstance (da_cons (dv 0) (da_cons (d_glob T.m_NoRows v_ref) da_nil))) (da_cons (d_callB (call_isV T.xis) l_isV T.n_isinstance bt_isinstance (da_cons (dv 0) (da_cons (d_glob T.m_NoRow v_ref) da_nil))) (da_cons (d_callB (call_isV T.xis) l_isV T.n_isinstance bt_isinstance (da_cons (dv 0) (da_cons (d_glob T.m_NoPlace v_ref) da_nil))) (da_cons (d_callB (call_isV T.xis) l_isV T.n_isinstance bt_isinstance (da_cons (dv 0) (da_cons (d_glob T.m_BadRow v_ref) da_nil))) (da_cons (d_callB (call_isV T.xis) l_isV T.n_isinstance bt_isinstance (da_cons (dv 0) (da_cons (d_glob T.m_BadChange v_ref) da_nil))) da_nil)))))))))))
    (s_cons (s_set 3 sc__law_marks.nd (d_lstV (da_cons (d_callB (call_isV T.xis) l_isV T.n_isinstance bt_isinstance (da_cons (dv 0) (da_cons (d_glob T.m_NoSeat v_ref) da_nil))) (da_cons (d_callB (call_isV T.xis) l_isV T.n_isinstance bt_isinstance (da_cons (dv 0) (da_cons (d_glob T.m_NotWaiting v_ref) da_nil))) (da_cons (d_callB (call_isV T.xis) l_isV T.n_isinstance bt_isinstance (da_cons (dv 0) (da_cons (d_glob T.m_NoTick v_ref) da_nil))) (da_cons (d_callB (call_isV T.xis) l_isV T.n_isinstance bt_isinstance (da_cons (dv 0) (da_cons (d_glob T.m_NotOpen v_ref) da_nil))) (da_cons (d_callB (call_isV T.xis) l_isV T.n_isinstance bt_isinstance (da_cons (dv 0) (da_cons (d_glob T.m_Gap v_ref) da_nil))) (da_cons (d_callB (call_isV T.xis) l_isV T.n_isinstance bt_isinstance (da_cons (dv 0) (da_cons (d_glob T.m_BadDeed v_ref) da_nil))) (da_cons (d_callB (call_isV T.xis) l_isV T.n_isinstance bt_isinstance (da_cons (dv 0) (da_cons (d_glob T.m_NoBook v_ref) da_nil))) (da_cons (d_callB (call_isV T.xis) l_isV T.n_isinstance bt_isinstance (da_cons (dv 0) (da_cons (d_glob T.m_NoPeer v_ref) da_nil))) (da_cons (d_callB (call_isV T.xis) l_isV T.n_isinstance bt_isinstance (da_cons (dv 0) (da_cons (d_glob T.m_NoRules v_ref) da_nil))) (da_cons (d_callB (call_isV T.xis) l_isV T.n_isinstance bt_isinstance (da_cons (dv 0) (da_cons (d_glob T.m_NoPast v_ref) da_nil))) da_nil))))))))))))
    (s_cons (s_set 4 sc__law_marks.nd (d_lstV (da_cons (d_callB (call_isV T.xis) l_isV T.n_isinstance bt_isinstance (da_cons (dv 0) (da_cons (d_glob T.m_NoLetter v_ref) da_nil))) (da_cons (d_callB (call_isV T.xis) l_isV T.n_isinstance bt_isinstance (da_cons (dv 0) (da_cons (d_glob T.m_NoDeed v_ref) da_nil))) (da_cons (d_callB (call_isV T.xis) l_isV T.n_isinstance bt_isinstance (da_cons (dv 0) (da_cons (d_glob T.m_BadDeeds v_ref) da_nil))) (da_cons (d_callB (call_isV T.xis) l_isV T.n_isinstance bt_isinstance (da_cons (dv 0) (da_cons (d_glob T.m_NoCut v_ref) da_nil))) (da_cons (d_callB (call_isV T.xis) l_isV T.n_isinstance bt_isinstance (da_cons (dv 0) (da_cons (d_glob T.m_NoBlocks v_ref) da_nil))) (da_cons (d_callB (call_isV T.xis) l_isV T.n_isinstance bt_isinstance (da_cons (dv 0) (da_cons (d_glob T.m_NoDisk v_ref) da_nil))) (da_cons (d_callB (call_isV T.xis) l_isV T.n_isinstance bt_isinstance (da_cons (dv 0) (da_cons (d_glob T.m_OtherMatch v_ref) da_nil))) (da_cons (d_callB (call_isV T.xis) l_isV T.n_isinstance bt_isinstance (da_cons (dv 0) (da_cons (d_glob T.m_BadTurns v_ref) da_nil))) da_nil))))))))))
    (s_cons (s_set 5 sc__law_marks.nd (d_lstV (da_cons (d_callB (call_isV T.xis) l_isV T.n_isinstance bt_isinstance (da_cons (dv 0) (da_cons (d_glob T.m_OtherGame v_ref) da_nil))) (da_cons (d_callB (call_isV T.xis) l_isV T.n_isinstance bt_isinstance (da_cons (dv 0) (da_cons (d_glob T.m_Strayed v_ref) da_nil))) (da_cons (d_callB (call_isV T.xis) l_isV T.n_isinstance bt_isinstance (da_cons (dv 0) (da_cons (d_glob T.m_NoNode v_ref) da_nil))) (da_cons (d_callB (call_isV T.xis) l_isV T.n_isinstance bt_isinstance (da_cons (dv 0) (da_cons (d_glob T.m_NoReplay v_ref) da_nil))) (da_cons (d_callB (call_isV T.xis) l_isV T.n_isinstance bt_isinstance (da_cons (dv 0) (da_cons (d_glob T.m_NoExpression v_ref) da_nil))) (da_cons (d_callB (call_isV T.xis) l_isV T.n_isinstance bt_isinstance (da_cons (dv 0) (da_cons (d_glob T.m_BadText v_ref) da_nil))) (da_cons (d_callB (call_isV T.xis) l_isV T.n_isinstance bt_isinstance (da_cons (dv 0) (da_cons (d_glob T.m_NoProgram v_ref) da_nil))) (da_cons (d_callB (call_isV T.xis) l_isV T.n_isinstance bt_isinstance (da_cons (dv 0) (da_cons (d_glob T.m_NoPicture v_ref) da_nil))) da_nil))))))))))
    (s_cons (s_set 6 sc__law_marks.nd (d_lstV (da_cons (d_callB (call_isV T.xis) l_isV T.n_isinstance bt_isinstance (da_cons (dv 0) (da_cons (d_glob T.m_Unlike v_ref) da_nil))) (da_cons (d_callB (call_isV T.xis) l_isV T.n_isinstance bt_isinstance (da_cons (dv 0) (da_cons (d_glob T.m_NoChanges v_ref) da_nil))) (da_cons (d_callB (call_isV T.xis) l_isV T.n_isinstance bt_isinstance (da_cons (dv 0) (da_cons (d_glob T.m_NoLine v_ref) da_nil))) (da_cons (d_callB (call_isV T.xis) l_isV T.n_isinstance bt_isinstance (da_cons (dv 0) (da_cons (d_glob T.m_NoName v_ref) da_nil))) da_nil))))))
    (s_one (s_ret (d_opV op_addA l_addV (d_opV op_addA l_addV (d_opV op_addA l_addV (d_opV op_addA l_addV (d_opV op_addA l_addV (dv 1) (dv 2)) (dv 3)) (dv 4)) (dv 5)) (dv 6))))))))))
theorem w__law_alien (T : Tx K mg A) (cdv : Value) (An : Around) (outer : List Env) (s : Shared) (H : Hp) (E : XK) (hr : RoomG 0 (An.deeper (envOfC "_law_alien" (defScope s__law_alien) s.heap.objs.size T.a__law_alien cdv))) :
    PSs (cxOf (L2.CX P w) P w K mg base N__law_alien "_law_alien" (defScope s__law_alien) T.a__law_alien cdv An outer s H E) (defBody s__law_alien) (lowS K (WF E) (r__law_alien A)) :=
  (s_one (s_ret (d_or (d_callB (call_isV T.xis) l_isV T.n_isinstance bt_isinstance (da_cons (dv 0) (da_cons (d_ty T.n_KeyError bt_KeyError) da_nil))) (d_or (d_callB (call_isV T.xis) l_isV T.n_isinstance bt_isinstance (da_cons (dv 0) (da_cons (d_ty T.n_IndexError bt_IndexError) da_nil))) (d_one (d_callB (call_isV T.xis) l_isV T.n_isinstance bt_isinstance (da_cons (dv 0) (da_cons (d_ty T.n_ArithmeticError bt_ArithmeticError) da_nil))))))))
theorem w__law_fields (T : Tx K mg A) (cdv : Value) (An : Around) (outer : List Env) (s : Shared) (H : Hp) (E : XK) (hr : RoomG 0 (An.deeper (envOfC "_law_fields" (defScope s__law_fields) s.heap.objs.size T.a__law_fields cdv))) :
    PSs (cxOf (L2.CX P w) P w K mg base N__law_fields "_law_fields" (defScope s__law_fields) T.a__law_fields cdv An outer s H E) (defBody s__law_fields) (lowS K (WF E) (r__law_fields A)) :=
  (s_cons (s_set 1 sc__law_fields.nd (d_lstV (da_cons (d_xv (P := fun C => C ∈ [A.BadGround, A.BadProgram, A.BadKind, A.BadGame]) (xv_cons T.z_BadGround T.nf_BadGround (xv_cons T.z_BadProgram T.nf_BadProgram (xv_cons T.z_BadKind T.nf_BadKind (xv_cons T.z_BadGame T.nf_BadGame xv_nil)))) (d_ix (dv 0) d_int)) (da_cons (d_xv (P := fun C => C ∈ [A.BadGround, A.BadProgram, A.BadKind, A.BadGame]) (xv_cons T.z_BadGround T.nf_BadGround (xv_cons T.z_BadProgram T.nf_BadProgram (xv_cons T.z_BadKind T.nf_BadKind (xv_cons T.z_BadGame T.nf_BadGame xv_nil)))) (d_ix (dv 0) d_int)) (da_cons (d_xv (P := fun C => C ∈ [A.BadGround, A.BadProgram, A.BadKind, A.BadGame]) (xv_cons T.z_BadGround T.nf_BadGround (xv_cons T.z_BadProgram T.nf_BadProgram (xv_cons T.z_BadKind T.nf_BadKind (xv_cons T.z_BadGame T.nf_BadGame xv_nil)))) (d_ix (dv 0) d_int)) (da_cons (d_xv (P := fun C => C ∈ [A.BadGround, A.BadProgram, A.BadKind, A.BadGame]) (xv_cons T.z_BadGround T.nf_BadGround (xv_cons T.z_BadProgram T.nf_BadProgram (xv_cons T.z_BadKind T.nf_BadKind (xv_cons T.z_BadGame T.nf_BadGame xv_nil)))) (d_ix (dv 0) d_int)) (da_cons (d_xv (P := fun C => C ∈ [A.NoRows, A.BadDeed, A.BadDeeds, A.BadTurns]) (xv_cons T.z_NoRows T.nf_NoRows (xv_cons T.z_BadDeed T.nf_BadDeed (xv_cons T.z_BadDeeds T.nf_BadDeeds (xv_cons T.z_BadTurns T.nf_BadTurns xv_nil)))) (d_ix (dv 0) d_int)) (da_cons (d_xv (P := fun C => C ∈ [A.BadRow, A.BadChange]) (xv_cons T.z_BadRow T.nf_BadRow (xv_cons T.z_BadChange T.nf_BadChange xv_nil)) (d_ix (dv 0) d_int)) da_nil))))))))
    (s_cons (s_set 2 sc__law_fields.nd (d_lstV (da_cons (d_xv (P := fun C => C ∈ [A.BadRow, A.BadChange]) (xv_cons T.z_BadRow T.nf_BadRow (xv_cons T.z_BadChange T.nf_BadChange xv_nil)) (d_ix (dv 0) d_int)) (da_cons (d_xv (P := fun C => C ∈ [A.NoRows, A.BadDeed, A.BadDeeds, A.BadTurns]) (xv_cons T.z_NoRows T.nf_NoRows (xv_cons T.z_BadDeed T.nf_BadDeed (xv_cons T.z_BadDeeds T.nf_BadDeeds (xv_cons T.z_BadTurns T.nf_BadTurns xv_nil)))) (d_ix (dv 0) d_int)) (da_cons (d_xv (P := fun C => C ∈ [A.NoRows, A.BadDeed, A.BadDeeds, A.BadTurns]) (xv_cons T.z_NoRows T.nf_NoRows (xv_cons T.z_BadDeed T.nf_BadDeed (xv_cons T.z_BadDeeds T.nf_BadDeeds (xv_cons T.z_BadTurns T.nf_BadTurns xv_nil)))) (d_ix (dv 0) d_int)) (da_cons (d_xv (P := fun C => C ∈ [A.NoRows, A.BadDeed, A.BadDeeds, A.BadTurns]) (xv_cons T.z_NoRows T.nf_NoRows (xv_cons T.z_BadDeed T.nf_BadDeed (xv_cons T.z_BadDeeds T.nf_BadDeeds (xv_cons T.z_BadTurns T.nf_BadTurns xv_nil)))) (d_ix (dv 0) d_int)) (da_cons (d_xv (P := fun C => C ∈ [A.Strayed]) (xv_cons T.z_Strayed T.nf_Strayed xv_nil) (d_ix (dv 0) d_int)) da_nil)))))))
    (s_one (s_ret (d_opV op_addA l_addV (d_opV op_addA l_addV (dv 1) (dv 2)) (d_lstV (da_cons (d_xv (P := fun C => C ∈ [A.BadText]) (xv_cons T.z_BadText T.nf_BadText xv_nil) (d_ix (dv 0) d_int)) (da_cons (d_xv (P := fun C => C ∈ [A.NoName]) (xv_cons T.z_NoName T.nf_NoName xv_nil) (d_ix (dv 0) d_int)) da_nil))))))))
theorem w__law_raise (T : Tx K mg A) (cdv : Value) (An : Around) (outer : List Env) (s : Shared) (H : Hp) (E : XK) (hr : RoomG 2 (An.deeper (envOfC "_law_raise" (defScope s__law_raise) s.heap.objs.size T.a__law_raise cdv))) :
    PSs (cxOf (L2.CX P w) P w K mg base N__law_raise "_law_raise" (defScope s__law_raise) T.a__law_raise cdv An outer s H E) (defBody s__law_raise) (lowS K (WF E) (r__law_raise A)) :=
  (s_cons (s_if (t_cmp (op_eqA hr.units) l_eq (dv 0) d_int) (s_one (s_raise1 rfl tkF T.o_BadGround T.i_BadGround T.t_BadGround (gi_BadGround T) (hr.mono (by decide)) T.bi_BadGround T.m_BadGround (da_cons (dv 1) da_nil))) s_nil)
    (s_cons (s_if (t_cmp (op_eqA hr.units) l_eq (dv 0) d_int) (s_one (s_raise1 rfl tkF T.o_BadProgram T.i_BadProgram T.t_BadProgram (gi_BadProgram T) (hr.mono (by decide)) T.bi_BadProgram T.m_BadProgram (da_cons (dv 1) da_nil))) s_nil)
    (s_cons (s_if (t_cmp (op_eqA hr.units) l_eq (dv 0) d_int) (s_one (s_raise1 rfl tkF T.o_BadKind T.i_BadKind T.t_BadKind (gi_BadKind T) (hr.mono (by decide)) T.bi_BadKind T.m_BadKind (da_cons (dv 1) da_nil))) s_nil)
    (s_cons (s_if (t_cmp (op_eqA hr.units) l_eq (dv 0) d_int) (s_one (s_raise1 rfl tkF T.o_BadGame T.i_BadGame T.t_BadGame (gi_BadGame T) (hr.mono (by decide)) T.bi_BadGame T.m_BadGame (da_cons (dv 1) da_nil))) s_nil)
    (s_cons (s_if (t_cmp (op_eqA hr.units) l_eq (dv 0) d_int) (s_one (s_raise1 rfl tkF T.o_NoRows T.i_NoRows T.t_NoRows (gi_NoRows T) (hr.mono (by decide)) T.bi_NoRows T.m_NoRows (da_cons (dv 1) da_nil))) s_nil)
    (s_cons (s_if (t_cmp (op_eqA hr.units) l_eq (dv 0) d_int) (s_one (s_raise1 rfl tkF T.o_BadRow T.i_BadRow T.t_BadRow (gi_BadRow T) (hr.mono (by decide)) T.bi_BadRow T.m_BadRow (da_cons (dv 1) da_nil))) s_nil)
    (s_cons (s_if (t_cmp (op_eqA hr.units) l_eq (dv 0) d_int) (s_one (s_raise1 rfl tkF T.o_BadChange T.i_BadChange T.t_BadChange (gi_BadChange T) (hr.mono (by decide)) T.bi_BadChange T.m_BadChange (da_cons (dv 1) da_nil))) s_nil)
    (s_cons (s_if (t_cmp (op_eqA hr.units) l_eq (dv 0) d_int) (s_one (s_raise1 rfl tkF T.o_BadDeed T.i_BadDeed T.t_BadDeed (gi_BadDeed T) (hr.mono (by decide)) T.bi_BadDeed T.m_BadDeed (da_cons (dv 1) da_nil))) s_nil)
    (s_cons (s_if (t_cmp (op_eqA hr.units) l_eq (dv 0) d_int) (s_one (s_raise1 rfl tkF T.o_BadDeeds T.i_BadDeeds T.t_BadDeeds (gi_BadDeeds T) (hr.mono (by decide)) T.bi_BadDeeds T.m_BadDeeds (da_cons (dv 1) da_nil))) s_nil)
    (s_cons (s_if (t_cmp (op_eqA hr.units) l_eq (dv 0) d_int) (s_one (s_raise1 rfl tkF T.o_BadTurns T.i_BadTurns T.t_BadTurns (gi_BadTurns T) (hr.mono (by decide)) T.bi_BadTurns T.m_BadTurns (da_cons (dv 1) da_nil))) s_nil)
    (s_cons (s_if (t_cmp (op_eqA hr.units) l_eq (dv 0) d_int) (s_one (s_raise1 rfl tkF T.o_Strayed T.i_Strayed T.t_Strayed (gi_Strayed T) (hr.mono (by decide)) T.bi_Strayed T.m_Strayed (da_cons (dv 1) da_nil))) s_nil)
    (s_cons (s_if (t_cmp (op_eqA hr.units) l_eq (dv 0) d_int) (s_one (s_raise1 rfl tkF T.o_BadText T.i_BadText T.t_BadText (gi_BadText T) (hr.mono (by decide)) T.bi_BadText T.m_BadText (da_cons (dv 1) da_nil))) s_nil)
    (s_one (s_raise1 rfl tkF T.o_NoName T.i_NoName T.t_NoName (gi_NoName T) (hr.mono (by decide)) T.bi_NoName T.m_NoName (da_cons (dv 1) da_nil)))))))))))))))
theorem w__law_caught (T : Tx K mg A) (G__law_raise : FnD P w K mg base 3 T.a__law_raise T.fd__law_raise [Str.ofString "_law_which", Str.ofString "_law_thing_here"] (sp__law_raise A)) (cdv : Value) (An : Around) (outer : List Env) (s : Shared) (H : Hp) (E : XK) (hr : RoomG 3 (An.deeper (envOfC "_law_caught" (defScope s__law_caught) s.heap.objs.size T.a__law_caught cdv))) :
    PSs (cxOf (L2.CX P w) P w K mg base N__law_caught "_law_caught" (defScope s__law_caught) T.a__law_caught cdv An outer s H E) (defBody s__law_caught) (lowS K (WF E) (r__law_caught A)) :=
  (s_cons (s_mix sc__law_caught.nd (fun W2 pn2 xe2 tk2 => (s_one (s_expr (d_call G__law_raise (hr.mono (by decide)) T.m__law_raise T.F__law_raise.kp T.b__law_raise tk2 (da_cons (dv 0) (da_cons (dv 1) da_nil)))))) (.nm (nm_own T.m_BadGround) (tabs_cons T.e_BadGround_BadGround (tabs_cons T.e_BadProgram_BadGround (tabs_cons T.e_BadKind_BadGround (tabs_cons T.e_BadGame_BadGround (tabs_cons T.e_NoRows_BadGround (tabs_cons T.e_BadRow_BadGround (tabs_cons T.e_BadChange_BadGround (tabs_cons T.e_BadDeed_BadGround (tabs_cons T.e_BadDeeds_BadGround (tabs_cons T.e_BadTurns_BadGround (tabs_cons T.e_Strayed_BadGround (tabs_cons T.e_BadText_BadGround (tabs_cons T.e_NoName_BadGround tabs_nil))))))))))))) (fun ea oe ecls eda pn hz hf => (s_one (s_ret (d_tup (da_cons d_int (da_cons (d_xf T.z_BadGround T.nf_BadGround hz hf (dv 2)) da_nil)))))) (.nm (nm_own T.m_BadProgram) (tabs_cons T.e_BadGround_BadProgram (tabs_cons T.e_BadProgram_BadProgram (tabs_cons T.e_BadKind_BadProgram (tabs_cons T.e_BadGame_BadProgram (tabs_cons T.e_NoRows_BadProgram (tabs_cons T.e_BadRow_BadProgram (tabs_cons T.e_BadChange_BadProgram (tabs_cons T.e_BadDeed_BadProgram (tabs_cons T.e_BadDeeds_BadProgram (tabs_cons T.e_BadTurns_BadProgram (tabs_cons T.e_Strayed_BadProgram (tabs_cons T.e_BadText_BadProgram (tabs_cons T.e_NoName_BadProgram tabs_nil))))))))))))) (fun ea oe ecls eda pn hz hf => (s_one (s_ret (d_tup (da_cons d_int (da_cons (d_xf T.z_BadProgram T.nf_BadProgram hz hf (dv 2)) da_nil)))))) (.nm (nm_own T.m_BadKind) (tabs_cons T.e_BadGround_BadKind (tabs_cons T.e_BadProgram_BadKind (tabs_cons T.e_BadKind_BadKind (tabs_cons T.e_BadGame_BadKind (tabs_cons T.e_NoRows_BadKind (tabs_cons T.e_BadRow_BadKind (tabs_cons T.e_BadChange_BadKind (tabs_cons T.e_BadDeed_BadKind (tabs_cons T.e_BadDeeds_BadKind (tabs_cons T.e_BadTurns_BadKind (tabs_cons T.e_Strayed_BadKind (tabs_cons T.e_BadText_BadKind (tabs_cons T.e_NoName_BadKind tabs_nil))))))))))))) (fun ea oe ecls eda pn hz hf => (s_one (s_ret (d_tup (da_cons d_int (da_cons (d_xf T.z_BadKind T.nf_BadKind hz hf (dv 2)) da_nil)))))) (.nm (nm_own T.m_BadGame) (tabs_cons T.e_BadGround_BadGame (tabs_cons T.e_BadProgram_BadGame (tabs_cons T.e_BadKind_BadGame (tabs_cons T.e_BadGame_BadGame (tabs_cons T.e_NoRows_BadGame (tabs_cons T.e_BadRow_BadGame (tabs_cons T.e_BadChange_BadGame (tabs_cons T.e_BadDeed_BadGame (tabs_cons T.e_BadDeeds_BadGame (tabs_cons T.e_BadTurns_BadGame (tabs_cons T.e_Strayed_BadGame (tabs_cons T.e_BadText_BadGame (tabs_cons T.e_NoName_BadGame tabs_nil))))))))))))) (fun ea oe ecls eda pn hz hf => (s_one (s_ret (d_tup (da_cons d_int (da_cons (d_xf T.z_BadGame T.nf_BadGame hz hf (dv 2)) da_nil)))))) (.nm (nm_own T.m_NoRows) (tabs_cons T.e_BadGround_NoRows (tabs_cons T.e_BadProgram_NoRows (tabs_cons T.e_BadKind_NoRows (tabs_cons T.e_BadGame_NoRows (tabs_cons T.e_NoRows_NoRows (tabs_cons T.e_BadRow_NoRows (tabs_cons T.e_BadChange_NoRows (tabs_cons T.e_BadDeed_NoRows (tabs_cons T.e_BadDeeds_NoRows (tabs_cons T.e_BadTurns_NoRows (tabs_cons T.e_Strayed_NoRows (tabs_cons T.e_BadText_NoRows (tabs_cons T.e_NoName_NoRows tabs_nil))))))))))))) (fun ea oe ecls eda pn hz hf => (s_one (s_ret (d_tup (da_cons d_int (da_cons (d_xf T.z_NoRows T.nf_NoRows hz hf (dv 2)) da_nil)))))) (.nm (nm_own T.m_BadRow) (tabs_cons T.e_BadGround_BadRow (tabs_cons T.e_BadProgram_BadRow (tabs_cons T.e_BadKind_BadRow (tabs_cons T.e_BadGame_BadRow (tabs_cons T.e_NoRows_BadRow (tabs_cons T.e_BadRow_BadRow (tabs_cons T.e_BadChange_BadRow (tabs_cons T.e_BadDeed_BadRow (tabs_cons T.e_BadDeeds_BadRow (tabs_cons T.e_BadTurns_BadRow (tabs_cons T.e_Strayed_BadRow (tabs_cons T.e_BadText_BadRow (tabs_cons T.e_NoName_BadRow tabs_nil))))))))))))) (fun ea oe ecls eda pn hz hf => (s_one (s_ret (d_tup (da_cons d_int (da_cons (d_xf T.z_BadRow T.nf_BadRow hz hf (dv 2)) da_nil)))))) (.nm (nm_own T.m_BadChange) (tabs_cons T.e_BadGround_BadChange (tabs_cons T.e_BadProgram_BadChange (tabs_cons T.e_BadKind_BadChange (tabs_cons T.e_BadGame_BadChange (tabs_cons T.e_NoRows_BadChange (tabs_cons T.e_BadRow_BadChange (tabs_cons T.e_BadChange_BadChange (tabs_cons T.e_BadDeed_BadChange (tabs_cons T.e_BadDeeds_BadChange (tabs_cons T.e_BadTurns_BadChange (tabs_cons T.e_Strayed_BadChange (tabs_cons T.e_BadText_BadChange (tabs_cons T.e_NoName_BadChange tabs_nil))))))))))))) (fun ea oe ecls eda pn hz hf => (s_one (s_ret (d_tup (da_cons d_int (da_cons (d_xf T.z_BadChange T.nf_BadChange hz hf (dv 2)) da_nil)))))) (.nm (nm_own T.m_BadDeed) (tabs_cons T.e_BadGround_BadDeed (tabs_cons T.e_BadProgram_BadDeed (tabs_cons T.e_BadKind_BadDeed (tabs_cons T.e_BadGame_BadDeed (tabs_cons T.e_NoRows_BadDeed (tabs_cons T.e_BadRow_BadDeed (tabs_cons T.e_BadChange_BadDeed (tabs_cons T.e_BadDeed_BadDeed (tabs_cons T.e_BadDeeds_BadDeed (tabs_cons T.e_BadTurns_BadDeed (tabs_cons T.e_Strayed_BadDeed (tabs_cons T.e_BadText_BadDeed (tabs_cons T.e_NoName_BadDeed tabs_nil))))))))))))) (fun ea oe ecls eda pn hz hf => (s_one (s_ret (d_tup (da_cons d_int (da_cons (d_xf T.z_BadDeed T.nf_BadDeed hz hf (dv 2)) da_nil)))))) (.nm (nm_own T.m_BadDeeds) (tabs_cons T.e_BadGround_BadDeeds (tabs_cons T.e_BadProgram_BadDeeds (tabs_cons T.e_BadKind_BadDeeds (tabs_cons T.e_BadGame_BadDeeds (tabs_cons T.e_NoRows_BadDeeds (tabs_cons T.e_BadRow_BadDeeds (tabs_cons T.e_BadChange_BadDeeds (tabs_cons T.e_BadDeed_BadDeeds (tabs_cons T.e_BadDeeds_BadDeeds (tabs_cons T.e_BadTurns_BadDeeds (tabs_cons T.e_Strayed_BadDeeds (tabs_cons T.e_BadText_BadDeeds (tabs_cons T.e_NoName_BadDeeds tabs_nil))))))))))))) (fun ea oe ecls eda pn hz hf => (s_one (s_ret (d_tup (da_cons d_int (da_cons (d_xf T.z_BadDeeds T.nf_BadDeeds hz hf (dv 2)) da_nil)))))) (.nm (nm_own T.m_BadTurns) (tabs_cons T.e_BadGround_BadTurns (tabs_cons T.e_BadProgram_BadTurns (tabs_cons T.e_BadKind_BadTurns (tabs_cons T.e_BadGame_BadTurns (tabs_cons T.e_NoRows_BadTurns (tabs_cons T.e_BadRow_BadTurns (tabs_cons T.e_BadChange_BadTurns (tabs_cons T.e_BadDeed_BadTurns (tabs_cons T.e_BadDeeds_BadTurns (tabs_cons T.e_BadTurns_BadTurns (tabs_cons T.e_Strayed_BadTurns (tabs_cons T.e_BadText_BadTurns (tabs_cons T.e_NoName_BadTurns tabs_nil))))))))))))) (fun ea oe ecls eda pn hz hf => (s_one (s_ret (d_tup (da_cons d_int (da_cons (d_xf T.z_BadTurns T.nf_BadTurns hz hf (dv 2)) da_nil)))))) (.nm (nm_own T.m_Strayed) (tabs_cons T.e_BadGround_Strayed (tabs_cons T.e_BadProgram_Strayed (tabs_cons T.e_BadKind_Strayed (tabs_cons T.e_BadGame_Strayed (tabs_cons T.e_NoRows_Strayed (tabs_cons T.e_BadRow_Strayed (tabs_cons T.e_BadChange_Strayed (tabs_cons T.e_BadDeed_Strayed (tabs_cons T.e_BadDeeds_Strayed (tabs_cons T.e_BadTurns_Strayed (tabs_cons T.e_Strayed_Strayed (tabs_cons T.e_BadText_Strayed (tabs_cons T.e_NoName_Strayed tabs_nil))))))))))))) (fun ea oe ecls eda pn hz hf => (s_one (s_ret (d_tup (da_cons d_int (da_cons (d_xf T.z_Strayed T.nf_Strayed hz hf (dv 2)) da_nil)))))) (.nm (nm_own T.m_BadText) (tabs_cons T.e_BadGround_BadText (tabs_cons T.e_BadProgram_BadText (tabs_cons T.e_BadKind_BadText (tabs_cons T.e_BadGame_BadText (tabs_cons T.e_NoRows_BadText (tabs_cons T.e_BadRow_BadText (tabs_cons T.e_BadChange_BadText (tabs_cons T.e_BadDeed_BadText (tabs_cons T.e_BadDeeds_BadText (tabs_cons T.e_BadTurns_BadText (tabs_cons T.e_Strayed_BadText (tabs_cons T.e_BadText_BadText (tabs_cons T.e_NoName_BadText tabs_nil))))))))))))) (fun ea oe ecls eda pn hz hf => (s_one (s_ret (d_tup (da_cons d_int (da_cons (d_xf T.z_BadText T.nf_BadText hz hf (dv 2)) da_nil)))))) (.nm (nm_own T.m_NoName) (tabs_cons T.e_BadGround_NoName (tabs_cons T.e_BadProgram_NoName (tabs_cons T.e_BadKind_NoName (tabs_cons T.e_BadGame_NoName (tabs_cons T.e_NoRows_NoName (tabs_cons T.e_BadRow_NoName (tabs_cons T.e_BadChange_NoName (tabs_cons T.e_BadDeed_NoName (tabs_cons T.e_BadDeeds_NoName (tabs_cons T.e_BadTurns_NoName (tabs_cons T.e_Strayed_NoName (tabs_cons T.e_BadText_NoName (tabs_cons T.e_NoName_NoName tabs_nil))))))))))))) (fun ea oe ecls eda pn hz hf => (s_one (s_ret (d_tup (da_cons d_int (da_cons (d_xf T.z_NoName T.nf_NoName hz hf (dv 2)) da_nil)))))) .nil))))))))))))))
    (s_one (s_ret (d_tup (da_cons d_int (da_cons d_non da_nil))))))
theorem w__law_based (T : Tx K mg A) (G__law_raise : FnD P w K mg base 3 T.a__law_raise T.fd__law_raise [Str.ofString "_law_which", Str.ofString "_law_thing_here"] (sp__law_raise A)) (cdv : Value) (An : Around) (outer : List Env) (s : Shared) (H : Hp) (E : XK) (hr : RoomG 3 (An.deeper (envOfC "_law_based" (defScope s__law_based) s.heap.objs.size T.a__law_based cdv))) :
    PSs (cxOf (L2.CX P w) P w K mg base N__law_based "_law_based" (defScope s__law_based) T.a__law_based cdv An outer s H E) (defBody s__law_based) (lowS K (WF E) (r__law_based A)) :=
  (s_cons (s_try tkF (fun W2 pn2 xe2 tk2 => (s_one (s_expr (d_call G__law_raise (hr.mono (by decide)) T.m__law_raise T.F__law_raise.kp T.b__law_raise tk2 (da_cons (dv 0) (da_cons (dv 1) da_nil)))))) (.cons (nm_own T.m_WorldError) (tabs_cons T.e_BadGround_WorldError (tabs_cons T.e_BadProgram_WorldError (tabs_cons T.e_BadKind_WorldError (tabs_cons T.e_BadGame_WorldError (tabs_cons T.e_NoRows_WorldError (tabs_cons T.e_BadRow_WorldError (tabs_cons T.e_BadChange_WorldError (tabs_cons T.e_BadDeed_WorldError (tabs_cons T.e_BadDeeds_WorldError (tabs_cons T.e_BadTurns_WorldError (tabs_cons T.e_Strayed_WorldError (tabs_cons T.e_BadText_WorldError (tabs_cons T.e_NoName_WorldError tabs_nil))))))))))))) (fun _ _ => (s_one (s_ret d_bl))) .nil))
    (s_one (s_ret d_bl)))
theorem w_law (T : Tx K mg A) (G__law_hand : FnD P w K mg base 1 T.a__law_hand T.fd__law_hand [Str.ofString "_law_script"] (sp__law_hand A)) (G__law_take : FnD P w K mg base 1 T.a__law_take T.fd__law_take [Str.ofString "_law_hand_here", Str.ofString "_law_many"] (sp__law_take A)) (G__law_thing : FnD P w K mg base 3 T.a__law_thing T.fd__law_thing [Str.ofString "_law_hand_here"] (sp__law_thing A)) (G__law_all : FnD P w K mg base 3 T.a__law_all T.fd__law_all [Str.ofString "_law_thing_here"] (sp__law_all A)) (G__law_marks : FnD P w K mg base 1 T.a__law_marks T.fd__law_marks [Str.ofString "_law_one"] (sp__law_marks A)) (G__law_alien : FnD P w K mg base 1 T.a__law_alien T.fd__law_alien [Str.ofString "_law_one"] (sp__law_alien A)) (G__law_fields : FnD P w K mg base 1 T.a__law_fields T.fd__law_fields [Str.ofString "_law_errors"] (sp__law_fields A)) (G__law_caught : FnD P w K mg base 4 T.a__law_caught T.fd__law_caught [Str.ofString "_law_which", Str.ofString "_law_thing_here"] (sp__law_caught A)) (G__law_based : FnD P w K mg base 4 T.a__law_based T.fd__law_based [Str.ofString "_law_which", Str.ofString "_law_thing_here"] (sp__law_based A)) (HB : SysB base) (cdv : Value) (An : Around) (outer : List Env) (s : Shared) (H : Hp) (E : XK) (hr : RoomG 4 (An.deeper (envOfC "law" (defScope s_law) s.heap.objs.size T.a_law cdv))) :
    PSs (cxOf (L2.CX P w) P w K mg base N_law "law" (defScope s_law) T.a_law cdv An outer s H E) (defBody s_law) (lowS K (WF E) (r_law A)) :=
  (s_cons (s_set 1 sc_law.nd (d_call G__law_hand (hr.mono (by decide)) T.m__law_hand T.F__law_hand.kp T.b__law_hand tkF (da_cons (dv 0) da_nil)))
    (s_cons (s_set 2 sc_law.nd (d_call G__law_take (hr.mono (by decide)) T.m__law_take T.F__law_take.kp T.b__law_take tkF (da_cons (dv 1) (da_cons d_int da_nil))))
    (s_cons (s_set 3 sc_law.nd (d_call G__law_thing (hr.mono (by decide)) T.m__law_thing T.F__law_thing.kp T.b__law_thing tkF (da_cons (dv 1) da_nil)))
    (s_cons (s_set 4 sc_law.nd (d_callB (call_reprR HB hr.g hr.u80) l_reprR T.n_repr bt_repr (da_cons (dv 3) da_nil)))
    (s_cons (s_set 5 sc_law.nd (d_call G__law_all (hr.mono (by decide)) T.m__law_all T.F__law_all.kp T.b__law_all tkF (da_cons (dv 3) da_nil)))
    (s_cons (s_for (passes_of rfl) rfl (i_r1 T.n_range (da_cons (d_callB call_len l_len T.n_len bt_len (da_cons (dv 5) da_nil)) da_nil)) (g_name 6 sc_law.nd) (s_cons (s_if (PW.pt (t_or (t_not (t_val (d_callB (call_isV T.xis) l_isV T.n_isinstance bt_isinstance (da_cons (d_ix (dv 5) (dv 6)) (da_cons (d_glob T.m_WorldError v_ref) da_nil))))) (t_or (t_not (t_val (d_callB (call_isV T.xis) l_isV T.n_isinstance bt_isinstance (da_cons (d_ix (dv 5) (dv 6)) (da_cons (d_ty T.n_ValueError bt_ValueError) da_nil))))) (t_or1 (t_val (d_call G__law_alien (hr.mono (by decide)) T.m__law_alien T.F__law_alien.kp T.b__law_alien tkF (da_cons (d_ix (dv 5) (dv 6)) da_nil))))))) (s_one (s_ret d_bl)) s_nil)
    (s_cons (s_set 7 sc_law.nd (d_call G__law_marks (hr.mono (by decide)) T.m__law_marks T.F__law_marks.kp T.b__law_marks tkF (da_cons (d_ix (dv 5) (dv 6)) da_nil)))
    (s_one (s_if (t_cmp (op_neA hr.units) l_eq (d_frz (d_lc (own := [(Str.ofString "_law_j", 10)]) rfl sc_law.nd (i_r1 T.n_range (da_cons (d_callB call_len l_len T.n_len bt_len (da_cons (dv 7) da_nil)) da_nil)) (blkOk_by (N := N_law) (sc := defScope s_law) (by decide +kernel)) (fun _ _ _ _ _ => (pg_name (i := 10) sc_law.nd rfl (Or.inl rfl))) (ng_name (by decide)) (fun _ _ _ _ _ => (c_one (t_val (d_ix (dv 7) (dv 10))))) (fun _ _ _ _ _ => (dv 10)))) (d_lstV (da_cons (dv 6) da_nil))) (s_one (s_ret d_bl)) s_nil)))))
    (s_cons (s_for (passes_of rfl) rfl (i_seq (d_call G__law_fields (hr.mono (by decide)) T.m__law_fields T.F__law_fields.kp T.b__law_fields tkF (da_cons (dv 5) da_nil))) (g_name 8 sc_law.nd) (s_one (s_if (t_cmp (op_neA hr.units) l_eq (d_callB (call_reprR HB hr.g hr.u80) l_reprR T.n_repr bt_repr (da_cons (dv 8) da_nil)) (dv 4)) (s_one (s_ret d_bl)) s_nil)))
    (s_cons (s_if (PW.pt (t_or (t_val (d_callB (call_isV T.xis) l_isV T.n_isinstance bt_isinstance (da_cons (d_mkx0 T.x_WorldError T.m_WorldError) (da_cons (d_glob T.m_NoNumber v_ref) da_nil)))) (t_or1 (t_not (t_val (d_callB (call_isV T.xis) l_isV T.n_isinstance bt_isinstance (da_cons (d_mkx0 T.x_WorldError T.m_WorldError) (da_cons (d_ty T.n_ValueError bt_ValueError) da_nil)))))))) (s_one (s_ret d_bl)) s_nil)
    (s_cons (s_set 9 sc_law.nd (d_call G__law_caught (hr.mono (by decide)) T.m__law_caught T.F__law_caught.kp T.b__law_caught tkF (da_cons (dv 2) (da_cons (dv 3) da_nil))))
    (s_one (s_ret (d_and (d_cmp (op_eqA hr.units) l_eq (d_ix (dv 9) d_int) (dv 2)) (d_and (d_cmp (op_eqA hr.units) l_eq (d_callB (call_reprR HB hr.g hr.u80) l_reprR T.n_repr bt_repr (da_cons (d_ix (dv 9) d_int) da_nil)) (dv 4)) (d_one (d_call G__law_based (hr.mono (by decide)) T.m__law_based T.F__law_based.kp T.b__law_based tkF (da_cons (dv 2) (da_cons (dv 3) da_nil)))))))))))))))))
theorem all_mk_ok (T : Tx K mg A) (HB : SysB base) : FnD P w K mg base 5 T.a_law T.fd_law ["_law_script"] spLaw := by
  have G__law_hand : FnD P w K mg base 1 T.a__law_hand T.fd__law_hand [Str.ofString "_law_script"] (sp__law_hand A) := okD T.F__law_hand sc__law_hand (len__law_hand A) _ (fun cdv An outer s H E hr => w__law_hand T  cdv An outer s H E hr) (rd__law_hand A)
  have G__law_take : FnD P w K mg base 1 T.a__law_take T.fd__law_take [Str.ofString "_law_hand_here", Str.ofString "_law_many"] (sp__law_take A) := okD T.F__law_take sc__law_take (len__law_take A) _ (fun cdv An outer s H E hr => w__law_take T  cdv An outer s H E hr) (rd__law_take A)
  have G__law_odd : FnD P w K mg base 2 T.a__law_odd T.fd__law_odd [Str.ofString "_law_hand_here"] (sp__law_odd A) := okD T.F__law_odd sc__law_odd (len__law_odd A) _ (fun cdv An outer s H E hr => w__law_odd T G__law_take cdv An outer s H E hr) (rd__law_odd A)
  have G__law_thing : FnD P w K mg base 3 T.a__law_thing T.fd__law_thing [Str.ofString "_law_hand_here"] (sp__law_thing A) := okD T.F__law_thing sc__law_thing (len__law_thing A) _ (fun cdv An outer s H E hr => w__law_thing T G__law_take G__law_odd cdv An outer s H E hr) (rd__law_thing A)
  have G__law_all : FnD P w K mg base 3 T.a__law_all T.fd__law_all [Str.ofString "_law_thing_here"] (sp__law_all A) := okD T.F__law_all sc__law_all (len__law_all A) _ (fun cdv An outer s H E hr => w__law_all T  cdv An outer s H E hr) (rd__law_all A)
  have G__law_marks : FnD P w K mg base 1 T.a__law_marks T.fd__law_marks [Str.ofString "_law_one"] (sp__law_marks A) := okD T.F__law_marks sc__law_marks (len__law_marks A) _ (fun cdv An outer s H E hr => w__law_marks T  cdv An outer s H E hr) (rd__law_marks A)
  have G__law_alien : FnD P w K mg base 1 T.a__law_alien T.fd__law_alien [Str.ofString "_law_one"] (sp__law_alien A) := okD T.F__law_alien sc__law_alien (len__law_alien A) _ (fun cdv An outer s H E hr => w__law_alien T  cdv An outer s H E hr) (rd__law_alien A)
  have G__law_fields : FnD P w K mg base 1 T.a__law_fields T.fd__law_fields [Str.ofString "_law_errors"] (sp__law_fields A) := okD T.F__law_fields sc__law_fields (len__law_fields A) _ (fun cdv An outer s H E hr => w__law_fields T  cdv An outer s H E hr) (rd__law_fields A)
  have G__law_raise : FnD P w K mg base 3 T.a__law_raise T.fd__law_raise [Str.ofString "_law_which", Str.ofString "_law_thing_here"] (sp__law_raise A) := okD T.F__law_raise sc__law_raise (len__law_raise A) _ (fun cdv An outer s H E hr => w__law_raise T  cdv An outer s H E hr) (rd__law_raise A)
  have G__law_caught : FnD P w K mg base 4 T.a__law_caught T.fd__law_caught [Str.ofString "_law_which", Str.ofString "_law_thing_here"] (sp__law_caught A) := okF T.F__law_caught sc__law_caught (len__law_caught A) _ (fun cdv An outer s H E hr => w__law_caught T G__law_raise cdv An outer s H E hr) (rd__law_caught A)
  have G__law_based : FnD P w K mg base 4 T.a__law_based T.fd__law_based [Str.ofString "_law_which", Str.ofString "_law_thing_here"] (sp__law_based A) := okF T.F__law_based sc__law_based (len__law_based A) _ (fun cdv An outer s H E hr => w__law_based T G__law_raise cdv An outer s H E hr) (rd__law_based A)
  have G_law : FnD P w K mg base 5 T.a_law T.fd_law [Str.ofString "_law_script"] spLaw := okD T.F_law sc_law (len_law A) _ (fun cdv An outer s H E hr => w_law T G__law_hand G__law_take G__law_thing G__law_all G__law_marks G__law_alien G__law_fields G__law_caught G__law_based HB cdv An outer s H E hr) (rd_law A)
  exact G_law
end
def tx_mk {K : PySem.W.Frag} {h : Heap} {mg : Str → Option Value} (X : K.In h) (G : h.Ns mainGlobals mg)
    {fa__law_hand : Addr} {oc__law_hand kV__law_hand doc__law_hand pm__law_hand cd__law_hand ct__law_hand : Value} {od__law_hand an__law_hand : Option Addr} {sl__law_hand : Array (Option Value)}
    {fa__law_take : Addr} {oc__law_take kV__law_take doc__law_take pm__law_take cd__law_take ct__law_take : Value} {od__law_take an__law_take : Option Addr} {sl__law_take : Array (Option Value)}
    {fa__law_odd : Addr} {oc__law_odd kV__law_odd doc__law_odd pm__law_odd cd__law_odd ct__law_odd : Value} {od__law_odd an__law_odd : Option Addr} {sl__law_odd : Array (Option Value)}
    {fa__law_thing : Addr} {oc__law_thing kV__law_thing doc__law_thing pm__law_thing cd__law_thing ct__law_thing : Value} {od__law_thing an__law_thing : Option Addr} {sl__law_thing : Array (Option Value)}
    {fa__law_all : Addr} {oc__law_all kV__law_all doc__law_all pm__law_all cd__law_all ct__law_all : Value} {od__law_all an__law_all : Option Addr} {sl__law_all : Array (Option Value)}
    {fa__law_marks : Addr} {oc__law_marks kV__law_marks doc__law_marks pm__law_marks cd__law_marks ct__law_marks : Value} {od__law_marks an__law_marks : Option Addr} {sl__law_marks : Array (Option Value)}
    {fa__law_alien : Addr} {oc__law_alien kV__law_alien doc__law_alien pm__law_alien cd__law_alien ct__law_alien : Value} {od__law_alien an__law_alien : Option Addr} {sl__law_alien : Array (Option Value)}
    {fa__law_fields : Addr} {oc__law_fields kV__law_fields doc__law_fields pm__law_fields cd__law_fields ct__law_fields : Value} {od__law_fields an__law_fields : Option Addr} {sl__law_fields : Array (Option Value)}
    {fa__law_raise : Addr} {oc__law_raise kV__law_raise doc__law_raise pm__law_raise cd__law_raise ct__law_raise : Value} {od__law_raise an__law_raise : Option Addr} {sl__law_raise : Array (Option Value)}
    {fa__law_caught : Addr} {oc__law_caught kV__law_caught doc__law_caught pm__law_caught cd__law_caught ct__law_caught : Value} {od__law_caught an__law_caught : Option Addr} {sl__law_caught : Array (Option Value)}
    {fa__law_based : Addr} {oc__law_based kV__law_based doc__law_based pm__law_based cd__law_based ct__law_based : Value} {od__law_based an__law_based : Option Addr} {sl__law_based : Array (Option Value)}
    {fa_law : Addr} {oc_law kV_law doc_law pm_law cd_law ct_law : Value} {od_law an_law : Option Addr} {sl_law : Array (Option Value)}
    {A_WorldError : Addr}
    {A_NoNumber : Addr}
    {A_NoSeed : Addr}
    {A_BadGround : Addr}
    {nm_BadGround q_BadGround : Str} {N_BadGround : Addr} {bs_BadGround : List Value} {sn_BadGround : List Str} {sub_BadGround : List Value} {ab_BadGround : Bool} {col_BadGround : Option Bool} {dd_BadGround : Option Addr} {m0_BadGround m1_BadGround m2_BadGround m3_BadGround m5_BadGround : Option Value} {fi_BadGround : Addr}
    {bw0_BadGround : Addr}
    {oc_BadGround_init kV_BadGround_init doc_BadGround_init pm_BadGround_init cd_BadGround_init ct_BadGround_init : Value} {od_BadGround_init an_BadGround_init : Option Addr} {sl_BadGround_init : Array (Option Value)}
    {A_BadProgram : Addr}
    {nm_BadProgram q_BadProgram : Str} {N_BadProgram : Addr} {bs_BadProgram : List Value} {sn_BadProgram : List Str} {sub_BadProgram : List Value} {ab_BadProgram : Bool} {col_BadProgram : Option Bool} {dd_BadProgram : Option Addr} {m0_BadProgram m1_BadProgram m2_BadProgram m3_BadProgram m5_BadProgram : Option Value} {fi_BadProgram : Addr}
    {bw0_BadProgram : Addr}
    {oc_BadProgram_init kV_BadProgram_init doc_BadProgram_init pm_BadProgram_init cd_BadProgram_init ct_BadProgram_init : Value} {od_BadProgram_init an_BadProgram_init : Option Addr} {sl_BadProgram_init : Array (Option Value)}
    {A_BadKind : Addr}
    {nm_BadKind q_BadKind : Str} {N_BadKind : Addr} {bs_BadKind : List Value} {sn_BadKind : List Str} {sub_BadKind : List Value} {ab_BadKind : Bool} {col_BadKind : Option Bool} {dd_BadKind : Option Addr} {m0_BadKind m1_BadKind m2_BadKind m3_BadKind m5_BadKind : Option Value} {fi_BadKind : Addr}
    {bw0_BadKind : Addr}
    {oc_BadKind_init kV_BadKind_init doc_BadKind_init pm_BadKind_init cd_BadKind_init ct_BadKind_init : Value} {od_BadKind_init an_BadKind_init : Option Addr} {sl_BadKind_init : Array (Option Value)}
    {A_BadGame : Addr}
    {nm_BadGame q_BadGame : Str} {N_BadGame : Addr} {bs_BadGame : List Value} {sn_BadGame : List Str} {sub_BadGame : List Value} {ab_BadGame : Bool} {col_BadGame : Option Bool} {dd_BadGame : Option Addr} {m0_BadGame m1_BadGame m2_BadGame m3_BadGame m5_BadGame : Option Value} {fi_BadGame : Addr}
    {bw0_BadGame : Addr}
    {oc_BadGame_init kV_BadGame_init doc_BadGame_init pm_BadGame_init cd_BadGame_init ct_BadGame_init : Value} {od_BadGame_init an_BadGame_init : Option Addr} {sl_BadGame_init : Array (Option Value)}
    {A_NoWorld : Addr}
    {A_NoBody : Addr}
    {A_NoWay : Addr}
    {A_NoInputs : Addr}
    {A_NoHandler : Addr}
    {A_NoCode : Addr}
    {A_NoRows : Addr}
    {nm_NoRows q_NoRows : Str} {N_NoRows : Addr} {bs_NoRows : List Value} {sn_NoRows : List Str} {sub_NoRows : List Value} {ab_NoRows : Bool} {col_NoRows : Option Bool} {dd_NoRows : Option Addr} {m0_NoRows m1_NoRows m2_NoRows m3_NoRows m5_NoRows : Option Value} {fi_NoRows : Addr}
    {bw0_NoRows : Addr}
    {oc_NoRows_init kV_NoRows_init doc_NoRows_init pm_NoRows_init cd_NoRows_init ct_NoRows_init : Value} {od_NoRows_init an_NoRows_init : Option Addr} {sl_NoRows_init : Array (Option Value)}
    {A_NoRow : Addr}
    {A_NoPlace : Addr}
    {A_BadRow : Addr}
    {nm_BadRow q_BadRow : Str} {N_BadRow : Addr} {bs_BadRow : List Value} {sn_BadRow : List Str} {sub_BadRow : List Value} {ab_BadRow : Bool} {col_BadRow : Option Bool} {dd_BadRow : Option Addr} {m0_BadRow m1_BadRow m2_BadRow m3_BadRow m5_BadRow : Option Value} {fi_BadRow : Addr}
    {bw0_BadRow : Addr}
    {oc_BadRow_init kV_BadRow_init doc_BadRow_init pm_BadRow_init cd_BadRow_init ct_BadRow_init : Value} {od_BadRow_init an_BadRow_init : Option Addr} {sl_BadRow_init : Array (Option Value)}
    {A_BadChange : Addr}
    {nm_BadChange q_BadChange : Str} {N_BadChange : Addr} {bs_BadChange : List Value} {sn_BadChange : List Str} {sub_BadChange : List Value} {ab_BadChange : Bool} {col_BadChange : Option Bool} {dd_BadChange : Option Addr} {m0_BadChange m1_BadChange m2_BadChange m3_BadChange m5_BadChange : Option Value} {fi_BadChange : Addr}
    {bw0_BadChange : Addr}
    {oc_BadChange_init kV_BadChange_init doc_BadChange_init pm_BadChange_init cd_BadChange_init ct_BadChange_init : Value} {od_BadChange_init an_BadChange_init : Option Addr} {sl_BadChange_init : Array (Option Value)}
    {A_NoSeat : Addr}
    {A_NotWaiting : Addr}
    {A_NoTick : Addr}
    {A_NotOpen : Addr}
    {A_Gap : Addr}
    {A_BadDeed : Addr}
    {nm_BadDeed q_BadDeed : Str} {N_BadDeed : Addr} {bs_BadDeed : List Value} {sn_BadDeed : List Str} {sub_BadDeed : List Value} {ab_BadDeed : Bool} {col_BadDeed : Option Bool} {dd_BadDeed : Option Addr} {m0_BadDeed m1_BadDeed m2_BadDeed m3_BadDeed m5_BadDeed : Option Value} {fi_BadDeed : Addr}
    {bw0_BadDeed : Addr}
    {oc_BadDeed_init kV_BadDeed_init doc_BadDeed_init pm_BadDeed_init cd_BadDeed_init ct_BadDeed_init : Value} {od_BadDeed_init an_BadDeed_init : Option Addr} {sl_BadDeed_init : Array (Option Value)}
    {A_NoBook : Addr}
    {A_NoPeer : Addr}
    {A_NoRules : Addr}
    {A_NoPast : Addr}
    {A_NoLetter : Addr}
    {A_NoDeed : Addr}
    {A_BadDeeds : Addr}
    {nm_BadDeeds q_BadDeeds : Str} {N_BadDeeds : Addr} {bs_BadDeeds : List Value} {sn_BadDeeds : List Str} {sub_BadDeeds : List Value} {ab_BadDeeds : Bool} {col_BadDeeds : Option Bool} {dd_BadDeeds : Option Addr} {m0_BadDeeds m1_BadDeeds m2_BadDeeds m3_BadDeeds m5_BadDeeds : Option Value} {fi_BadDeeds : Addr}
    {bw0_BadDeeds : Addr}
    {oc_BadDeeds_init kV_BadDeeds_init doc_BadDeeds_init pm_BadDeeds_init cd_BadDeeds_init ct_BadDeeds_init : Value} {od_BadDeeds_init an_BadDeeds_init : Option Addr} {sl_BadDeeds_init : Array (Option Value)}
    {A_NoCut : Addr}
    {A_NoBlocks : Addr}
    {A_NoDisk : Addr}
    {A_OtherMatch : Addr}
    {A_BadTurns : Addr}
    {nm_BadTurns q_BadTurns : Str} {N_BadTurns : Addr} {bs_BadTurns : List Value} {sn_BadTurns : List Str} {sub_BadTurns : List Value} {ab_BadTurns : Bool} {col_BadTurns : Option Bool} {dd_BadTurns : Option Addr} {m0_BadTurns m1_BadTurns m2_BadTurns m3_BadTurns m5_BadTurns : Option Value} {fi_BadTurns : Addr}
    {bw0_BadTurns : Addr}
    {oc_BadTurns_init kV_BadTurns_init doc_BadTurns_init pm_BadTurns_init cd_BadTurns_init ct_BadTurns_init : Value} {od_BadTurns_init an_BadTurns_init : Option Addr} {sl_BadTurns_init : Array (Option Value)}
    {A_OtherGame : Addr}
    {A_Strayed : Addr}
    {nm_Strayed q_Strayed : Str} {N_Strayed : Addr} {bs_Strayed : List Value} {sn_Strayed : List Str} {sub_Strayed : List Value} {ab_Strayed : Bool} {col_Strayed : Option Bool} {dd_Strayed : Option Addr} {m0_Strayed m1_Strayed m2_Strayed m3_Strayed m5_Strayed : Option Value} {fi_Strayed : Addr}
    {bw0_Strayed : Addr}
    {oc_Strayed_init kV_Strayed_init doc_Strayed_init pm_Strayed_init cd_Strayed_init ct_Strayed_init : Value} {od_Strayed_init an_Strayed_init : Option Addr} {sl_Strayed_init : Array (Option Value)}
    {A_NoNode : Addr}
    {A_NoReplay : Addr}
    {A_NoExpression : Addr}
    {A_BadText : Addr}
    {nm_BadText q_BadText : Str} {N_BadText : Addr} {bs_BadText : List Value} {sn_BadText : List Str} {sub_BadText : List Value} {ab_BadText : Bool} {col_BadText : Option Bool} {dd_BadText : Option Addr} {m0_BadText m1_BadText m2_BadText m3_BadText m5_BadText : Option Value} {fi_BadText : Addr}
    {bw0_BadText : Addr}
    {oc_BadText_init kV_BadText_init doc_BadText_init pm_BadText_init cd_BadText_init ct_BadText_init : Value} {od_BadText_init an_BadText_init : Option Addr} {sl_BadText_init : Array (Option Value)}
    {A_NoProgram : Addr}
    {A_NoPicture : Addr}
    {A_Unlike : Addr}
    {A_NoChanges : Addr}
    {A_NoLine : Addr}
    {A_NoName : Addr}
    {nm_NoName q_NoName : Str} {N_NoName : Addr} {bs_NoName : List Value} {sn_NoName : List Str} {sub_NoName : List Value} {ab_NoName : Bool} {col_NoName : Option Bool} {dd_NoName : Option Addr} {m0_NoName m1_NoName m2_NoName m3_NoName m5_NoName : Option Value} {fi_NoName : Addr}
    {bw0_NoName : Addr}
    {oc_NoName_init kV_NoName_init doc_NoName_init pm_NoName_init cd_NoName_init ct_NoName_init : Value} {od_NoName_init an_NoName_init : Option Addr} {sl_NoName_init : Array (Option Value)}
    (a__law_hand : PySem.W.nsIn K mainGlobals "_law_hand" = some (some (.ref fa__law_hand)))
    (l__law_hand : K.lookup fa__law_hand = some ⟨oc__law_hand, od__law_hand, .func (PySem.W.fnOf "_law_hand" "_law_hand" (defArgs s__law_hand) (defBody s__law_hand) (defScope s__law_hand) .none kV__law_hand doc__law_hand pm__law_hand an__law_hand cd__law_hand ct__law_hand), sl__law_hand⟩)
    (c__law_hand : PySem.W.codeIn K cd__law_hand "_law_hand" = true)
    (k__law_hand : PySem.W.keepIn K (.ref fa__law_hand) = true)
    (a__law_take : PySem.W.nsIn K mainGlobals "_law_take" = some (some (.ref fa__law_take)))
    (l__law_take : K.lookup fa__law_take = some ⟨oc__law_take, od__law_take, .func (PySem.W.fnOf "_law_take" "_law_take" (defArgs s__law_take) (defBody s__law_take) (defScope s__law_take) .none kV__law_take doc__law_take pm__law_take an__law_take cd__law_take ct__law_take), sl__law_take⟩)
    (c__law_take : PySem.W.codeIn K cd__law_take "_law_take" = true)
    (k__law_take : PySem.W.keepIn K (.ref fa__law_take) = true)
    (a__law_odd : PySem.W.nsIn K mainGlobals "_law_odd" = some (some (.ref fa__law_odd)))
    (l__law_odd : K.lookup fa__law_odd = some ⟨oc__law_odd, od__law_odd, .func (PySem.W.fnOf "_law_odd" "_law_odd" (defArgs s__law_odd) (defBody s__law_odd) (defScope s__law_odd) .none kV__law_odd doc__law_odd pm__law_odd an__law_odd cd__law_odd ct__law_odd), sl__law_odd⟩)
    (c__law_odd : PySem.W.codeIn K cd__law_odd "_law_odd" = true)
    (k__law_odd : PySem.W.keepIn K (.ref fa__law_odd) = true)
    (a__law_thing : PySem.W.nsIn K mainGlobals "_law_thing" = some (some (.ref fa__law_thing)))
    (l__law_thing : K.lookup fa__law_thing = some ⟨oc__law_thing, od__law_thing, .func (PySem.W.fnOf "_law_thing" "_law_thing" (defArgs s__law_thing) (defBody s__law_thing) (defScope s__law_thing) .none kV__law_thing doc__law_thing pm__law_thing an__law_thing cd__law_thing ct__law_thing), sl__law_thing⟩)
    (c__law_thing : PySem.W.codeIn K cd__law_thing "_law_thing" = true)
    (k__law_thing : PySem.W.keepIn K (.ref fa__law_thing) = true)
    (a__law_all : PySem.W.nsIn K mainGlobals "_law_all" = some (some (.ref fa__law_all)))
    (l__law_all : K.lookup fa__law_all = some ⟨oc__law_all, od__law_all, .func (PySem.W.fnOf "_law_all" "_law_all" (defArgs s__law_all) (defBody s__law_all) (defScope s__law_all) .none kV__law_all doc__law_all pm__law_all an__law_all cd__law_all ct__law_all), sl__law_all⟩)
    (c__law_all : PySem.W.codeIn K cd__law_all "_law_all" = true)
    (k__law_all : PySem.W.keepIn K (.ref fa__law_all) = true)
    (a__law_marks : PySem.W.nsIn K mainGlobals "_law_marks" = some (some (.ref fa__law_marks)))
    (l__law_marks : K.lookup fa__law_marks = some ⟨oc__law_marks, od__law_marks, .func (PySem.W.fnOf "_law_marks" "_law_marks" (defArgs s__law_marks) (defBody s__law_marks) (defScope s__law_marks) .none kV__law_marks doc__law_marks pm__law_marks an__law_marks cd__law_marks ct__law_marks), sl__law_marks⟩)
    (c__law_marks : PySem.W.codeIn K cd__law_marks "_law_marks" = true)
    (k__law_marks : PySem.W.keepIn K (.ref fa__law_marks) = true)
    (a__law_alien : PySem.W.nsIn K mainGlobals "_law_alien" = some (some (.ref fa__law_alien)))
    (l__law_alien : K.lookup fa__law_alien = some ⟨oc__law_alien, od__law_alien, .func (PySem.W.fnOf "_law_alien" "_law_alien" (defArgs s__law_alien) (defBody s__law_alien) (defScope s__law_alien) .none kV__law_alien doc__law_alien pm__law_alien an__law_alien cd__law_alien ct__law_alien), sl__law_alien⟩)
    (c__law_alien : PySem.W.codeIn K cd__law_alien "_law_alien" = true)
    (k__law_alien : PySem.W.keepIn K (.ref fa__law_alien) = true)
    (a__law_fields : PySem.W.nsIn K mainGlobals "_law_fields" = some (some (.ref fa__law_fields)))
    (l__law_fields : K.lookup fa__law_fields = some ⟨oc__law_fields, od__law_fields, .func (PySem.W.fnOf "_law_fields" "_law_fields" (defArgs s__law_fields) (defBody s__law_fields) (defScope s__law_fields) .none kV__law_fields doc__law_fields pm__law_fields an__law_fields cd__law_fields ct__law_fields), sl__law_fields⟩)
    (c__law_fields : PySem.W.codeIn K cd__law_fields "_law_fields" = true)
    (k__law_fields : PySem.W.keepIn K (.ref fa__law_fields) = true)
    (a__law_raise : PySem.W.nsIn K mainGlobals "_law_raise" = some (some (.ref fa__law_raise)))
    (l__law_raise : K.lookup fa__law_raise = some ⟨oc__law_raise, od__law_raise, .func (PySem.W.fnOf "_law_raise" "_law_raise" (defArgs s__law_raise) (defBody s__law_raise) (defScope s__law_raise) .none kV__law_raise doc__law_raise pm__law_raise an__law_raise cd__law_raise ct__law_raise), sl__law_raise⟩)
    (c__law_raise : PySem.W.codeIn K cd__law_raise "_law_raise" = true)
    (k__law_raise : PySem.W.keepIn K (.ref fa__law_raise) = true)
    (a__law_caught : PySem.W.nsIn K mainGlobals "_law_caught" = some (some (.ref fa__law_caught)))
    (l__law_caught : K.lookup fa__law_caught = some ⟨oc__law_caught, od__law_caught, .func (PySem.W.fnOf "_law_caught" "_law_caught" (defArgs s__law_caught) (defBody s__law_caught) (defScope s__law_caught) .none kV__law_caught doc__law_caught pm__law_caught an__law_caught cd__law_caught ct__law_caught), sl__law_caught⟩)
    (c__law_caught : PySem.W.codeIn K cd__law_caught "_law_caught" = true)
    (k__law_caught : PySem.W.keepIn K (.ref fa__law_caught) = true)
    (a__law_based : PySem.W.nsIn K mainGlobals "_law_based" = some (some (.ref fa__law_based)))
    (l__law_based : K.lookup fa__law_based = some ⟨oc__law_based, od__law_based, .func (PySem.W.fnOf "_law_based" "_law_based" (defArgs s__law_based) (defBody s__law_based) (defScope s__law_based) .none kV__law_based doc__law_based pm__law_based an__law_based cd__law_based ct__law_based), sl__law_based⟩)
    (c__law_based : PySem.W.codeIn K cd__law_based "_law_based" = true)
    (k__law_based : PySem.W.keepIn K (.ref fa__law_based) = true)
    (a_law : PySem.W.nsIn K mainGlobals "law" = some (some (.ref fa_law)))
    (l_law : K.lookup fa_law = some ⟨oc_law, od_law, .func (PySem.W.fnOf "law" "law" (defArgs s_law) (defBody s_law) (defScope s_law) .none kV_law doc_law pm_law an_law cd_law ct_law), sl_law⟩)
    (c_law : PySem.W.codeIn K cd_law "law" = true)
    (k_law : PySem.W.keepIn K (.ref fa_law) = true)
    (n_ArithmeticError : PySem.W.nsIn K mainGlobals "ArithmeticError" = some none)
    (n_IndexError : PySem.W.nsIn K mainGlobals "IndexError" = some none)
    (n_KeyError : PySem.W.nsIn K mainGlobals "KeyError" = some none)
    (n_ValueError : PySem.W.nsIn K mainGlobals "ValueError" = some none)
    (n_int : PySem.W.nsIn K mainGlobals "int" = some none)
    (n_isinstance : PySem.W.nsIn K mainGlobals "isinstance" = some none)
    (n_len : PySem.W.nsIn K mainGlobals "len" = some none)
    (n_list : PySem.W.nsIn K mainGlobals "list" = some none)
    (n_range : PySem.W.nsIn K mainGlobals "range" = some none)
    (n_repr : PySem.W.nsIn K mainGlobals "repr" = some none)
    (m_WorldError : PySem.W.nsIn K mainGlobals "WorldError" = some (some (.ref A_WorldError)))
    (xq_WorldError : PySem.W.excIn K A_WorldError [.type "ValueError", .type "Exception", .type "BaseException", .type "object"] "ValueError.__new__" = true)
    (xk_WorldError : PySem.W.keepIn K (.ref A_WorldError) = true)
    (xb_WorldError : PySem.W.subIn K (.ref A_WorldError) (.type "BaseException") = some true)
    (xt_WorldError : PySem.W.typeIn K (.ref A_WorldError) = some (.type "type"))
    (m_NoNumber : PySem.W.nsIn K mainGlobals "NoNumber" = some (some (.ref A_NoNumber)))
    (xq_NoNumber : PySem.W.excIn K A_NoNumber [.type "ValueError", .type "Exception", .type "BaseException", .type "object"] "ValueError.__new__" = true)
    (xk_NoNumber : PySem.W.keepIn K (.ref A_NoNumber) = true)
    (xb_NoNumber : PySem.W.subIn K (.ref A_NoNumber) (.type "BaseException") = some true)
    (xt_NoNumber : PySem.W.typeIn K (.ref A_NoNumber) = some (.type "type"))
    (m_NoSeed : PySem.W.nsIn K mainGlobals "NoSeed" = some (some (.ref A_NoSeed)))
    (xq_NoSeed : PySem.W.excIn K A_NoSeed [.type "ValueError", .type "Exception", .type "BaseException", .type "object"] "ValueError.__new__" = true)
    (xk_NoSeed : PySem.W.keepIn K (.ref A_NoSeed) = true)
    (xb_NoSeed : PySem.W.subIn K (.ref A_NoSeed) (.type "BaseException") = some true)
    (xt_NoSeed : PySem.W.typeIn K (.ref A_NoSeed) = some (.type "type"))
    (m_BadGround : PySem.W.nsIn K mainGlobals "BadGround" = some (some (.ref A_BadGround)))
    (xl_BadGround : K.lookup A_BadGround = some (excClassObj nm_BadGround q_BadGround A_BadGround N_BadGround bs_BadGround [.ref bw0_BadGround, .type "ValueError", .type "Exception", .type "BaseException", .type "object"] true sn_BadGround sub_BadGround ab_BadGround col_BadGround dd_BadGround m0_BadGround m1_BadGround m2_BadGround m3_BadGround m5_BadGround "ValueError.__new__"))
    (sa_BadGround : PySem.W.findIn K (.ref A_BadGround) "__setattr__" = some (some (.builtin "object.__setattr__")))
    (ga_BadGround : PySem.W.findIn K (.ref A_BadGround) "__getattribute__" = some (some (.builtin "BaseException.__getattribute__")))
    (gg_BadGround : PySem.W.findIn K (.ref A_BadGround) "__getattr__" = some none)
    (xk_BadGround : PySem.W.keepIn K (.ref A_BadGround) = true)
    (xb_BadGround : PySem.W.subIn K (.ref A_BadGround) (.type "BaseException") = some true)
    (xt_BadGround : PySem.W.typeIn K (.ref A_BadGround) = some (.type "type"))
    (hd_BadGround : PySem.W.hasDictIn K A_BadGround = true)
    (nf_BadGround : PySem.W.findIn K (.ref A_BadGround) (Str.ofString "part") = some none)
    (i_BadGround : PySem.W.findIn K (.ref A_BadGround) "__init__" = some (some (.ref fi_BadGround)))
    (t_BadGround : PySem.W.typeIn K (.ref fi_BadGround) = some (.type "function"))
    (l_BadGround_init : K.lookup fi_BadGround = some ⟨oc_BadGround_init, od_BadGround_init, .func (PySem.W.fnOf "__init__" "BadGround.__init__" (defArgs s_BadGround_init) (defBody s_BadGround_init) (defScope s_BadGround_init) .none kV_BadGround_init doc_BadGround_init pm_BadGround_init an_BadGround_init cd_BadGround_init ct_BadGround_init), sl_BadGround_init⟩)
    (c_BadGround_init : PySem.W.codeIn K cd_BadGround_init "BadGround.__init__" = true)
    (k_BadGround_init : PySem.W.keepIn K (.ref fi_BadGround) = true)
    (m_BadProgram : PySem.W.nsIn K mainGlobals "BadProgram" = some (some (.ref A_BadProgram)))
    (xl_BadProgram : K.lookup A_BadProgram = some (excClassObj nm_BadProgram q_BadProgram A_BadProgram N_BadProgram bs_BadProgram [.ref bw0_BadProgram, .type "ValueError", .type "Exception", .type "BaseException", .type "object"] true sn_BadProgram sub_BadProgram ab_BadProgram col_BadProgram dd_BadProgram m0_BadProgram m1_BadProgram m2_BadProgram m3_BadProgram m5_BadProgram "ValueError.__new__"))
    (sa_BadProgram : PySem.W.findIn K (.ref A_BadProgram) "__setattr__" = some (some (.builtin "object.__setattr__")))
    (ga_BadProgram : PySem.W.findIn K (.ref A_BadProgram) "__getattribute__" = some (some (.builtin "BaseException.__getattribute__")))
    (gg_BadProgram : PySem.W.findIn K (.ref A_BadProgram) "__getattr__" = some none)
    (xk_BadProgram : PySem.W.keepIn K (.ref A_BadProgram) = true)
    (xb_BadProgram : PySem.W.subIn K (.ref A_BadProgram) (.type "BaseException") = some true)
    (xt_BadProgram : PySem.W.typeIn K (.ref A_BadProgram) = some (.type "type"))
    (hd_BadProgram : PySem.W.hasDictIn K A_BadProgram = true)
    (nf_BadProgram : PySem.W.findIn K (.ref A_BadProgram) (Str.ofString "part") = some none)
    (i_BadProgram : PySem.W.findIn K (.ref A_BadProgram) "__init__" = some (some (.ref fi_BadProgram)))
    (t_BadProgram : PySem.W.typeIn K (.ref fi_BadProgram) = some (.type "function"))
    (l_BadProgram_init : K.lookup fi_BadProgram = some ⟨oc_BadProgram_init, od_BadProgram_init, .func (PySem.W.fnOf "__init__" "BadProgram.__init__" (defArgs s_BadProgram_init) (defBody s_BadProgram_init) (defScope s_BadProgram_init) .none kV_BadProgram_init doc_BadProgram_init pm_BadProgram_init an_BadProgram_init cd_BadProgram_init ct_BadProgram_init), sl_BadProgram_init⟩)
    (c_BadProgram_init : PySem.W.codeIn K cd_BadProgram_init "BadProgram.__init__" = true)
    (k_BadProgram_init : PySem.W.keepIn K (.ref fi_BadProgram) = true)
    (m_BadKind : PySem.W.nsIn K mainGlobals "BadKind" = some (some (.ref A_BadKind)))
    (xl_BadKind : K.lookup A_BadKind = some (excClassObj nm_BadKind q_BadKind A_BadKind N_BadKind bs_BadKind [.ref bw0_BadKind, .type "ValueError", .type "Exception", .type "BaseException", .type "object"] true sn_BadKind sub_BadKind ab_BadKind col_BadKind dd_BadKind m0_BadKind m1_BadKind m2_BadKind m3_BadKind m5_BadKind "ValueError.__new__"))
    (sa_BadKind : PySem.W.findIn K (.ref A_BadKind) "__setattr__" = some (some (.builtin "object.__setattr__")))
    (ga_BadKind : PySem.W.findIn K (.ref A_BadKind) "__getattribute__" = some (some (.builtin "BaseException.__getattribute__")))
    (gg_BadKind : PySem.W.findIn K (.ref A_BadKind) "__getattr__" = some none)
    (xk_BadKind : PySem.W.keepIn K (.ref A_BadKind) = true)
    (xb_BadKind : PySem.W.subIn K (.ref A_BadKind) (.type "BaseException") = some true)
    (xt_BadKind : PySem.W.typeIn K (.ref A_BadKind) = some (.type "type"))
    (hd_BadKind : PySem.W.hasDictIn K A_BadKind = true)
    (nf_BadKind : PySem.W.findIn K (.ref A_BadKind) (Str.ofString "part") = some none)
    (i_BadKind : PySem.W.findIn K (.ref A_BadKind) "__init__" = some (some (.ref fi_BadKind)))
    (t_BadKind : PySem.W.typeIn K (.ref fi_BadKind) = some (.type "function"))
    (l_BadKind_init : K.lookup fi_BadKind = some ⟨oc_BadKind_init, od_BadKind_init, .func (PySem.W.fnOf "__init__" "BadKind.__init__" (defArgs s_BadKind_init) (defBody s_BadKind_init) (defScope s_BadKind_init) .none kV_BadKind_init doc_BadKind_init pm_BadKind_init an_BadKind_init cd_BadKind_init ct_BadKind_init), sl_BadKind_init⟩)
    (c_BadKind_init : PySem.W.codeIn K cd_BadKind_init "BadKind.__init__" = true)
    (k_BadKind_init : PySem.W.keepIn K (.ref fi_BadKind) = true)
    (m_BadGame : PySem.W.nsIn K mainGlobals "BadGame" = some (some (.ref A_BadGame)))
    (xl_BadGame : K.lookup A_BadGame = some (excClassObj nm_BadGame q_BadGame A_BadGame N_BadGame bs_BadGame [.ref bw0_BadGame, .type "ValueError", .type "Exception", .type "BaseException", .type "object"] true sn_BadGame sub_BadGame ab_BadGame col_BadGame dd_BadGame m0_BadGame m1_BadGame m2_BadGame m3_BadGame m5_BadGame "ValueError.__new__"))
    (sa_BadGame : PySem.W.findIn K (.ref A_BadGame) "__setattr__" = some (some (.builtin "object.__setattr__")))
    (ga_BadGame : PySem.W.findIn K (.ref A_BadGame) "__getattribute__" = some (some (.builtin "BaseException.__getattribute__")))
    (gg_BadGame : PySem.W.findIn K (.ref A_BadGame) "__getattr__" = some none)
    (xk_BadGame : PySem.W.keepIn K (.ref A_BadGame) = true)
    (xb_BadGame : PySem.W.subIn K (.ref A_BadGame) (.type "BaseException") = some true)
    (xt_BadGame : PySem.W.typeIn K (.ref A_BadGame) = some (.type "type"))
    (hd_BadGame : PySem.W.hasDictIn K A_BadGame = true)
    (nf_BadGame : PySem.W.findIn K (.ref A_BadGame) (Str.ofString "part") = some none)
    (i_BadGame : PySem.W.findIn K (.ref A_BadGame) "__init__" = some (some (.ref fi_BadGame)))
    (t_BadGame : PySem.W.typeIn K (.ref fi_BadGame) = some (.type "function"))
    (l_BadGame_init : K.lookup fi_BadGame = some ⟨oc_BadGame_init, od_BadGame_init, .func (PySem.W.fnOf "__init__" "BadGame.__init__" (defArgs s_BadGame_init) (defBody s_BadGame_init) (defScope s_BadGame_init) .none kV_BadGame_init doc_BadGame_init pm_BadGame_init an_BadGame_init cd_BadGame_init ct_BadGame_init), sl_BadGame_init⟩)
    (c_BadGame_init : PySem.W.codeIn K cd_BadGame_init "BadGame.__init__" = true)
    (k_BadGame_init : PySem.W.keepIn K (.ref fi_BadGame) = true)
    (m_NoWorld : PySem.W.nsIn K mainGlobals "NoWorld" = some (some (.ref A_NoWorld)))
    (xq_NoWorld : PySem.W.excIn K A_NoWorld [.type "ValueError", .type "Exception", .type "BaseException", .type "object"] "ValueError.__new__" = true)
    (xk_NoWorld : PySem.W.keepIn K (.ref A_NoWorld) = true)
    (xb_NoWorld : PySem.W.subIn K (.ref A_NoWorld) (.type "BaseException") = some true)
    (xt_NoWorld : PySem.W.typeIn K (.ref A_NoWorld) = some (.type "type"))
    (m_NoBody : PySem.W.nsIn K mainGlobals "NoBody" = some (some (.ref A_NoBody)))
    (xq_NoBody : PySem.W.excIn K A_NoBody [.type "ValueError", .type "Exception", .type "BaseException", .type "object"] "ValueError.__new__" = true)
    (xk_NoBody : PySem.W.keepIn K (.ref A_NoBody) = true)
    (xb_NoBody : PySem.W.subIn K (.ref A_NoBody) (.type "BaseException") = some true)
    (xt_NoBody : PySem.W.typeIn K (.ref A_NoBody) = some (.type "type"))
    (m_NoWay : PySem.W.nsIn K mainGlobals "NoWay" = some (some (.ref A_NoWay)))
    (xq_NoWay : PySem.W.excIn K A_NoWay [.type "ValueError", .type "Exception", .type "BaseException", .type "object"] "ValueError.__new__" = true)
    (xk_NoWay : PySem.W.keepIn K (.ref A_NoWay) = true)
    (xb_NoWay : PySem.W.subIn K (.ref A_NoWay) (.type "BaseException") = some true)
    (xt_NoWay : PySem.W.typeIn K (.ref A_NoWay) = some (.type "type"))
    (m_NoInputs : PySem.W.nsIn K mainGlobals "NoInputs" = some (some (.ref A_NoInputs)))
    (xq_NoInputs : PySem.W.excIn K A_NoInputs [.type "ValueError", .type "Exception", .type "BaseException", .type "object"] "ValueError.__new__" = true)
    (xk_NoInputs : PySem.W.keepIn K (.ref A_NoInputs) = true)
    (xb_NoInputs : PySem.W.subIn K (.ref A_NoInputs) (.type "BaseException") = some true)
    (xt_NoInputs : PySem.W.typeIn K (.ref A_NoInputs) = some (.type "type"))
    (m_NoHandler : PySem.W.nsIn K mainGlobals "NoHandler" = some (some (.ref A_NoHandler)))
    (xq_NoHandler : PySem.W.excIn K A_NoHandler [.type "ValueError", .type "Exception", .type "BaseException", .type "object"] "ValueError.__new__" = true)
    (xk_NoHandler : PySem.W.keepIn K (.ref A_NoHandler) = true)
    (xb_NoHandler : PySem.W.subIn K (.ref A_NoHandler) (.type "BaseException") = some true)
    (xt_NoHandler : PySem.W.typeIn K (.ref A_NoHandler) = some (.type "type"))
    (m_NoCode : PySem.W.nsIn K mainGlobals "NoCode" = some (some (.ref A_NoCode)))
    (xq_NoCode : PySem.W.excIn K A_NoCode [.type "ValueError", .type "Exception", .type "BaseException", .type "object"] "ValueError.__new__" = true)
    (xk_NoCode : PySem.W.keepIn K (.ref A_NoCode) = true)
    (xb_NoCode : PySem.W.subIn K (.ref A_NoCode) (.type "BaseException") = some true)
    (xt_NoCode : PySem.W.typeIn K (.ref A_NoCode) = some (.type "type"))
    (m_NoRows : PySem.W.nsIn K mainGlobals "NoRows" = some (some (.ref A_NoRows)))
    (xl_NoRows : K.lookup A_NoRows = some (excClassObj nm_NoRows q_NoRows A_NoRows N_NoRows bs_NoRows [.ref bw0_NoRows, .type "ValueError", .type "Exception", .type "BaseException", .type "object"] true sn_NoRows sub_NoRows ab_NoRows col_NoRows dd_NoRows m0_NoRows m1_NoRows m2_NoRows m3_NoRows m5_NoRows "ValueError.__new__"))
    (sa_NoRows : PySem.W.findIn K (.ref A_NoRows) "__setattr__" = some (some (.builtin "object.__setattr__")))
    (ga_NoRows : PySem.W.findIn K (.ref A_NoRows) "__getattribute__" = some (some (.builtin "BaseException.__getattribute__")))
    (gg_NoRows : PySem.W.findIn K (.ref A_NoRows) "__getattr__" = some none)
    (xk_NoRows : PySem.W.keepIn K (.ref A_NoRows) = true)
    (xb_NoRows : PySem.W.subIn K (.ref A_NoRows) (.type "BaseException") = some true)
    (xt_NoRows : PySem.W.typeIn K (.ref A_NoRows) = some (.type "type"))
    (hd_NoRows : PySem.W.hasDictIn K A_NoRows = true)
    (nf_NoRows : PySem.W.findIn K (.ref A_NoRows) (Str.ofString "index") = some none)
    (i_NoRows : PySem.W.findIn K (.ref A_NoRows) "__init__" = some (some (.ref fi_NoRows)))
    (t_NoRows : PySem.W.typeIn K (.ref fi_NoRows) = some (.type "function"))
    (l_NoRows_init : K.lookup fi_NoRows = some ⟨oc_NoRows_init, od_NoRows_init, .func (PySem.W.fnOf "__init__" "NoRows.__init__" (defArgs s_NoRows_init) (defBody s_NoRows_init) (defScope s_NoRows_init) .none kV_NoRows_init doc_NoRows_init pm_NoRows_init an_NoRows_init cd_NoRows_init ct_NoRows_init), sl_NoRows_init⟩)
    (c_NoRows_init : PySem.W.codeIn K cd_NoRows_init "NoRows.__init__" = true)
    (k_NoRows_init : PySem.W.keepIn K (.ref fi_NoRows) = true)
    (m_NoRow : PySem.W.nsIn K mainGlobals "NoRow" = some (some (.ref A_NoRow)))
    (xq_NoRow : PySem.W.excIn K A_NoRow [.type "ValueError", .type "Exception", .type "BaseException", .type "object"] "ValueError.__new__" = true)
    (xk_NoRow : PySem.W.keepIn K (.ref A_NoRow) = true)
    (xb_NoRow : PySem.W.subIn K (.ref A_NoRow) (.type "BaseException") = some true)
    (xt_NoRow : PySem.W.typeIn K (.ref A_NoRow) = some (.type "type"))
    (m_NoPlace : PySem.W.nsIn K mainGlobals "NoPlace" = some (some (.ref A_NoPlace)))
    (xq_NoPlace : PySem.W.excIn K A_NoPlace [.type "ValueError", .type "Exception", .type "BaseException", .type "object"] "ValueError.__new__" = true)
    (xk_NoPlace : PySem.W.keepIn K (.ref A_NoPlace) = true)
    (xb_NoPlace : PySem.W.subIn K (.ref A_NoPlace) (.type "BaseException") = some true)
    (xt_NoPlace : PySem.W.typeIn K (.ref A_NoPlace) = some (.type "type"))
    (m_BadRow : PySem.W.nsIn K mainGlobals "BadRow" = some (some (.ref A_BadRow)))
    (xl_BadRow : K.lookup A_BadRow = some (excClassObj nm_BadRow q_BadRow A_BadRow N_BadRow bs_BadRow [.ref bw0_BadRow, .type "ValueError", .type "Exception", .type "BaseException", .type "object"] true sn_BadRow sub_BadRow ab_BadRow col_BadRow dd_BadRow m0_BadRow m1_BadRow m2_BadRow m3_BadRow m5_BadRow "ValueError.__new__"))
    (sa_BadRow : PySem.W.findIn K (.ref A_BadRow) "__setattr__" = some (some (.builtin "object.__setattr__")))
    (ga_BadRow : PySem.W.findIn K (.ref A_BadRow) "__getattribute__" = some (some (.builtin "BaseException.__getattribute__")))
    (gg_BadRow : PySem.W.findIn K (.ref A_BadRow) "__getattr__" = some none)
    (xk_BadRow : PySem.W.keepIn K (.ref A_BadRow) = true)
    (xb_BadRow : PySem.W.subIn K (.ref A_BadRow) (.type "BaseException") = some true)
    (xt_BadRow : PySem.W.typeIn K (.ref A_BadRow) = some (.type "type"))
    (hd_BadRow : PySem.W.hasDictIn K A_BadRow = true)
    (nf_BadRow : PySem.W.findIn K (.ref A_BadRow) (Str.ofString "place") = some none)
    (i_BadRow : PySem.W.findIn K (.ref A_BadRow) "__init__" = some (some (.ref fi_BadRow)))
    (t_BadRow : PySem.W.typeIn K (.ref fi_BadRow) = some (.type "function"))
    (l_BadRow_init : K.lookup fi_BadRow = some ⟨oc_BadRow_init, od_BadRow_init, .func (PySem.W.fnOf "__init__" "BadRow.__init__" (defArgs s_BadRow_init) (defBody s_BadRow_init) (defScope s_BadRow_init) .none kV_BadRow_init doc_BadRow_init pm_BadRow_init an_BadRow_init cd_BadRow_init ct_BadRow_init), sl_BadRow_init⟩)
    (c_BadRow_init : PySem.W.codeIn K cd_BadRow_init "BadRow.__init__" = true)
    (k_BadRow_init : PySem.W.keepIn K (.ref fi_BadRow) = true)
    (m_BadChange : PySem.W.nsIn K mainGlobals "BadChange" = some (some (.ref A_BadChange)))
    (xl_BadChange : K.lookup A_BadChange = some (excClassObj nm_BadChange q_BadChange A_BadChange N_BadChange bs_BadChange [.ref bw0_BadChange, .type "ValueError", .type "Exception", .type "BaseException", .type "object"] true sn_BadChange sub_BadChange ab_BadChange col_BadChange dd_BadChange m0_BadChange m1_BadChange m2_BadChange m3_BadChange m5_BadChange "ValueError.__new__"))
    (sa_BadChange : PySem.W.findIn K (.ref A_BadChange) "__setattr__" = some (some (.builtin "object.__setattr__")))
    (ga_BadChange : PySem.W.findIn K (.ref A_BadChange) "__getattribute__" = some (some (.builtin "BaseException.__getattribute__")))
    (gg_BadChange : PySem.W.findIn K (.ref A_BadChange) "__getattr__" = some none)
    (xk_BadChange : PySem.W.keepIn K (.ref A_BadChange) = true)
    (xb_BadChange : PySem.W.subIn K (.ref A_BadChange) (.type "BaseException") = some true)
    (xt_BadChange : PySem.W.typeIn K (.ref A_BadChange) = some (.type "type"))
    (hd_BadChange : PySem.W.hasDictIn K A_BadChange = true)
    (nf_BadChange : PySem.W.findIn K (.ref A_BadChange) (Str.ofString "place") = some none)
    (i_BadChange : PySem.W.findIn K (.ref A_BadChange) "__init__" = some (some (.ref fi_BadChange)))
    (t_BadChange : PySem.W.typeIn K (.ref fi_BadChange) = some (.type "function"))
    (l_BadChange_init : K.lookup fi_BadChange = some ⟨oc_BadChange_init, od_BadChange_init, .func (PySem.W.fnOf "__init__" "BadChange.__init__" (defArgs s_BadChange_init) (defBody s_BadChange_init) (defScope s_BadChange_init) .none kV_BadChange_init doc_BadChange_init pm_BadChange_init an_BadChange_init cd_BadChange_init ct_BadChange_init), sl_BadChange_init⟩)
    (c_BadChange_init : PySem.W.codeIn K cd_BadChange_init "BadChange.__init__" = true)
    (k_BadChange_init : PySem.W.keepIn K (.ref fi_BadChange) = true)
    (m_NoSeat : PySem.W.nsIn K mainGlobals "NoSeat" = some (some (.ref A_NoSeat)))
    (xq_NoSeat : PySem.W.excIn K A_NoSeat [.type "ValueError", .type "Exception", .type "BaseException", .type "object"] "ValueError.__new__" = true)
    (xk_NoSeat : PySem.W.keepIn K (.ref A_NoSeat) = true)
    (xb_NoSeat : PySem.W.subIn K (.ref A_NoSeat) (.type "BaseException") = some true)
    (xt_NoSeat : PySem.W.typeIn K (.ref A_NoSeat) = some (.type "type"))
    (m_NotWaiting : PySem.W.nsIn K mainGlobals "NotWaiting" = some (some (.ref A_NotWaiting)))
    (xq_NotWaiting : PySem.W.excIn K A_NotWaiting [.type "ValueError", .type "Exception", .type "BaseException", .type "object"] "ValueError.__new__" = true)
    (xk_NotWaiting : PySem.W.keepIn K (.ref A_NotWaiting) = true)
    (xb_NotWaiting : PySem.W.subIn K (.ref A_NotWaiting) (.type "BaseException") = some true)
    (xt_NotWaiting : PySem.W.typeIn K (.ref A_NotWaiting) = some (.type "type"))
    (m_NoTick : PySem.W.nsIn K mainGlobals "NoTick" = some (some (.ref A_NoTick)))
    (xq_NoTick : PySem.W.excIn K A_NoTick [.type "ValueError", .type "Exception", .type "BaseException", .type "object"] "ValueError.__new__" = true)
    (xk_NoTick : PySem.W.keepIn K (.ref A_NoTick) = true)
    (xb_NoTick : PySem.W.subIn K (.ref A_NoTick) (.type "BaseException") = some true)
    (xt_NoTick : PySem.W.typeIn K (.ref A_NoTick) = some (.type "type"))
    (m_NotOpen : PySem.W.nsIn K mainGlobals "NotOpen" = some (some (.ref A_NotOpen)))
    (xq_NotOpen : PySem.W.excIn K A_NotOpen [.type "ValueError", .type "Exception", .type "BaseException", .type "object"] "ValueError.__new__" = true)
    (xk_NotOpen : PySem.W.keepIn K (.ref A_NotOpen) = true)
    (xb_NotOpen : PySem.W.subIn K (.ref A_NotOpen) (.type "BaseException") = some true)
    (xt_NotOpen : PySem.W.typeIn K (.ref A_NotOpen) = some (.type "type"))
    (m_Gap : PySem.W.nsIn K mainGlobals "Gap" = some (some (.ref A_Gap)))
    (xq_Gap : PySem.W.excIn K A_Gap [.type "ValueError", .type "Exception", .type "BaseException", .type "object"] "ValueError.__new__" = true)
    (xk_Gap : PySem.W.keepIn K (.ref A_Gap) = true)
    (xb_Gap : PySem.W.subIn K (.ref A_Gap) (.type "BaseException") = some true)
    (xt_Gap : PySem.W.typeIn K (.ref A_Gap) = some (.type "type"))
    (m_BadDeed : PySem.W.nsIn K mainGlobals "BadDeed" = some (some (.ref A_BadDeed)))
    (xl_BadDeed : K.lookup A_BadDeed = some (excClassObj nm_BadDeed q_BadDeed A_BadDeed N_BadDeed bs_BadDeed [.ref bw0_BadDeed, .type "ValueError", .type "Exception", .type "BaseException", .type "object"] true sn_BadDeed sub_BadDeed ab_BadDeed col_BadDeed dd_BadDeed m0_BadDeed m1_BadDeed m2_BadDeed m3_BadDeed m5_BadDeed "ValueError.__new__"))
    (sa_BadDeed : PySem.W.findIn K (.ref A_BadDeed) "__setattr__" = some (some (.builtin "object.__setattr__")))
    (ga_BadDeed : PySem.W.findIn K (.ref A_BadDeed) "__getattribute__" = some (some (.builtin "BaseException.__getattribute__")))
    (gg_BadDeed : PySem.W.findIn K (.ref A_BadDeed) "__getattr__" = some none)
    (xk_BadDeed : PySem.W.keepIn K (.ref A_BadDeed) = true)
    (xb_BadDeed : PySem.W.subIn K (.ref A_BadDeed) (.type "BaseException") = some true)
    (xt_BadDeed : PySem.W.typeIn K (.ref A_BadDeed) = some (.type "type"))
    (hd_BadDeed : PySem.W.hasDictIn K A_BadDeed = true)
    (nf_BadDeed : PySem.W.findIn K (.ref A_BadDeed) (Str.ofString "index") = some none)
    (i_BadDeed : PySem.W.findIn K (.ref A_BadDeed) "__init__" = some (some (.ref fi_BadDeed)))
    (t_BadDeed : PySem.W.typeIn K (.ref fi_BadDeed) = some (.type "function"))
    (l_BadDeed_init : K.lookup fi_BadDeed = some ⟨oc_BadDeed_init, od_BadDeed_init, .func (PySem.W.fnOf "__init__" "BadDeed.__init__" (defArgs s_BadDeed_init) (defBody s_BadDeed_init) (defScope s_BadDeed_init) .none kV_BadDeed_init doc_BadDeed_init pm_BadDeed_init an_BadDeed_init cd_BadDeed_init ct_BadDeed_init), sl_BadDeed_init⟩)
    (c_BadDeed_init : PySem.W.codeIn K cd_BadDeed_init "BadDeed.__init__" = true)
    (k_BadDeed_init : PySem.W.keepIn K (.ref fi_BadDeed) = true)
    (m_NoBook : PySem.W.nsIn K mainGlobals "NoBook" = some (some (.ref A_NoBook)))
    (xq_NoBook : PySem.W.excIn K A_NoBook [.type "ValueError", .type "Exception", .type "BaseException", .type "object"] "ValueError.__new__" = true)
    (xk_NoBook : PySem.W.keepIn K (.ref A_NoBook) = true)
    (xb_NoBook : PySem.W.subIn K (.ref A_NoBook) (.type "BaseException") = some true)
    (xt_NoBook : PySem.W.typeIn K (.ref A_NoBook) = some (.type "type"))
    (m_NoPeer : PySem.W.nsIn K mainGlobals "NoPeer" = some (some (.ref A_NoPeer)))
    (xq_NoPeer : PySem.W.excIn K A_NoPeer [.type "ValueError", .type "Exception", .type "BaseException", .type "object"] "ValueError.__new__" = true)
    (xk_NoPeer : PySem.W.keepIn K (.ref A_NoPeer) = true)
    (xb_NoPeer : PySem.W.subIn K (.ref A_NoPeer) (.type "BaseException") = some true)
    (xt_NoPeer : PySem.W.typeIn K (.ref A_NoPeer) = some (.type "type"))
    (m_NoRules : PySem.W.nsIn K mainGlobals "NoRules" = some (some (.ref A_NoRules)))
    (xq_NoRules : PySem.W.excIn K A_NoRules [.type "ValueError", .type "Exception", .type "BaseException", .type "object"] "ValueError.__new__" = true)
    (xk_NoRules : PySem.W.keepIn K (.ref A_NoRules) = true)
    (xb_NoRules : PySem.W.subIn K (.ref A_NoRules) (.type "BaseException") = some true)
    (xt_NoRules : PySem.W.typeIn K (.ref A_NoRules) = some (.type "type"))
    (m_NoPast : PySem.W.nsIn K mainGlobals "NoPast" = some (some (.ref A_NoPast)))
    (xq_NoPast : PySem.W.excIn K A_NoPast [.type "ValueError", .type "Exception", .type "BaseException", .type "object"] "ValueError.__new__" = true)
    (xk_NoPast : PySem.W.keepIn K (.ref A_NoPast) = true)
    (xb_NoPast : PySem.W.subIn K (.ref A_NoPast) (.type "BaseException") = some true)
    (xt_NoPast : PySem.W.typeIn K (.ref A_NoPast) = some (.type "type"))
    (m_NoLetter : PySem.W.nsIn K mainGlobals "NoLetter" = some (some (.ref A_NoLetter)))
    (xq_NoLetter : PySem.W.excIn K A_NoLetter [.type "ValueError", .type "Exception", .type "BaseException", .type "object"] "ValueError.__new__" = true)
    (xk_NoLetter : PySem.W.keepIn K (.ref A_NoLetter) = true)
    (xb_NoLetter : PySem.W.subIn K (.ref A_NoLetter) (.type "BaseException") = some true)
    (xt_NoLetter : PySem.W.typeIn K (.ref A_NoLetter) = some (.type "type"))
    (m_NoDeed : PySem.W.nsIn K mainGlobals "NoDeed" = some (some (.ref A_NoDeed)))
    (xq_NoDeed : PySem.W.excIn K A_NoDeed [.type "ValueError", .type "Exception", .type "BaseException", .type "object"] "ValueError.__new__" = true)
    (xk_NoDeed : PySem.W.keepIn K (.ref A_NoDeed) = true)
    (xb_NoDeed : PySem.W.subIn K (.ref A_NoDeed) (.type "BaseException") = some true)
    (xt_NoDeed : PySem.W.typeIn K (.ref A_NoDeed) = some (.type "type"))
    (m_BadDeeds : PySem.W.nsIn K mainGlobals "BadDeeds" = some (some (.ref A_BadDeeds)))
    (xl_BadDeeds : K.lookup A_BadDeeds = some (excClassObj nm_BadDeeds q_BadDeeds A_BadDeeds N_BadDeeds bs_BadDeeds [.ref bw0_BadDeeds, .type "ValueError", .type "Exception", .type "BaseException", .type "object"] true sn_BadDeeds sub_BadDeeds ab_BadDeeds col_BadDeeds dd_BadDeeds m0_BadDeeds m1_BadDeeds m2_BadDeeds m3_BadDeeds m5_BadDeeds "ValueError.__new__"))
    (sa_BadDeeds : PySem.W.findIn K (.ref A_BadDeeds) "__setattr__" = some (some (.builtin "object.__setattr__")))
    (ga_BadDeeds : PySem.W.findIn K (.ref A_BadDeeds) "__getattribute__" = some (some (.builtin "BaseException.__getattribute__")))
    (gg_BadDeeds : PySem.W.findIn K (.ref A_BadDeeds) "__getattr__" = some none)
    (xk_BadDeeds : PySem.W.keepIn K (.ref A_BadDeeds) = true)
    (xb_BadDeeds : PySem.W.subIn K (.ref A_BadDeeds) (.type "BaseException") = some true)
    (xt_BadDeeds : PySem.W.typeIn K (.ref A_BadDeeds) = some (.type "type"))
    (hd_BadDeeds : PySem.W.hasDictIn K A_BadDeeds = true)
    (nf_BadDeeds : PySem.W.findIn K (.ref A_BadDeeds) (Str.ofString "index") = some none)
    (i_BadDeeds : PySem.W.findIn K (.ref A_BadDeeds) "__init__" = some (some (.ref fi_BadDeeds)))
    (t_BadDeeds : PySem.W.typeIn K (.ref fi_BadDeeds) = some (.type "function"))
    (l_BadDeeds_init : K.lookup fi_BadDeeds = some ⟨oc_BadDeeds_init, od_BadDeeds_init, .func (PySem.W.fnOf "__init__" "BadDeeds.__init__" (defArgs s_BadDeeds_init) (defBody s_BadDeeds_init) (defScope s_BadDeeds_init) .none kV_BadDeeds_init doc_BadDeeds_init pm_BadDeeds_init an_BadDeeds_init cd_BadDeeds_init ct_BadDeeds_init), sl_BadDeeds_init⟩)
    (c_BadDeeds_init : PySem.W.codeIn K cd_BadDeeds_init "BadDeeds.__init__" = true)
    (k_BadDeeds_init : PySem.W.keepIn K (.ref fi_BadDeeds) = true)
    (m_NoCut : PySem.W.nsIn K mainGlobals "NoCut" = some (some (.ref A_NoCut)))
    (xq_NoCut : PySem.W.excIn K A_NoCut [.type "ValueError", .type "Exception", .type "BaseException", .type "object"] "ValueError.__new__" = true)
    (xk_NoCut : PySem.W.keepIn K (.ref A_NoCut) = true)
    (xb_NoCut : PySem.W.subIn K (.ref A_NoCut) (.type "BaseException") = some true)
    (xt_NoCut : PySem.W.typeIn K (.ref A_NoCut) = some (.type "type"))
    (m_NoBlocks : PySem.W.nsIn K mainGlobals "NoBlocks" = some (some (.ref A_NoBlocks)))
    (xq_NoBlocks : PySem.W.excIn K A_NoBlocks [.type "ValueError", .type "Exception", .type "BaseException", .type "object"] "ValueError.__new__" = true)
    (xk_NoBlocks : PySem.W.keepIn K (.ref A_NoBlocks) = true)
    (xb_NoBlocks : PySem.W.subIn K (.ref A_NoBlocks) (.type "BaseException") = some true)
    (xt_NoBlocks : PySem.W.typeIn K (.ref A_NoBlocks) = some (.type "type"))
    (m_NoDisk : PySem.W.nsIn K mainGlobals "NoDisk" = some (some (.ref A_NoDisk)))
    (xq_NoDisk : PySem.W.excIn K A_NoDisk [.type "ValueError", .type "Exception", .type "BaseException", .type "object"] "ValueError.__new__" = true)
    (xk_NoDisk : PySem.W.keepIn K (.ref A_NoDisk) = true)
    (xb_NoDisk : PySem.W.subIn K (.ref A_NoDisk) (.type "BaseException") = some true)
    (xt_NoDisk : PySem.W.typeIn K (.ref A_NoDisk) = some (.type "type"))
    (m_OtherMatch : PySem.W.nsIn K mainGlobals "OtherMatch" = some (some (.ref A_OtherMatch)))
    (xq_OtherMatch : PySem.W.excIn K A_OtherMatch [.type "ValueError", .type "Exception", .type "BaseException", .type "object"] "ValueError.__new__" = true)
    (xk_OtherMatch : PySem.W.keepIn K (.ref A_OtherMatch) = true)
    (xb_OtherMatch : PySem.W.subIn K (.ref A_OtherMatch) (.type "BaseException") = some true)
    (xt_OtherMatch : PySem.W.typeIn K (.ref A_OtherMatch) = some (.type "type"))
    (m_BadTurns : PySem.W.nsIn K mainGlobals "BadTurns" = some (some (.ref A_BadTurns)))
    (xl_BadTurns : K.lookup A_BadTurns = some (excClassObj nm_BadTurns q_BadTurns A_BadTurns N_BadTurns bs_BadTurns [.ref bw0_BadTurns, .type "ValueError", .type "Exception", .type "BaseException", .type "object"] true sn_BadTurns sub_BadTurns ab_BadTurns col_BadTurns dd_BadTurns m0_BadTurns m1_BadTurns m2_BadTurns m3_BadTurns m5_BadTurns "ValueError.__new__"))
    (sa_BadTurns : PySem.W.findIn K (.ref A_BadTurns) "__setattr__" = some (some (.builtin "object.__setattr__")))
    (ga_BadTurns : PySem.W.findIn K (.ref A_BadTurns) "__getattribute__" = some (some (.builtin "BaseException.__getattribute__")))
    (gg_BadTurns : PySem.W.findIn K (.ref A_BadTurns) "__getattr__" = some none)
    (xk_BadTurns : PySem.W.keepIn K (.ref A_BadTurns) = true)
    (xb_BadTurns : PySem.W.subIn K (.ref A_BadTurns) (.type "BaseException") = some true)
    (xt_BadTurns : PySem.W.typeIn K (.ref A_BadTurns) = some (.type "type"))
    (hd_BadTurns : PySem.W.hasDictIn K A_BadTurns = true)
    (nf_BadTurns : PySem.W.findIn K (.ref A_BadTurns) (Str.ofString "index") = some none)
    (i_BadTurns : PySem.W.findIn K (.ref A_BadTurns) "__init__" = some (some (.ref fi_BadTurns)))
    (t_BadTurns : PySem.W.typeIn K (.ref fi_BadTurns) = some (.type "function"))
    (l_BadTurns_init : K.lookup fi_BadTurns = some ⟨oc_BadTurns_init, od_BadTurns_init, .func (PySem.W.fnOf "__init__" "BadTurns.__init__" (defArgs s_BadTurns_init) (defBody s_BadTurns_init) (defScope s_BadTurns_init) .none kV_BadTurns_init doc_BadTurns_init pm_BadTurns_init an_BadTurns_init cd_BadTurns_init ct_BadTurns_init), sl_BadTurns_init⟩)
    (c_BadTurns_init : PySem.W.codeIn K cd_BadTurns_init "BadTurns.__init__" = true)
    (k_BadTurns_init : PySem.W.keepIn K (.ref fi_BadTurns) = true)
    (m_OtherGame : PySem.W.nsIn K mainGlobals "OtherGame" = some (some (.ref A_OtherGame)))
    (xq_OtherGame : PySem.W.excIn K A_OtherGame [.type "ValueError", .type "Exception", .type "BaseException", .type "object"] "ValueError.__new__" = true)
    (xk_OtherGame : PySem.W.keepIn K (.ref A_OtherGame) = true)
    (xb_OtherGame : PySem.W.subIn K (.ref A_OtherGame) (.type "BaseException") = some true)
    (xt_OtherGame : PySem.W.typeIn K (.ref A_OtherGame) = some (.type "type"))
    (m_Strayed : PySem.W.nsIn K mainGlobals "Strayed" = some (some (.ref A_Strayed)))
    (xl_Strayed : K.lookup A_Strayed = some (excClassObj nm_Strayed q_Strayed A_Strayed N_Strayed bs_Strayed [.ref bw0_Strayed, .type "ValueError", .type "Exception", .type "BaseException", .type "object"] true sn_Strayed sub_Strayed ab_Strayed col_Strayed dd_Strayed m0_Strayed m1_Strayed m2_Strayed m3_Strayed m5_Strayed "ValueError.__new__"))
    (sa_Strayed : PySem.W.findIn K (.ref A_Strayed) "__setattr__" = some (some (.builtin "object.__setattr__")))
    (ga_Strayed : PySem.W.findIn K (.ref A_Strayed) "__getattribute__" = some (some (.builtin "BaseException.__getattribute__")))
    (gg_Strayed : PySem.W.findIn K (.ref A_Strayed) "__getattr__" = some none)
    (xk_Strayed : PySem.W.keepIn K (.ref A_Strayed) = true)
    (xb_Strayed : PySem.W.subIn K (.ref A_Strayed) (.type "BaseException") = some true)
    (xt_Strayed : PySem.W.typeIn K (.ref A_Strayed) = some (.type "type"))
    (hd_Strayed : PySem.W.hasDictIn K A_Strayed = true)
    (nf_Strayed : PySem.W.findIn K (.ref A_Strayed) (Str.ofString "tick") = some none)
    (i_Strayed : PySem.W.findIn K (.ref A_Strayed) "__init__" = some (some (.ref fi_Strayed)))
    (t_Strayed : PySem.W.typeIn K (.ref fi_Strayed) = some (.type "function"))
    (l_Strayed_init : K.lookup fi_Strayed = some ⟨oc_Strayed_init, od_Strayed_init, .func (PySem.W.fnOf "__init__" "Strayed.__init__" (defArgs s_Strayed_init) (defBody s_Strayed_init) (defScope s_Strayed_init) .none kV_Strayed_init doc_Strayed_init pm_Strayed_init an_Strayed_init cd_Strayed_init ct_Strayed_init), sl_Strayed_init⟩)
    (c_Strayed_init : PySem.W.codeIn K cd_Strayed_init "Strayed.__init__" = true)
    (k_Strayed_init : PySem.W.keepIn K (.ref fi_Strayed) = true)
    (m_NoNode : PySem.W.nsIn K mainGlobals "NoNode" = some (some (.ref A_NoNode)))
    (xq_NoNode : PySem.W.excIn K A_NoNode [.type "ValueError", .type "Exception", .type "BaseException", .type "object"] "ValueError.__new__" = true)
    (xk_NoNode : PySem.W.keepIn K (.ref A_NoNode) = true)
    (xb_NoNode : PySem.W.subIn K (.ref A_NoNode) (.type "BaseException") = some true)
    (xt_NoNode : PySem.W.typeIn K (.ref A_NoNode) = some (.type "type"))
    (m_NoReplay : PySem.W.nsIn K mainGlobals "NoReplay" = some (some (.ref A_NoReplay)))
    (xq_NoReplay : PySem.W.excIn K A_NoReplay [.type "ValueError", .type "Exception", .type "BaseException", .type "object"] "ValueError.__new__" = true)
    (xk_NoReplay : PySem.W.keepIn K (.ref A_NoReplay) = true)
    (xb_NoReplay : PySem.W.subIn K (.ref A_NoReplay) (.type "BaseException") = some true)
    (xt_NoReplay : PySem.W.typeIn K (.ref A_NoReplay) = some (.type "type"))
    (m_NoExpression : PySem.W.nsIn K mainGlobals "NoExpression" = some (some (.ref A_NoExpression)))
    (xq_NoExpression : PySem.W.excIn K A_NoExpression [.type "ValueError", .type "Exception", .type "BaseException", .type "object"] "ValueError.__new__" = true)
    (xk_NoExpression : PySem.W.keepIn K (.ref A_NoExpression) = true)
    (xb_NoExpression : PySem.W.subIn K (.ref A_NoExpression) (.type "BaseException") = some true)
    (xt_NoExpression : PySem.W.typeIn K (.ref A_NoExpression) = some (.type "type"))
    (m_BadText : PySem.W.nsIn K mainGlobals "BadText" = some (some (.ref A_BadText)))
    (xl_BadText : K.lookup A_BadText = some (excClassObj nm_BadText q_BadText A_BadText N_BadText bs_BadText [.ref bw0_BadText, .type "ValueError", .type "Exception", .type "BaseException", .type "object"] true sn_BadText sub_BadText ab_BadText col_BadText dd_BadText m0_BadText m1_BadText m2_BadText m3_BadText m5_BadText "ValueError.__new__"))
    (sa_BadText : PySem.W.findIn K (.ref A_BadText) "__setattr__" = some (some (.builtin "object.__setattr__")))
    (ga_BadText : PySem.W.findIn K (.ref A_BadText) "__getattribute__" = some (some (.builtin "BaseException.__getattribute__")))
    (gg_BadText : PySem.W.findIn K (.ref A_BadText) "__getattr__" = some none)
    (xk_BadText : PySem.W.keepIn K (.ref A_BadText) = true)
    (xb_BadText : PySem.W.subIn K (.ref A_BadText) (.type "BaseException") = some true)
    (xt_BadText : PySem.W.typeIn K (.ref A_BadText) = some (.type "type"))
    (hd_BadText : PySem.W.hasDictIn K A_BadText = true)
    (nf_BadText : PySem.W.findIn K (.ref A_BadText) (Str.ofString "line") = some none)
    (i_BadText : PySem.W.findIn K (.ref A_BadText) "__init__" = some (some (.ref fi_BadText)))
    (t_BadText : PySem.W.typeIn K (.ref fi_BadText) = some (.type "function"))
    (l_BadText_init : K.lookup fi_BadText = some ⟨oc_BadText_init, od_BadText_init, .func (PySem.W.fnOf "__init__" "BadText.__init__" (defArgs s_BadText_init) (defBody s_BadText_init) (defScope s_BadText_init) .none kV_BadText_init doc_BadText_init pm_BadText_init an_BadText_init cd_BadText_init ct_BadText_init), sl_BadText_init⟩)
    (c_BadText_init : PySem.W.codeIn K cd_BadText_init "BadText.__init__" = true)
    (k_BadText_init : PySem.W.keepIn K (.ref fi_BadText) = true)
    (m_NoProgram : PySem.W.nsIn K mainGlobals "NoProgram" = some (some (.ref A_NoProgram)))
    (xq_NoProgram : PySem.W.excIn K A_NoProgram [.type "ValueError", .type "Exception", .type "BaseException", .type "object"] "ValueError.__new__" = true)
    (xk_NoProgram : PySem.W.keepIn K (.ref A_NoProgram) = true)
    (xb_NoProgram : PySem.W.subIn K (.ref A_NoProgram) (.type "BaseException") = some true)
    (xt_NoProgram : PySem.W.typeIn K (.ref A_NoProgram) = some (.type "type"))
    (m_NoPicture : PySem.W.nsIn K mainGlobals "NoPicture" = some (some (.ref A_NoPicture)))
    (xq_NoPicture : PySem.W.excIn K A_NoPicture [.type "ValueError", .type "Exception", .type "BaseException", .type "object"] "ValueError.__new__" = true)
    (xk_NoPicture : PySem.W.keepIn K (.ref A_NoPicture) = true)
    (xb_NoPicture : PySem.W.subIn K (.ref A_NoPicture) (.type "BaseException") = some true)
    (xt_NoPicture : PySem.W.typeIn K (.ref A_NoPicture) = some (.type "type"))
    (m_Unlike : PySem.W.nsIn K mainGlobals "Unlike" = some (some (.ref A_Unlike)))
    (xq_Unlike : PySem.W.excIn K A_Unlike [.type "ValueError", .type "Exception", .type "BaseException", .type "object"] "ValueError.__new__" = true)
    (xk_Unlike : PySem.W.keepIn K (.ref A_Unlike) = true)
    (xb_Unlike : PySem.W.subIn K (.ref A_Unlike) (.type "BaseException") = some true)
    (xt_Unlike : PySem.W.typeIn K (.ref A_Unlike) = some (.type "type"))
    (m_NoChanges : PySem.W.nsIn K mainGlobals "NoChanges" = some (some (.ref A_NoChanges)))
    (xq_NoChanges : PySem.W.excIn K A_NoChanges [.type "ValueError", .type "Exception", .type "BaseException", .type "object"] "ValueError.__new__" = true)
    (xk_NoChanges : PySem.W.keepIn K (.ref A_NoChanges) = true)
    (xb_NoChanges : PySem.W.subIn K (.ref A_NoChanges) (.type "BaseException") = some true)
    (xt_NoChanges : PySem.W.typeIn K (.ref A_NoChanges) = some (.type "type"))
    (m_NoLine : PySem.W.nsIn K mainGlobals "NoLine" = some (some (.ref A_NoLine)))
    (xq_NoLine : PySem.W.excIn K A_NoLine [.type "ValueError", .type "Exception", .type "BaseException", .type "object"] "ValueError.__new__" = true)
    (xk_NoLine : PySem.W.keepIn K (.ref A_NoLine) = true)
    (xb_NoLine : PySem.W.subIn K (.ref A_NoLine) (.type "BaseException") = some true)
    (xt_NoLine : PySem.W.typeIn K (.ref A_NoLine) = some (.type "type"))
    (m_NoName : PySem.W.nsIn K mainGlobals "NoName" = some (some (.ref A_NoName)))
    (xl_NoName : K.lookup A_NoName = some (excClassObj nm_NoName q_NoName A_NoName N_NoName bs_NoName [.ref bw0_NoName, .type "ValueError", .type "Exception", .type "BaseException", .type "object"] true sn_NoName sub_NoName ab_NoName col_NoName dd_NoName m0_NoName m1_NoName m2_NoName m3_NoName m5_NoName "ValueError.__new__"))
    (sa_NoName : PySem.W.findIn K (.ref A_NoName) "__setattr__" = some (some (.builtin "object.__setattr__")))
    (ga_NoName : PySem.W.findIn K (.ref A_NoName) "__getattribute__" = some (some (.builtin "BaseException.__getattribute__")))
    (gg_NoName : PySem.W.findIn K (.ref A_NoName) "__getattr__" = some none)
    (xk_NoName : PySem.W.keepIn K (.ref A_NoName) = true)
    (xb_NoName : PySem.W.subIn K (.ref A_NoName) (.type "BaseException") = some true)
    (xt_NoName : PySem.W.typeIn K (.ref A_NoName) = some (.type "type"))
    (hd_NoName : PySem.W.hasDictIn K A_NoName = true)
    (nf_NoName : PySem.W.findIn K (.ref A_NoName) (Str.ofString "name") = some none)
    (i_NoName : PySem.W.findIn K (.ref A_NoName) "__init__" = some (some (.ref fi_NoName)))
    (t_NoName : PySem.W.typeIn K (.ref fi_NoName) = some (.type "function"))
    (l_NoName_init : K.lookup fi_NoName = some ⟨oc_NoName_init, od_NoName_init, .func (PySem.W.fnOf "__init__" "NoName.__init__" (defArgs s_NoName_init) (defBody s_NoName_init) (defScope s_NoName_init) .none kV_NoName_init doc_NoName_init pm_NoName_init an_NoName_init cd_NoName_init ct_NoName_init), sl_NoName_init⟩)
    (c_NoName_init : PySem.W.codeIn K cd_NoName_init "NoName.__init__" = true)
    (k_NoName_init : PySem.W.keepIn K (.ref fi_NoName) = true)
    (ic_BadChange : PySem.W.isClsIn K A_BadChange = true)
    (e_BadChange_BadChange : PySem.W.subIn K (.ref A_BadChange) (.ref A_BadChange) = some true)
    (ic_BadDeed : PySem.W.isClsIn K A_BadDeed = true)
    (e_BadChange_BadDeed : PySem.W.subIn K (.ref A_BadChange) (.ref A_BadDeed) = some false)
    (ic_BadDeeds : PySem.W.isClsIn K A_BadDeeds = true)
    (e_BadChange_BadDeeds : PySem.W.subIn K (.ref A_BadChange) (.ref A_BadDeeds) = some false)
    (ic_BadGame : PySem.W.isClsIn K A_BadGame = true)
    (e_BadChange_BadGame : PySem.W.subIn K (.ref A_BadChange) (.ref A_BadGame) = some false)
    (ic_BadGround : PySem.W.isClsIn K A_BadGround = true)
    (e_BadChange_BadGround : PySem.W.subIn K (.ref A_BadChange) (.ref A_BadGround) = some false)
    (ic_BadKind : PySem.W.isClsIn K A_BadKind = true)
    (e_BadChange_BadKind : PySem.W.subIn K (.ref A_BadChange) (.ref A_BadKind) = some false)
    (ic_BadProgram : PySem.W.isClsIn K A_BadProgram = true)
    (e_BadChange_BadProgram : PySem.W.subIn K (.ref A_BadChange) (.ref A_BadProgram) = some false)
    (ic_BadRow : PySem.W.isClsIn K A_BadRow = true)
    (e_BadChange_BadRow : PySem.W.subIn K (.ref A_BadChange) (.ref A_BadRow) = some false)
    (ic_BadText : PySem.W.isClsIn K A_BadText = true)
    (e_BadChange_BadText : PySem.W.subIn K (.ref A_BadChange) (.ref A_BadText) = some false)
    (ic_BadTurns : PySem.W.isClsIn K A_BadTurns = true)
    (e_BadChange_BadTurns : PySem.W.subIn K (.ref A_BadChange) (.ref A_BadTurns) = some false)
    (ic_NoName : PySem.W.isClsIn K A_NoName = true)
    (e_BadChange_NoName : PySem.W.subIn K (.ref A_BadChange) (.ref A_NoName) = some false)
    (ic_NoRows : PySem.W.isClsIn K A_NoRows = true)
    (e_BadChange_NoRows : PySem.W.subIn K (.ref A_BadChange) (.ref A_NoRows) = some false)
    (ic_Strayed : PySem.W.isClsIn K A_Strayed = true)
    (e_BadChange_Strayed : PySem.W.subIn K (.ref A_BadChange) (.ref A_Strayed) = some false)
    (ic_WorldError : PySem.W.isClsIn K A_WorldError = true)
    (e_BadChange_WorldError : PySem.W.subIn K (.ref A_BadChange) (.ref A_WorldError) = some true)
    (e_BadDeed_BadChange : PySem.W.subIn K (.ref A_BadDeed) (.ref A_BadChange) = some false)
    (e_BadDeed_BadDeed : PySem.W.subIn K (.ref A_BadDeed) (.ref A_BadDeed) = some true)
    (e_BadDeed_BadDeeds : PySem.W.subIn K (.ref A_BadDeed) (.ref A_BadDeeds) = some false)
    (e_BadDeed_BadGame : PySem.W.subIn K (.ref A_BadDeed) (.ref A_BadGame) = some false)
    (e_BadDeed_BadGround : PySem.W.subIn K (.ref A_BadDeed) (.ref A_BadGround) = some false)
    (e_BadDeed_BadKind : PySem.W.subIn K (.ref A_BadDeed) (.ref A_BadKind) = some false)
    (e_BadDeed_BadProgram : PySem.W.subIn K (.ref A_BadDeed) (.ref A_BadProgram) = some false)
    (e_BadDeed_BadRow : PySem.W.subIn K (.ref A_BadDeed) (.ref A_BadRow) = some false)
    (e_BadDeed_BadText : PySem.W.subIn K (.ref A_BadDeed) (.ref A_BadText) = some false)
    (e_BadDeed_BadTurns : PySem.W.subIn K (.ref A_BadDeed) (.ref A_BadTurns) = some false)
    (e_BadDeed_NoName : PySem.W.subIn K (.ref A_BadDeed) (.ref A_NoName) = some false)
    (e_BadDeed_NoRows : PySem.W.subIn K (.ref A_BadDeed) (.ref A_NoRows) = some false)
    (e_BadDeed_Strayed : PySem.W.subIn K (.ref A_BadDeed) (.ref A_Strayed) = some false)
    (e_BadDeed_WorldError : PySem.W.subIn K (.ref A_BadDeed) (.ref A_WorldError) = some true)
    (e_BadDeeds_BadChange : PySem.W.subIn K (.ref A_BadDeeds) (.ref A_BadChange) = some false)
    (e_BadDeeds_BadDeed : PySem.W.subIn K (.ref A_BadDeeds) (.ref A_BadDeed) = some false)
    (e_BadDeeds_BadDeeds : PySem.W.subIn K (.ref A_BadDeeds) (.ref A_BadDeeds) = some true)
    (e_BadDeeds_BadGame : PySem.W.subIn K (.ref A_BadDeeds) (.ref A_BadGame) = some false)
    (e_BadDeeds_BadGround : PySem.W.subIn K (.ref A_BadDeeds) (.ref A_BadGround) = some false)
    (e_BadDeeds_BadKind : PySem.W.subIn K (.ref A_BadDeeds) (.ref A_BadKind) = some false)
    (e_BadDeeds_BadProgram : PySem.W.subIn K (.ref A_BadDeeds) (.ref A_BadProgram) = some false)
    (e_BadDeeds_BadRow : PySem.W.subIn K (.ref A_BadDeeds) (.ref A_BadRow) = some false)
    (e_BadDeeds_BadText : PySem.W.subIn K (.ref A_BadDeeds) (.ref A_BadText) = some false)
    (e_BadDeeds_BadTurns : PySem.W.subIn K (.ref A_BadDeeds) (.ref A_BadTurns) = some false)
    (e_BadDeeds_NoName : PySem.W.subIn K (.ref A_BadDeeds) (.ref A_NoName) = some false)
    (e_BadDeeds_NoRows : PySem.W.subIn K (.ref A_BadDeeds) (.ref A_NoRows) = some false)
    (e_BadDeeds_Strayed : PySem.W.subIn K (.ref A_BadDeeds) (.ref A_Strayed) = some false)
    (e_BadDeeds_WorldError : PySem.W.subIn K (.ref A_BadDeeds) (.ref A_WorldError) = some true)
    (e_BadGame_BadChange : PySem.W.subIn K (.ref A_BadGame) (.ref A_BadChange) = some false)
    (e_BadGame_BadDeed : PySem.W.subIn K (.ref A_BadGame) (.ref A_BadDeed) = some false)
    (e_BadGame_BadDeeds : PySem.W.subIn K (.ref A_BadGame) (.ref A_BadDeeds) = some false)
    (e_BadGame_BadGame : PySem.W.subIn K (.ref A_BadGame) (.ref A_BadGame) = some true)
    (e_BadGame_BadGround : PySem.W.subIn K (.ref A_BadGame) (.ref A_BadGround) = some false)
    (e_BadGame_BadKind : PySem.W.subIn K (.ref A_BadGame) (.ref A_BadKind) = some false)
    (e_BadGame_BadProgram : PySem.W.subIn K (.ref A_BadGame) (.ref A_BadProgram) = some false)
    (e_BadGame_BadRow : PySem.W.subIn K (.ref A_BadGame) (.ref A_BadRow) = some false)
    (e_BadGame_BadText : PySem.W.subIn K (.ref A_BadGame) (.ref A_BadText) = some false)
    (e_BadGame_BadTurns : PySem.W.subIn K (.ref A_BadGame) (.ref A_BadTurns) = some false)
    (e_BadGame_NoName : PySem.W.subIn K (.ref A_BadGame) (.ref A_NoName) = some false)
    (e_BadGame_NoRows : PySem.W.subIn K (.ref A_BadGame) (.ref A_NoRows) = some false)
    (e_BadGame_Strayed : PySem.W.subIn K (.ref A_BadGame) (.ref A_Strayed) = some false)
    (e_BadGame_WorldError : PySem.W.subIn K (.ref A_BadGame) (.ref A_WorldError) = some true)
    (e_BadGround_BadChange : PySem.W.subIn K (.ref A_BadGround) (.ref A_BadChange) = some false)
    (e_BadGround_BadDeed : PySem.W.subIn K (.ref A_BadGround) (.ref A_BadDeed) = some false)
    (e_BadGround_BadDeeds : PySem.W.subIn K (.ref A_BadGround) (.ref A_BadDeeds) = some false)
    (e_BadGround_BadGame : PySem.W.subIn K (.ref A_BadGround) (.ref A_BadGame) = some false)
    (e_BadGround_BadGround : PySem.W.subIn K (.ref A_BadGround) (.ref A_BadGround) = some true)
    (e_BadGround_BadKind : PySem.W.subIn K (.ref A_BadGround) (.ref A_BadKind) = some false)
    (e_BadGround_BadProgram : PySem.W.subIn K (.ref A_BadGround) (.ref A_BadProgram) = some false)
    (e_BadGround_BadRow : PySem.W.subIn K (.ref A_BadGround) (.ref A_BadRow) = some false)
    (e_BadGround_BadText : PySem.W.subIn K (.ref A_BadGround) (.ref A_BadText) = some false)
    (e_BadGround_BadTurns : PySem.W.subIn K (.ref A_BadGround) (.ref A_BadTurns) = some false)
    (e_BadGround_NoName : PySem.W.subIn K (.ref A_BadGround) (.ref A_NoName) = some false)
    (e_BadGround_NoRows : PySem.W.subIn K (.ref A_BadGround) (.ref A_NoRows) = some false)
    (e_BadGround_Strayed : PySem.W.subIn K (.ref A_BadGround) (.ref A_Strayed) = some false)
    (e_BadGround_WorldError : PySem.W.subIn K (.ref A_BadGround) (.ref A_WorldError) = some true)
    (e_BadKind_BadChange : PySem.W.subIn K (.ref A_BadKind) (.ref A_BadChange) = some false)
    (e_BadKind_BadDeed : PySem.W.subIn K (.ref A_BadKind) (.ref A_BadDeed) = some false)
    (e_BadKind_BadDeeds : PySem.W.subIn K (.ref A_BadKind) (.ref A_BadDeeds) = some false)
    (e_BadKind_BadGame : PySem.W.subIn K (.ref A_BadKind) (.ref A_BadGame) = some false)
    (e_BadKind_BadGround : PySem.W.subIn K (.ref A_BadKind) (.ref A_BadGround) = some false)
    (e_BadKind_BadKind : PySem.W.subIn K (.ref A_BadKind) (.ref A_BadKind) = some true)
    (e_BadKind_BadProgram : PySem.W.subIn K (.ref A_BadKind) (.ref A_BadProgram) = some false)
    (e_BadKind_BadRow : PySem.W.subIn K (.ref A_BadKind) (.ref A_BadRow) = some false)
    (e_BadKind_BadText : PySem.W.subIn K (.ref A_BadKind) (.ref A_BadText) = some false)
    (e_BadKind_BadTurns : PySem.W.subIn K (.ref A_BadKind) (.ref A_BadTurns) = some false)
    (e_BadKind_NoName : PySem.W.subIn K (.ref A_BadKind) (.ref A_NoName) = some false)
    (e_BadKind_NoRows : PySem.W.subIn K (.ref A_BadKind) (.ref A_NoRows) = some false)
    (e_BadKind_Strayed : PySem.W.subIn K (.ref A_BadKind) (.ref A_Strayed) = some false)
    (e_BadKind_WorldError : PySem.W.subIn K (.ref A_BadKind) (.ref A_WorldError) = some true)
    (e_BadProgram_BadChange : PySem.W.subIn K (.ref A_BadProgram) (.ref A_BadChange) = some false)
    (e_BadProgram_BadDeed : PySem.W.subIn K (.ref A_BadProgram) (.ref A_BadDeed) = some false)
    (e_BadProgram_BadDeeds : PySem.W.subIn K (.ref A_BadProgram) (.ref A_BadDeeds) = some false)
    (e_BadProgram_BadGame : PySem.W.subIn K (.ref A_BadProgram) (.ref A_BadGame) = some false)
    (e_BadProgram_BadGround : PySem.W.subIn K (.ref A_BadProgram) (.ref A_BadGround) = some false)
    (e_BadProgram_BadKind : PySem.W.subIn K (.ref A_BadProgram) (.ref A_BadKind) = some false)
    (e_BadProgram_BadProgram : PySem.W.subIn K (.ref A_BadProgram) (.ref A_BadProgram) = some true)
    (e_BadProgram_BadRow : PySem.W.subIn K (.ref A_BadProgram) (.ref A_BadRow) = some false)
    (e_BadProgram_BadText : PySem.W.subIn K (.ref A_BadProgram) (.ref A_BadText) = some false)
    (e_BadProgram_BadTurns : PySem.W.subIn K (.ref A_BadProgram) (.ref A_BadTurns) = some false)
    (e_BadProgram_NoName : PySem.W.subIn K (.ref A_BadProgram) (.ref A_NoName) = some false)
    (e_BadProgram_NoRows : PySem.W.subIn K (.ref A_BadProgram) (.ref A_NoRows) = some false)
    (e_BadProgram_Strayed : PySem.W.subIn K (.ref A_BadProgram) (.ref A_Strayed) = some false)
    (e_BadProgram_WorldError : PySem.W.subIn K (.ref A_BadProgram) (.ref A_WorldError) = some true)
    (e_BadRow_BadChange : PySem.W.subIn K (.ref A_BadRow) (.ref A_BadChange) = some false)
    (e_BadRow_BadDeed : PySem.W.subIn K (.ref A_BadRow) (.ref A_BadDeed) = some false)
    (e_BadRow_BadDeeds : PySem.W.subIn K (.ref A_BadRow) (.ref A_BadDeeds) = some false)
    (e_BadRow_BadGame : PySem.W.subIn K (.ref A_BadRow) (.ref A_BadGame) = some false)
    (e_BadRow_BadGround : PySem.W.subIn K (.ref A_BadRow) (.ref A_BadGround) = some false)
    (e_BadRow_BadKind : PySem.W.subIn K (.ref A_BadRow) (.ref A_BadKind) = some false)
    (e_BadRow_BadProgram : PySem.W.subIn K (.ref A_BadRow) (.ref A_BadProgram) = some false)
    (e_BadRow_BadRow : PySem.W.subIn K (.ref A_BadRow) (.ref A_BadRow) = some true)
    (e_BadRow_BadText : PySem.W.subIn K (.ref A_BadRow) (.ref A_BadText) = some false)
    (e_BadRow_BadTurns : PySem.W.subIn K (.ref A_BadRow) (.ref A_BadTurns) = some false)
    (e_BadRow_NoName : PySem.W.subIn K (.ref A_BadRow) (.ref A_NoName) = some false)
    (e_BadRow_NoRows : PySem.W.subIn K (.ref A_BadRow) (.ref A_NoRows) = some false)
    (e_BadRow_Strayed : PySem.W.subIn K (.ref A_BadRow) (.ref A_Strayed) = some false)
    (e_BadRow_WorldError : PySem.W.subIn K (.ref A_BadRow) (.ref A_WorldError) = some true)
    (e_BadText_BadChange : PySem.W.subIn K (.ref A_BadText) (.ref A_BadChange) = some false)
    (e_BadText_BadDeed : PySem.W.subIn K (.ref A_BadText) (.ref A_BadDeed) = some false)
    (e_BadText_BadDeeds : PySem.W.subIn K (.ref A_BadText) (.ref A_BadDeeds) = some false)
    (e_BadText_BadGame : PySem.W.subIn K (.ref A_BadText) (.ref A_BadGame) = some false)
    (e_BadText_BadGround : PySem.W.subIn K (.ref A_BadText) (.ref A_BadGround) = some false)
    (e_BadText_BadKind : PySem.W.subIn K (.ref A_BadText) (.ref A_BadKind) = some false)
    (e_BadText_BadProgram : PySem.W.subIn K (.ref A_BadText) (.ref A_BadProgram) = some false)
    (e_BadText_BadRow : PySem.W.subIn K (.ref A_BadText) (.ref A_BadRow) = some false)
    (e_BadText_BadText : PySem.W.subIn K (.ref A_BadText) (.ref A_BadText) = some true)
    (e_BadText_BadTurns : PySem.W.subIn K (.ref A_BadText) (.ref A_BadTurns) = some false)
    (e_BadText_NoName : PySem.W.subIn K (.ref A_BadText) (.ref A_NoName) = some false)
    (e_BadText_NoRows : PySem.W.subIn K (.ref A_BadText) (.ref A_NoRows) = some false)
    (e_BadText_Strayed : PySem.W.subIn K (.ref A_BadText) (.ref A_Strayed) = some false)
    (e_BadText_WorldError : PySem.W.subIn K (.ref A_BadText) (.ref A_WorldError) = some true)
    (e_BadTurns_BadChange : PySem.W.subIn K (.ref A_BadTurns) (.ref A_BadChange) = some false)
    (e_BadTurns_BadDeed : PySem.W.subIn K (.ref A_BadTurns) (.ref A_BadDeed) = some false)
    (e_BadTurns_BadDeeds : PySem.W.subIn K (.ref A_BadTurns) (.ref A_BadDeeds) = some false)
    (e_BadTurns_BadGame : PySem.W.subIn K (.ref A_BadTurns) (.ref A_BadGame) = some false)
    (e_BadTurns_BadGround : PySem.W.subIn K (.ref A_BadTurns) (.ref A_BadGround) = some false)
    (e_BadTurns_BadKind : PySem.W.subIn K (.ref A_BadTurns) (.ref A_BadKind) = some false)
    (e_BadTurns_BadProgram : PySem.W.subIn K (.ref A_BadTurns) (.ref A_BadProgram) = some false)
    (e_BadTurns_BadRow : PySem.W.subIn K (.ref A_BadTurns) (.ref A_BadRow) = some false)
    (e_BadTurns_BadText : PySem.W.subIn K (.ref A_BadTurns) (.ref A_BadText) = some false)
    (e_BadTurns_BadTurns : PySem.W.subIn K (.ref A_BadTurns) (.ref A_BadTurns) = some true)
    (e_BadTurns_NoName : PySem.W.subIn K (.ref A_BadTurns) (.ref A_NoName) = some false)
    (e_BadTurns_NoRows : PySem.W.subIn K (.ref A_BadTurns) (.ref A_NoRows) = some false)
    (e_BadTurns_Strayed : PySem.W.subIn K (.ref A_BadTurns) (.ref A_Strayed) = some false)
    (e_BadTurns_WorldError : PySem.W.subIn K (.ref A_BadTurns) (.ref A_WorldError) = some true)
    (e_NoName_BadChange : PySem.W.subIn K (.ref A_NoName) (.ref A_BadChange) = some false)
    (e_NoName_BadDeed : PySem.W.subIn K (.ref A_NoName) (.ref A_BadDeed) = some false)
    (e_NoName_BadDeeds : PySem.W.subIn K (.ref A_NoName) (.ref A_BadDeeds) = some false)
    (e_NoName_BadGame : PySem.W.subIn K (.ref A_NoName) (.ref A_BadGame) = some false)
    (e_NoName_BadGround : PySem.W.subIn K (.ref A_NoName) (.ref A_BadGround) = some false)
    (e_NoName_BadKind : PySem.W.subIn K (.ref A_NoName) (.ref A_BadKind) = some false)
    (e_NoName_BadProgram : PySem.W.subIn K (.ref A_NoName) (.ref A_BadProgram) = some false)
    (e_NoName_BadRow : PySem.W.subIn K (.ref A_NoName) (.ref A_BadRow) = some false)
    (e_NoName_BadText : PySem.W.subIn K (.ref A_NoName) (.ref A_BadText) = some false)
    (e_NoName_BadTurns : PySem.W.subIn K (.ref A_NoName) (.ref A_BadTurns) = some false)
    (e_NoName_NoName : PySem.W.subIn K (.ref A_NoName) (.ref A_NoName) = some true)
    (e_NoName_NoRows : PySem.W.subIn K (.ref A_NoName) (.ref A_NoRows) = some false)
    (e_NoName_Strayed : PySem.W.subIn K (.ref A_NoName) (.ref A_Strayed) = some false)
    (e_NoName_WorldError : PySem.W.subIn K (.ref A_NoName) (.ref A_WorldError) = some true)
    (e_NoRows_BadChange : PySem.W.subIn K (.ref A_NoRows) (.ref A_BadChange) = some false)
    (e_NoRows_BadDeed : PySem.W.subIn K (.ref A_NoRows) (.ref A_BadDeed) = some false)
    (e_NoRows_BadDeeds : PySem.W.subIn K (.ref A_NoRows) (.ref A_BadDeeds) = some false)
    (e_NoRows_BadGame : PySem.W.subIn K (.ref A_NoRows) (.ref A_BadGame) = some false)
    (e_NoRows_BadGround : PySem.W.subIn K (.ref A_NoRows) (.ref A_BadGround) = some false)
    (e_NoRows_BadKind : PySem.W.subIn K (.ref A_NoRows) (.ref A_BadKind) = some false)
    (e_NoRows_BadProgram : PySem.W.subIn K (.ref A_NoRows) (.ref A_BadProgram) = some false)
    (e_NoRows_BadRow : PySem.W.subIn K (.ref A_NoRows) (.ref A_BadRow) = some false)
    (e_NoRows_BadText : PySem.W.subIn K (.ref A_NoRows) (.ref A_BadText) = some false)
    (e_NoRows_BadTurns : PySem.W.subIn K (.ref A_NoRows) (.ref A_BadTurns) = some false)
    (e_NoRows_NoName : PySem.W.subIn K (.ref A_NoRows) (.ref A_NoName) = some false)
    (e_NoRows_NoRows : PySem.W.subIn K (.ref A_NoRows) (.ref A_NoRows) = some true)
    (e_NoRows_Strayed : PySem.W.subIn K (.ref A_NoRows) (.ref A_Strayed) = some false)
    (e_NoRows_WorldError : PySem.W.subIn K (.ref A_NoRows) (.ref A_WorldError) = some true)
    (e_Strayed_BadChange : PySem.W.subIn K (.ref A_Strayed) (.ref A_BadChange) = some false)
    (e_Strayed_BadDeed : PySem.W.subIn K (.ref A_Strayed) (.ref A_BadDeed) = some false)
    (e_Strayed_BadDeeds : PySem.W.subIn K (.ref A_Strayed) (.ref A_BadDeeds) = some false)
    (e_Strayed_BadGame : PySem.W.subIn K (.ref A_Strayed) (.ref A_BadGame) = some false)
    (e_Strayed_BadGround : PySem.W.subIn K (.ref A_Strayed) (.ref A_BadGround) = some false)
    (e_Strayed_BadKind : PySem.W.subIn K (.ref A_Strayed) (.ref A_BadKind) = some false)
    (e_Strayed_BadProgram : PySem.W.subIn K (.ref A_Strayed) (.ref A_BadProgram) = some false)
    (e_Strayed_BadRow : PySem.W.subIn K (.ref A_Strayed) (.ref A_BadRow) = some false)
    (e_Strayed_BadText : PySem.W.subIn K (.ref A_Strayed) (.ref A_BadText) = some false)
    (e_Strayed_BadTurns : PySem.W.subIn K (.ref A_Strayed) (.ref A_BadTurns) = some false)
    (e_Strayed_NoName : PySem.W.subIn K (.ref A_Strayed) (.ref A_NoName) = some false)
    (e_Strayed_NoRows : PySem.W.subIn K (.ref A_Strayed) (.ref A_NoRows) = some false)
    (e_Strayed_Strayed : PySem.W.subIn K (.ref A_Strayed) (.ref A_Strayed) = some true)
    (e_Strayed_WorldError : PySem.W.subIn K (.ref A_Strayed) (.ref A_WorldError) = some true)
    (kr_xis : xisB K [A_NoNumber, A_NoSeed, A_BadGround, A_BadProgram, A_BadKind, A_BadGame, A_NoWorld, A_NoBody, A_NoWay, A_NoInputs, A_NoHandler, A_NoCode, A_NoRows, A_NoRow, A_NoPlace, A_BadRow, A_BadChange, A_NoSeat, A_NotWaiting, A_NoTick, A_NotOpen, A_Gap, A_BadDeed, A_NoBook, A_NoPeer, A_NoRules, A_NoPast, A_NoLetter, A_NoDeed, A_BadDeeds, A_NoCut, A_NoBlocks, A_NoDisk, A_OtherMatch, A_BadTurns, A_OtherGame, A_Strayed, A_NoNode, A_NoReplay, A_NoExpression, A_BadText, A_NoProgram, A_NoPicture, A_Unlike, A_NoChanges, A_NoLine, A_NoName] A_WorldError = true) : Tx K mg { ad0 with WorldError := A_WorldError, NoNumber := A_NoNumber, NoSeed := A_NoSeed, BadGround := A_BadGround, BadProgram := A_BadProgram, BadKind := A_BadKind, BadGame := A_BadGame, NoWorld := A_NoWorld, NoBody := A_NoBody, NoWay := A_NoWay, NoInputs := A_NoInputs, NoHandler := A_NoHandler, NoCode := A_NoCode, NoRows := A_NoRows, NoRow := A_NoRow, NoPlace := A_NoPlace, BadRow := A_BadRow, BadChange := A_BadChange, NoSeat := A_NoSeat, NotWaiting := A_NotWaiting, NoTick := A_NoTick, NotOpen := A_NotOpen, Gap := A_Gap, BadDeed := A_BadDeed, NoBook := A_NoBook, NoPeer := A_NoPeer, NoRules := A_NoRules, NoPast := A_NoPast, NoLetter := A_NoLetter, NoDeed := A_NoDeed, BadDeeds := A_BadDeeds, NoCut := A_NoCut, NoBlocks := A_NoBlocks, NoDisk := A_NoDisk, OtherMatch := A_OtherMatch, BadTurns := A_BadTurns, OtherGame := A_OtherGame, Strayed := A_Strayed, NoNode := A_NoNode, NoReplay := A_NoReplay, NoExpression := A_NoExpression, BadText := A_BadText, NoProgram := A_NoProgram, NoPicture := A_NoPicture, Unlike := A_Unlike, NoChanges := A_NoChanges, NoLine := A_NoLine, NoName := A_NoName, ot := ⟨[], []⟩ } := {
    a__law_hand := fa__law_hand, fd__law_hand := _, F__law_hand := fun_mk (st := s__law_hand) l__law_hand c__law_hand k__law_hand
    m__law_hand := PySem.W.mg_of X G a__law_hand
    b__law_hand := (fun_mk (st := s__law_hand) l__law_hand c__law_hand k__law_hand).binds (ps := [Str.ofString "_law_script"]) fun _ _ _ _ _ _ us hl => match us, hl with | [_], _ => rfl
    a__law_take := fa__law_take, fd__law_take := _, F__law_take := fun_mk (st := s__law_take) l__law_take c__law_take k__law_take
    m__law_take := PySem.W.mg_of X G a__law_take
    b__law_take := (fun_mk (st := s__law_take) l__law_take c__law_take k__law_take).binds (ps := [Str.ofString "_law_hand_here", Str.ofString "_law_many"]) fun _ _ _ _ _ _ us hl => match us, hl with | [_, _], _ => rfl
    a__law_odd := fa__law_odd, fd__law_odd := _, F__law_odd := fun_mk (st := s__law_odd) l__law_odd c__law_odd k__law_odd
    m__law_odd := PySem.W.mg_of X G a__law_odd
    b__law_odd := (fun_mk (st := s__law_odd) l__law_odd c__law_odd k__law_odd).binds (ps := [Str.ofString "_law_hand_here"]) fun _ _ _ _ _ _ us hl => match us, hl with | [_], _ => rfl
    a__law_thing := fa__law_thing, fd__law_thing := _, F__law_thing := fun_mk (st := s__law_thing) l__law_thing c__law_thing k__law_thing
    m__law_thing := PySem.W.mg_of X G a__law_thing
    b__law_thing := (fun_mk (st := s__law_thing) l__law_thing c__law_thing k__law_thing).binds (ps := [Str.ofString "_law_hand_here"]) fun _ _ _ _ _ _ us hl => match us, hl with | [_], _ => rfl
    a__law_all := fa__law_all, fd__law_all := _, F__law_all := fun_mk (st := s__law_all) l__law_all c__law_all k__law_all
    m__law_all := PySem.W.mg_of X G a__law_all
    b__law_all := (fun_mk (st := s__law_all) l__law_all c__law_all k__law_all).binds (ps := [Str.ofString "_law_thing_here"]) fun _ _ _ _ _ _ us hl => match us, hl with | [_], _ => rfl
    a__law_marks := fa__law_marks, fd__law_marks := _, F__law_marks := fun_mk (st := s__law_marks) l__law_marks c__law_marks k__law_marks
    m__law_marks := PySem.W.mg_of X G a__law_marks
    b__law_marks := (fun_mk (st := s__law_marks) l__law_marks c__law_marks k__law_marks).binds (ps := [Str.ofString "_law_one"]) fun _ _ _ _ _ _ us hl => match us, hl with | [_], _ => rfl
    a__law_alien := fa__law_alien, fd__law_alien := _, F__law_alien := fun_mk (st := s__law_alien) l__law_alien c__law_alien k__law_alien
    m__law_alien := PySem.W.mg_of X G a__law_alien
    b__law_alien := (fun_mk (st := s__law_alien) l__law_alien c__law_alien k__law_alien).binds (ps := [Str.ofString "_law_one"]) fun _ _ _ _ _ _ us hl => match us, hl with | [_], _ => rfl
    a__law_fields := fa__law_fields, fd__law_fields := _, F__law_fields := fun_mk (st := s__law_fields) l__law_fields c__law_fields k__law_fields
    m__law_fields := PySem.W.mg_of X G a__law_fields
    b__law_fields := (fun_mk (st := s__law_fields) l__law_fields c__law_fields k__law_fields).binds (ps := [Str.ofString "_law_errors"]) fun _ _ _ _ _ _ us hl => match us, hl with | [_], _ => rfl
    a__law_raise := fa__law_raise, fd__law_raise := _, F__law_raise := fun_mk (st := s__law_raise) l__law_raise c__law_raise k__law_raise
    m__law_raise := PySem.W.mg_of X G a__law_raise
    b__law_raise := (fun_mk (st := s__law_raise) l__law_raise c__law_raise k__law_raise).binds (ps := [Str.ofString "_law_which", Str.ofString "_law_thing_here"]) fun _ _ _ _ _ _ us hl => match us, hl with | [_, _], _ => rfl
    a__law_caught := fa__law_caught, fd__law_caught := _, F__law_caught := fun_mk (st := s__law_caught) l__law_caught c__law_caught k__law_caught
    m__law_caught := PySem.W.mg_of X G a__law_caught
    b__law_caught := (fun_mk (st := s__law_caught) l__law_caught c__law_caught k__law_caught).binds (ps := [Str.ofString "_law_which", Str.ofString "_law_thing_here"]) fun _ _ _ _ _ _ us hl => match us, hl with | [_, _], _ => rfl
    a__law_based := fa__law_based, fd__law_based := _, F__law_based := fun_mk (st := s__law_based) l__law_based c__law_based k__law_based
    m__law_based := PySem.W.mg_of X G a__law_based
    b__law_based := (fun_mk (st := s__law_based) l__law_based c__law_based k__law_based).binds (ps := [Str.ofString "_law_which", Str.ofString "_law_thing_here"]) fun _ _ _ _ _ _ us hl => match us, hl with | [_, _], _ => rfl
    a_law := fa_law, fd_law := _, F_law := fun_mk (st := s_law) l_law c_law k_law
    m_law := PySem.W.mg_of X G a_law
    b_law := (fun_mk (st := s_law) l_law c_law k_law).binds (ps := [Str.ofString "_law_script"]) fun _ _ _ _ _ _ us hl => match us, hl with | [_], _ => rfl
    n_ArithmeticError := PySem.W.mg_none_of X G n_ArithmeticError
    n_IndexError := PySem.W.mg_none_of X G n_IndexError
    n_KeyError := PySem.W.mg_none_of X G n_KeyError
    n_ValueError := PySem.W.mg_none_of X G n_ValueError
    n_int := PySem.W.mg_none_of X G n_int
    n_isinstance := PySem.W.mg_none_of X G n_isinstance
    n_len := PySem.W.mg_none_of X G n_len
    n_list := PySem.W.mg_none_of X G n_list
    n_range := PySem.W.mg_none_of X G n_range
    n_repr := PySem.W.mg_none_of X G n_repr
    ot := otab_nil
    m_WorldError := PySem.W.mg_of X G m_WorldError
    x_WorldError := ⟨xq_WorldError, xk_WorldError, xb_WorldError, xt_WorldError⟩
    m_NoNumber := PySem.W.mg_of X G m_NoNumber
    x_NoNumber := ⟨xq_NoNumber, xk_NoNumber, xb_NoNumber, xt_NoNumber⟩
    m_NoSeed := PySem.W.mg_of X G m_NoSeed
    x_NoSeed := ⟨xq_NoSeed, xk_NoSeed, xb_NoSeed, xt_NoSeed⟩
    m_BadGround := PySem.W.mg_of X G m_BadGround
    o_BadGround := ⟨⟨_, _, _, _, _, _, _, _, _, _, _, _, _, _, _, xl_BadGround, (ve_step ve_base)⟩, sa_BadGround, xb_BadGround, xt_BadGround, xk_BadGround⟩
    z_BadGround := ⟨ga_BadGround, gg_BadGround, xb_BadGround, hd_BadGround⟩, nf_BadGround := nf_BadGround, ai_BadGround := fi_BadGround, fdi_BadGround := _, i_BadGround := i_BadGround, t_BadGround := t_BadGround
    Fi_BadGround := fun_mk (st := s_BadGround_init) l_BadGround_init c_BadGround_init k_BadGround_init
    bi_BadGround := (fun_mk (st := s_BadGround_init) l_BadGround_init c_BadGround_init k_BadGround_init).binds (ps := [Str.ofString "self", Str.ofString "part"]) fun _ _ _ _ _ _ us hl => match us, hl with | [_, _], _ => rfl
    m_BadProgram := PySem.W.mg_of X G m_BadProgram
    o_BadProgram := ⟨⟨_, _, _, _, _, _, _, _, _, _, _, _, _, _, _, xl_BadProgram, (ve_step ve_base)⟩, sa_BadProgram, xb_BadProgram, xt_BadProgram, xk_BadProgram⟩
    z_BadProgram := ⟨ga_BadProgram, gg_BadProgram, xb_BadProgram, hd_BadProgram⟩, nf_BadProgram := nf_BadProgram, ai_BadProgram := fi_BadProgram, fdi_BadProgram := _, i_BadProgram := i_BadProgram, t_BadProgram := t_BadProgram
    Fi_BadProgram := fun_mk (st := s_BadProgram_init) l_BadProgram_init c_BadProgram_init k_BadProgram_init
    bi_BadProgram := (fun_mk (st := s_BadProgram_init) l_BadProgram_init c_BadProgram_init k_BadProgram_init).binds (ps := [Str.ofString "self", Str.ofString "part"]) fun _ _ _ _ _ _ us hl => match us, hl with | [_, _], _ => rfl
    m_BadKind := PySem.W.mg_of X G m_BadKind
    o_BadKind := ⟨⟨_, _, _, _, _, _, _, _, _, _, _, _, _, _, _, xl_BadKind, (ve_step ve_base)⟩, sa_BadKind, xb_BadKind, xt_BadKind, xk_BadKind⟩
    z_BadKind := ⟨ga_BadKind, gg_BadKind, xb_BadKind, hd_BadKind⟩, nf_BadKind := nf_BadKind, ai_BadKind := fi_BadKind, fdi_BadKind := _, i_BadKind := i_BadKind, t_BadKind := t_BadKind
    Fi_BadKind := fun_mk (st := s_BadKind_init) l_BadKind_init c_BadKind_init k_BadKind_init
    bi_BadKind := (fun_mk (st := s_BadKind_init) l_BadKind_init c_BadKind_init k_BadKind_init).binds (ps := [Str.ofString "self", Str.ofString "part"]) fun _ _ _ _ _ _ us hl => match us, hl with | [_, _], _ => rfl
    m_BadGame := PySem.W.mg_of X G m_BadGame
    o_BadGame := ⟨⟨_, _, _, _, _, _, _, _, _, _, _, _, _, _, _, xl_BadGame, (ve_step ve_base)⟩, sa_BadGame, xb_BadGame, xt_BadGame, xk_BadGame⟩
    z_BadGame := ⟨ga_BadGame, gg_BadGame, xb_BadGame, hd_BadGame⟩, nf_BadGame := nf_BadGame, ai_BadGame := fi_BadGame, fdi_BadGame := _, i_BadGame := i_BadGame, t_BadGame := t_BadGame
    Fi_BadGame := fun_mk (st := s_BadGame_init) l_BadGame_init c_BadGame_init k_BadGame_init
    bi_BadGame := (fun_mk (st := s_BadGame_init) l_BadGame_init c_BadGame_init k_BadGame_init).binds (ps := [Str.ofString "self", Str.ofString "part"]) fun _ _ _ _ _ _ us hl => match us, hl with | [_, _], _ => rfl
    m_NoWorld := PySem.W.mg_of X G m_NoWorld
    x_NoWorld := ⟨xq_NoWorld, xk_NoWorld, xb_NoWorld, xt_NoWorld⟩
    m_NoBody := PySem.W.mg_of X G m_NoBody
    x_NoBody := ⟨xq_NoBody, xk_NoBody, xb_NoBody, xt_NoBody⟩
    m_NoWay := PySem.W.mg_of X G m_NoWay
    x_NoWay := ⟨xq_NoWay, xk_NoWay, xb_NoWay, xt_NoWay⟩
    m_NoInputs := PySem.W.mg_of X G m_NoInputs
    x_NoInputs := ⟨xq_NoInputs, xk_NoInputs, xb_NoInputs, xt_NoInputs⟩
    m_NoHandler := PySem.W.mg_of X G m_NoHandler
    x_NoHandler := ⟨xq_NoHandler, xk_NoHandler, xb_NoHandler, xt_NoHandler⟩
    m_NoCode := PySem.W.mg_of X G m_NoCode
    x_NoCode := ⟨xq_NoCode, xk_NoCode, xb_NoCode, xt_NoCode⟩
    m_NoRows := PySem.W.mg_of X G m_NoRows
    o_NoRows := ⟨⟨_, _, _, _, _, _, _, _, _, _, _, _, _, _, _, xl_NoRows, (ve_step ve_base)⟩, sa_NoRows, xb_NoRows, xt_NoRows, xk_NoRows⟩
    z_NoRows := ⟨ga_NoRows, gg_NoRows, xb_NoRows, hd_NoRows⟩, nf_NoRows := nf_NoRows, ai_NoRows := fi_NoRows, fdi_NoRows := _, i_NoRows := i_NoRows, t_NoRows := t_NoRows
    Fi_NoRows := fun_mk (st := s_NoRows_init) l_NoRows_init c_NoRows_init k_NoRows_init
    bi_NoRows := (fun_mk (st := s_NoRows_init) l_NoRows_init c_NoRows_init k_NoRows_init).binds (ps := [Str.ofString "self", Str.ofString "index"]) fun _ _ _ _ _ _ us hl => match us, hl with | [_, _], _ => rfl
    m_NoRow := PySem.W.mg_of X G m_NoRow
    x_NoRow := ⟨xq_NoRow, xk_NoRow, xb_NoRow, xt_NoRow⟩
    m_NoPlace := PySem.W.mg_of X G m_NoPlace
    x_NoPlace := ⟨xq_NoPlace, xk_NoPlace, xb_NoPlace, xt_NoPlace⟩
    m_BadRow := PySem.W.mg_of X G m_BadRow
    o_BadRow := ⟨⟨_, _, _, _, _, _, _, _, _, _, _, _, _, _, _, xl_BadRow, (ve_step ve_base)⟩, sa_BadRow, xb_BadRow, xt_BadRow, xk_BadRow⟩
    z_BadRow := ⟨ga_BadRow, gg_BadRow, xb_BadRow, hd_BadRow⟩, nf_BadRow := nf_BadRow, ai_BadRow := fi_BadRow, fdi_BadRow := _, i_BadRow := i_BadRow, t_BadRow := t_BadRow
    Fi_BadRow := fun_mk (st := s_BadRow_init) l_BadRow_init c_BadRow_init k_BadRow_init
    bi_BadRow := (fun_mk (st := s_BadRow_init) l_BadRow_init c_BadRow_init k_BadRow_init).binds (ps := [Str.ofString "self", Str.ofString "place"]) fun _ _ _ _ _ _ us hl => match us, hl with | [_, _], _ => rfl
    m_BadChange := PySem.W.mg_of X G m_BadChange
    o_BadChange := ⟨⟨_, _, _, _, _, _, _, _, _, _, _, _, _, _, _, xl_BadChange, (ve_step ve_base)⟩, sa_BadChange, xb_BadChange, xt_BadChange, xk_BadChange⟩
    z_BadChange := ⟨ga_BadChange, gg_BadChange, xb_BadChange, hd_BadChange⟩, nf_BadChange := nf_BadChange, ai_BadChange := fi_BadChange, fdi_BadChange := _, i_BadChange := i_BadChange, t_BadChange := t_BadChange
    Fi_BadChange := fun_mk (st := s_BadChange_init) l_BadChange_init c_BadChange_init k_BadChange_init
    bi_BadChange := (fun_mk (st := s_BadChange_init) l_BadChange_init c_BadChange_init k_BadChange_init).binds (ps := [Str.ofString "self", Str.ofString "place"]) fun _ _ _ _ _ _ us hl => match us, hl with | [_, _], _ => rfl
    m_NoSeat := PySem.W.mg_of X G m_NoSeat
    x_NoSeat := ⟨xq_NoSeat, xk_NoSeat, xb_NoSeat, xt_NoSeat⟩
    m_NotWaiting := PySem.W.mg_of X G m_NotWaiting
    x_NotWaiting := ⟨xq_NotWaiting, xk_NotWaiting, xb_NotWaiting, xt_NotWaiting⟩
    m_NoTick := PySem.W.mg_of X G m_NoTick
    x_NoTick := ⟨xq_NoTick, xk_NoTick, xb_NoTick, xt_NoTick⟩
    m_NotOpen := PySem.W.mg_of X G m_NotOpen
    x_NotOpen := ⟨xq_NotOpen, xk_NotOpen, xb_NotOpen, xt_NotOpen⟩
    m_Gap := PySem.W.mg_of X G m_Gap
    x_Gap := ⟨xq_Gap, xk_Gap, xb_Gap, xt_Gap⟩
    m_BadDeed := PySem.W.mg_of X G m_BadDeed
    o_BadDeed := ⟨⟨_, _, _, _, _, _, _, _, _, _, _, _, _, _, _, xl_BadDeed, (ve_step ve_base)⟩, sa_BadDeed, xb_BadDeed, xt_BadDeed, xk_BadDeed⟩
    z_BadDeed := ⟨ga_BadDeed, gg_BadDeed, xb_BadDeed, hd_BadDeed⟩, nf_BadDeed := nf_BadDeed, ai_BadDeed := fi_BadDeed, fdi_BadDeed := _, i_BadDeed := i_BadDeed, t_BadDeed := t_BadDeed
    Fi_BadDeed := fun_mk (st := s_BadDeed_init) l_BadDeed_init c_BadDeed_init k_BadDeed_init
    bi_BadDeed := (fun_mk (st := s_BadDeed_init) l_BadDeed_init c_BadDeed_init k_BadDeed_init).binds (ps := [Str.ofString "self", Str.ofString "index"]) fun _ _ _ _ _ _ us hl => match us, hl with | [_, _], _ => rfl
    m_NoBook := PySem.W.mg_of X G m_NoBook
    x_NoBook := ⟨xq_NoBook, xk_NoBook, xb_NoBook, xt_NoBook⟩
    m_NoPeer := PySem.W.mg_of X G m_NoPeer
    x_NoPeer := ⟨xq_NoPeer, xk_NoPeer, xb_NoPeer, xt_NoPeer⟩
    m_NoRules := PySem.W.mg_of X G m_NoRules
    x_NoRules := ⟨xq_NoRules, xk_NoRules, xb_NoRules, xt_NoRules⟩
    m_NoPast := PySem.W.mg_of X G m_NoPast
    x_NoPast := ⟨xq_NoPast, xk_NoPast, xb_NoPast, xt_NoPast⟩
    m_NoLetter := PySem.W.mg_of X G m_NoLetter
    x_NoLetter := ⟨xq_NoLetter, xk_NoLetter, xb_NoLetter, xt_NoLetter⟩
    m_NoDeed := PySem.W.mg_of X G m_NoDeed
    x_NoDeed := ⟨xq_NoDeed, xk_NoDeed, xb_NoDeed, xt_NoDeed⟩
    m_BadDeeds := PySem.W.mg_of X G m_BadDeeds
    o_BadDeeds := ⟨⟨_, _, _, _, _, _, _, _, _, _, _, _, _, _, _, xl_BadDeeds, (ve_step ve_base)⟩, sa_BadDeeds, xb_BadDeeds, xt_BadDeeds, xk_BadDeeds⟩
    z_BadDeeds := ⟨ga_BadDeeds, gg_BadDeeds, xb_BadDeeds, hd_BadDeeds⟩, nf_BadDeeds := nf_BadDeeds, ai_BadDeeds := fi_BadDeeds, fdi_BadDeeds := _, i_BadDeeds := i_BadDeeds, t_BadDeeds := t_BadDeeds
    Fi_BadDeeds := fun_mk (st := s_BadDeeds_init) l_BadDeeds_init c_BadDeeds_init k_BadDeeds_init
    bi_BadDeeds := (fun_mk (st := s_BadDeeds_init) l_BadDeeds_init c_BadDeeds_init k_BadDeeds_init).binds (ps := [Str.ofString "self", Str.ofString "index"]) fun _ _ _ _ _ _ us hl => match us, hl with | [_, _], _ => rfl
    m_NoCut := PySem.W.mg_of X G m_NoCut
    x_NoCut := ⟨xq_NoCut, xk_NoCut, xb_NoCut, xt_NoCut⟩
    m_NoBlocks := PySem.W.mg_of X G m_NoBlocks
    x_NoBlocks := ⟨xq_NoBlocks, xk_NoBlocks, xb_NoBlocks, xt_NoBlocks⟩
    m_NoDisk := PySem.W.mg_of X G m_NoDisk
    x_NoDisk := ⟨xq_NoDisk, xk_NoDisk, xb_NoDisk, xt_NoDisk⟩
    m_OtherMatch := PySem.W.mg_of X G m_OtherMatch
    x_OtherMatch := ⟨xq_OtherMatch, xk_OtherMatch, xb_OtherMatch, xt_OtherMatch⟩
    m_BadTurns := PySem.W.mg_of X G m_BadTurns
    o_BadTurns := ⟨⟨_, _, _, _, _, _, _, _, _, _, _, _, _, _, _, xl_BadTurns, (ve_step ve_base)⟩, sa_BadTurns, xb_BadTurns, xt_BadTurns, xk_BadTurns⟩
    z_BadTurns := ⟨ga_BadTurns, gg_BadTurns, xb_BadTurns, hd_BadTurns⟩, nf_BadTurns := nf_BadTurns, ai_BadTurns := fi_BadTurns, fdi_BadTurns := _, i_BadTurns := i_BadTurns, t_BadTurns := t_BadTurns
    Fi_BadTurns := fun_mk (st := s_BadTurns_init) l_BadTurns_init c_BadTurns_init k_BadTurns_init
    bi_BadTurns := (fun_mk (st := s_BadTurns_init) l_BadTurns_init c_BadTurns_init k_BadTurns_init).binds (ps := [Str.ofString "self", Str.ofString "index"]) fun _ _ _ _ _ _ us hl => match us, hl with | [_, _], _ => rfl
    m_OtherGame := PySem.W.mg_of X G m_OtherGame
    x_OtherGame := ⟨xq_OtherGame, xk_OtherGame, xb_OtherGame, xt_OtherGame⟩
    m_Strayed := PySem.W.mg_of X G m_Strayed
    o_Strayed := ⟨⟨_, _, _, _, _, _, _, _, _, _, _, _, _, _, _, xl_Strayed, (ve_step ve_base)⟩, sa_Strayed, xb_Strayed, xt_Strayed, xk_Strayed⟩
    z_Strayed := ⟨ga_Strayed, gg_Strayed, xb_Strayed, hd_Strayed⟩, nf_Strayed := nf_Strayed, ai_Strayed := fi_Strayed, fdi_Strayed := _, i_Strayed := i_Strayed, t_Strayed := t_Strayed
    Fi_Strayed := fun_mk (st := s_Strayed_init) l_Strayed_init c_Strayed_init k_Strayed_init
    bi_Strayed := (fun_mk (st := s_Strayed_init) l_Strayed_init c_Strayed_init k_Strayed_init).binds (ps := [Str.ofString "self", Str.ofString "tick"]) fun _ _ _ _ _ _ us hl => match us, hl with | [_, _], _ => rfl
    m_NoNode := PySem.W.mg_of X G m_NoNode
    x_NoNode := ⟨xq_NoNode, xk_NoNode, xb_NoNode, xt_NoNode⟩
    m_NoReplay := PySem.W.mg_of X G m_NoReplay
    x_NoReplay := ⟨xq_NoReplay, xk_NoReplay, xb_NoReplay, xt_NoReplay⟩
    m_NoExpression := PySem.W.mg_of X G m_NoExpression
    x_NoExpression := ⟨xq_NoExpression, xk_NoExpression, xb_NoExpression, xt_NoExpression⟩
    m_BadText := PySem.W.mg_of X G m_BadText
    o_BadText := ⟨⟨_, _, _, _, _, _, _, _, _, _, _, _, _, _, _, xl_BadText, (ve_step ve_base)⟩, sa_BadText, xb_BadText, xt_BadText, xk_BadText⟩
    z_BadText := ⟨ga_BadText, gg_BadText, xb_BadText, hd_BadText⟩, nf_BadText := nf_BadText, ai_BadText := fi_BadText, fdi_BadText := _, i_BadText := i_BadText, t_BadText := t_BadText
    Fi_BadText := fun_mk (st := s_BadText_init) l_BadText_init c_BadText_init k_BadText_init
    bi_BadText := (fun_mk (st := s_BadText_init) l_BadText_init c_BadText_init k_BadText_init).binds (ps := [Str.ofString "self", Str.ofString "line"]) fun _ _ _ _ _ _ us hl => match us, hl with | [_, _], _ => rfl
    m_NoProgram := PySem.W.mg_of X G m_NoProgram
    x_NoProgram := ⟨xq_NoProgram, xk_NoProgram, xb_NoProgram, xt_NoProgram⟩
    m_NoPicture := PySem.W.mg_of X G m_NoPicture
    x_NoPicture := ⟨xq_NoPicture, xk_NoPicture, xb_NoPicture, xt_NoPicture⟩
    m_Unlike := PySem.W.mg_of X G m_Unlike
    x_Unlike := ⟨xq_Unlike, xk_Unlike, xb_Unlike, xt_Unlike⟩
    m_NoChanges := PySem.W.mg_of X G m_NoChanges
    x_NoChanges := ⟨xq_NoChanges, xk_NoChanges, xb_NoChanges, xt_NoChanges⟩
    m_NoLine := PySem.W.mg_of X G m_NoLine
    x_NoLine := ⟨xq_NoLine, xk_NoLine, xb_NoLine, xt_NoLine⟩
    m_NoName := PySem.W.mg_of X G m_NoName
    o_NoName := ⟨⟨_, _, _, _, _, _, _, _, _, _, _, _, _, _, _, xl_NoName, (ve_step ve_base)⟩, sa_NoName, xb_NoName, xt_NoName, xk_NoName⟩
    z_NoName := ⟨ga_NoName, gg_NoName, xb_NoName, hd_NoName⟩, nf_NoName := nf_NoName, ai_NoName := fi_NoName, fdi_NoName := _, i_NoName := i_NoName, t_NoName := t_NoName
    Fi_NoName := fun_mk (st := s_NoName_init) l_NoName_init c_NoName_init k_NoName_init
    bi_NoName := (fun_mk (st := s_NoName_init) l_NoName_init c_NoName_init k_NoName_init).binds (ps := [Str.ofString "self", Str.ofString "name"]) fun _ _ _ _ _ _ us hl => match us, hl with | [_, _], _ => rfl
    e_BadChange_BadChange := exm_mk xb_BadChange ic_BadChange xt_BadChange e_BadChange_BadChange
    e_BadChange_BadDeed := exm_mk xb_BadDeed ic_BadDeed xt_BadDeed e_BadChange_BadDeed
    e_BadChange_BadDeeds := exm_mk xb_BadDeeds ic_BadDeeds xt_BadDeeds e_BadChange_BadDeeds
    e_BadChange_BadGame := exm_mk xb_BadGame ic_BadGame xt_BadGame e_BadChange_BadGame
    e_BadChange_BadGround := exm_mk xb_BadGround ic_BadGround xt_BadGround e_BadChange_BadGround
    e_BadChange_BadKind := exm_mk xb_BadKind ic_BadKind xt_BadKind e_BadChange_BadKind
    e_BadChange_BadProgram := exm_mk xb_BadProgram ic_BadProgram xt_BadProgram e_BadChange_BadProgram
    e_BadChange_BadRow := exm_mk xb_BadRow ic_BadRow xt_BadRow e_BadChange_BadRow
    e_BadChange_BadText := exm_mk xb_BadText ic_BadText xt_BadText e_BadChange_BadText
    e_BadChange_BadTurns := exm_mk xb_BadTurns ic_BadTurns xt_BadTurns e_BadChange_BadTurns
    e_BadChange_NoName := exm_mk xb_NoName ic_NoName xt_NoName e_BadChange_NoName
    e_BadChange_NoRows := exm_mk xb_NoRows ic_NoRows xt_NoRows e_BadChange_NoRows
    e_BadChange_Strayed := exm_mk xb_Strayed ic_Strayed xt_Strayed e_BadChange_Strayed
    e_BadChange_WorldError := exm_mk xb_WorldError ic_WorldError xt_WorldError e_BadChange_WorldError
    e_BadDeed_BadChange := exm_mk xb_BadChange ic_BadChange xt_BadChange e_BadDeed_BadChange
    e_BadDeed_BadDeed := exm_mk xb_BadDeed ic_BadDeed xt_BadDeed e_BadDeed_BadDeed
    e_BadDeed_BadDeeds := exm_mk xb_BadDeeds ic_BadDeeds xt_BadDeeds e_BadDeed_BadDeeds
    e_BadDeed_BadGame := exm_mk xb_BadGame ic_BadGame xt_BadGame e_BadDeed_BadGame
    e_BadDeed_BadGround := exm_mk xb_BadGround ic_BadGround xt_BadGround e_BadDeed_BadGround
    e_BadDeed_BadKind := exm_mk xb_BadKind ic_BadKind xt_BadKind e_BadDeed_BadKind
    e_BadDeed_BadProgram := exm_mk xb_BadProgram ic_BadProgram xt_BadProgram e_BadDeed_BadProgram
    e_BadDeed_BadRow := exm_mk xb_BadRow ic_BadRow xt_BadRow e_BadDeed_BadRow
    e_BadDeed_BadText := exm_mk xb_BadText ic_BadText xt_BadText e_BadDeed_BadText
    e_BadDeed_BadTurns := exm_mk xb_BadTurns ic_BadTurns xt_BadTurns e_BadDeed_BadTurns
    e_BadDeed_NoName := exm_mk xb_NoName ic_NoName xt_NoName e_BadDeed_NoName
    e_BadDeed_NoRows := exm_mk xb_NoRows ic_NoRows xt_NoRows e_BadDeed_NoRows
    e_BadDeed_Strayed := exm_mk xb_Strayed ic_Strayed xt_Strayed e_BadDeed_Strayed
    e_BadDeed_WorldError := exm_mk xb_WorldError ic_WorldError xt_WorldError e_BadDeed_WorldError
    e_BadDeeds_BadChange := exm_mk xb_BadChange ic_BadChange xt_BadChange e_BadDeeds_BadChange
    e_BadDeeds_BadDeed := exm_mk xb_BadDeed ic_BadDeed xt_BadDeed e_BadDeeds_BadDeed
    e_BadDeeds_BadDeeds := exm_mk xb_BadDeeds ic_BadDeeds xt_BadDeeds e_BadDeeds_BadDeeds
    e_BadDeeds_BadGame := exm_mk xb_BadGame ic_BadGame xt_BadGame e_BadDeeds_BadGame
    e_BadDeeds_BadGround := exm_mk xb_BadGround ic_BadGround xt_BadGround e_BadDeeds_BadGround
    e_BadDeeds_BadKind := exm_mk xb_BadKind ic_BadKind xt_BadKind e_BadDeeds_BadKind
    e_BadDeeds_BadProgram := exm_mk xb_BadProgram ic_BadProgram xt_BadProgram e_BadDeeds_BadProgram
    e_BadDeeds_BadRow := exm_mk xb_BadRow ic_BadRow xt_BadRow e_BadDeeds_BadRow
    e_BadDeeds_BadText := exm_mk xb_BadText ic_BadText xt_BadText e_BadDeeds_BadText
    e_BadDeeds_BadTurns := exm_mk xb_BadTurns ic_BadTurns xt_BadTurns e_BadDeeds_BadTurns
    e_BadDeeds_NoName := exm_mk xb_NoName ic_NoName xt_NoName e_BadDeeds_NoName
    e_BadDeeds_NoRows := exm_mk xb_NoRows ic_NoRows xt_NoRows e_BadDeeds_NoRows
    e_BadDeeds_Strayed := exm_mk xb_Strayed ic_Strayed xt_Strayed e_BadDeeds_Strayed
    e_BadDeeds_WorldError := exm_mk xb_WorldError ic_WorldError xt_WorldError e_BadDeeds_WorldError
    e_BadGame_BadChange := exm_mk xb_BadChange ic_BadChange xt_BadChange e_BadGame_BadChange
    e_BadGame_BadDeed := exm_mk xb_BadDeed ic_BadDeed xt_BadDeed e_BadGame_BadDeed
    e_BadGame_BadDeeds := exm_mk xb_BadDeeds ic_BadDeeds xt_BadDeeds e_BadGame_BadDeeds
    e_BadGame_BadGame := exm_mk xb_BadGame ic_BadGame xt_BadGame e_BadGame_BadGame
    e_BadGame_BadGround := exm_mk xb_BadGround ic_BadGround xt_BadGround e_BadGame_BadGround
    e_BadGame_BadKind := exm_mk xb_BadKind ic_BadKind xt_BadKind e_BadGame_BadKind
    e_BadGame_BadProgram := exm_mk xb_BadProgram ic_BadProgram xt_BadProgram e_BadGame_BadProgram
    e_BadGame_BadRow := exm_mk xb_BadRow ic_BadRow xt_BadRow e_BadGame_BadRow
    e_BadGame_BadText := exm_mk xb_BadText ic_BadText xt_BadText e_BadGame_BadText
    e_BadGame_BadTurns := exm_mk xb_BadTurns ic_BadTurns xt_BadTurns e_BadGame_BadTurns
    e_BadGame_NoName := exm_mk xb_NoName ic_NoName xt_NoName e_BadGame_NoName
    e_BadGame_NoRows := exm_mk xb_NoRows ic_NoRows xt_NoRows e_BadGame_NoRows
    e_BadGame_Strayed := exm_mk xb_Strayed ic_Strayed xt_Strayed e_BadGame_Strayed
    e_BadGame_WorldError := exm_mk xb_WorldError ic_WorldError xt_WorldError e_BadGame_WorldError
    e_BadGround_BadChange := exm_mk xb_BadChange ic_BadChange xt_BadChange e_BadGround_BadChange
    e_BadGround_BadDeed := exm_mk xb_BadDeed ic_BadDeed xt_BadDeed e_BadGround_BadDeed
    e_BadGround_BadDeeds := exm_mk xb_BadDeeds ic_BadDeeds xt_BadDeeds e_BadGround_BadDeeds
    e_BadGround_BadGame := exm_mk xb_BadGame ic_BadGame xt_BadGame e_BadGround_BadGame
    e_BadGround_BadGround := exm_mk xb_BadGround ic_BadGround xt_BadGround e_BadGround_BadGround
    e_BadGround_BadKind := exm_mk xb_BadKind ic_BadKind xt_BadKind e_BadGround_BadKind
    e_BadGround_BadProgram := exm_mk xb_BadProgram ic_BadProgram xt_BadProgram e_BadGround_BadProgram
    e_BadGround_BadRow := exm_mk xb_BadRow ic_BadRow xt_BadRow e_BadGround_BadRow
    e_BadGround_BadText := exm_mk xb_BadText ic_BadText xt_BadText e_BadGround_BadText
    e_BadGround_BadTurns := exm_mk xb_BadTurns ic_BadTurns xt_BadTurns e_BadGround_BadTurns
    e_BadGround_NoName := exm_mk xb_NoName ic_NoName xt_NoName e_BadGround_NoName
    e_BadGround_NoRows := exm_mk xb_NoRows ic_NoRows xt_NoRows e_BadGround_NoRows
    e_BadGround_Strayed := exm_mk xb_Strayed ic_Strayed xt_Strayed e_BadGround_Strayed
    e_BadGround_WorldError := exm_mk xb_WorldError ic_WorldError xt_WorldError e_BadGround_WorldError
    e_BadKind_BadChange := exm_mk xb_BadChange ic_BadChange xt_BadChange e_BadKind_BadChange
    e_BadKind_BadDeed := exm_mk xb_BadDeed ic_BadDeed xt_BadDeed e_BadKind_BadDeed
    e_BadKind_BadDeeds := exm_mk xb_BadDeeds ic_BadDeeds xt_BadDeeds e_BadKind_BadDeeds
    e_BadKind_BadGame := exm_mk xb_BadGame ic_BadGame xt_BadGame e_BadKind_BadGame
    e_BadKind_BadGround := exm_mk xb_BadGround ic_BadGround xt_BadGround e_BadKind_BadGround
    e_BadKind_BadKind := exm_mk xb_BadKind ic_BadKind xt_BadKind e_BadKind_BadKind
    e_BadKind_BadProgram := exm_mk xb_BadProgram ic_BadProgram xt_BadProgram e_BadKind_BadProgram
    e_BadKind_BadRow := exm_mk xb_BadRow ic_BadRow xt_BadRow e_BadKind_BadRow
    e_BadKind_BadText := exm_mk xb_BadText ic_BadText xt_BadText e_BadKind_BadText
    e_BadKind_BadTurns := exm_mk xb_BadTurns ic_BadTurns xt_BadTurns e_BadKind_BadTurns
    e_BadKind_NoName := exm_mk xb_NoName ic_NoName xt_NoName e_BadKind_NoName
    e_BadKind_NoRows := exm_mk xb_NoRows ic_NoRows xt_NoRows e_BadKind_NoRows
    e_BadKind_Strayed := exm_mk xb_Strayed ic_Strayed xt_Strayed e_BadKind_Strayed
    e_BadKind_WorldError := exm_mk xb_WorldError ic_WorldError xt_WorldError e_BadKind_WorldError
    e_BadProgram_BadChange := exm_mk xb_BadChange ic_BadChange xt_BadChange e_BadProgram_BadChange
    e_BadProgram_BadDeed := exm_mk xb_BadDeed ic_BadDeed xt_BadDeed e_BadProgram_BadDeed
    e_BadProgram_BadDeeds := exm_mk xb_BadDeeds ic_BadDeeds xt_BadDeeds e_BadProgram_BadDeeds
    e_BadProgram_BadGame := exm_mk xb_BadGame ic_BadGame xt_BadGame e_BadProgram_BadGame
    e_BadProgram_BadGround := exm_mk xb_BadGround ic_BadGround xt_BadGround e_BadProgram_BadGround
    e_BadProgram_BadKind := exm_mk xb_BadKind ic_BadKind xt_BadKind e_BadProgram_BadKind
    e_BadProgram_BadProgram := exm_mk xb_BadProgram ic_BadProgram xt_BadProgram e_BadProgram_BadProgram
    e_BadProgram_BadRow := exm_mk xb_BadRow ic_BadRow xt_BadRow e_BadProgram_BadRow
    e_BadProgram_BadText := exm_mk xb_BadText ic_BadText xt_BadText e_BadProgram_BadText
    e_BadProgram_BadTurns := exm_mk xb_BadTurns ic_BadTurns xt_BadTurns e_BadProgram_BadTurns
    e_BadProgram_NoName := exm_mk xb_NoName ic_NoName xt_NoName e_BadProgram_NoName
    e_BadProgram_NoRows := exm_mk xb_NoRows ic_NoRows xt_NoRows e_BadProgram_NoRows
    e_BadProgram_Strayed := exm_mk xb_Strayed ic_Strayed xt_Strayed e_BadProgram_Strayed
    e_BadProgram_WorldError := exm_mk xb_WorldError ic_WorldError xt_WorldError e_BadProgram_WorldError
    e_BadRow_BadChange := exm_mk xb_BadChange ic_BadChange xt_BadChange e_BadRow_BadChange
    e_BadRow_BadDeed := exm_mk xb_BadDeed ic_BadDeed xt_BadDeed e_BadRow_BadDeed
    e_BadRow_BadDeeds := exm_mk xb_BadDeeds ic_BadDeeds xt_BadDeeds e_BadRow_BadDeeds
    e_BadRow_BadGame := exm_mk xb_BadGame ic_BadGame xt_BadGame e_BadRow_BadGame
    e_BadRow_BadGround := exm_mk xb_BadGround ic_BadGround xt_BadGround e_BadRow_BadGround
    e_BadRow_BadKind := exm_mk xb_BadKind ic_BadKind xt_BadKind e_BadRow_BadKind
    e_BadRow_BadProgram := exm_mk xb_BadProgram ic_BadProgram xt_BadProgram e_BadRow_BadProgram
    e_BadRow_BadRow := exm_mk xb_BadRow ic_BadRow xt_BadRow e_BadRow_BadRow
    e_BadRow_BadText := exm_mk xb_BadText ic_BadText xt_BadText e_BadRow_BadText
    e_BadRow_BadTurns := exm_mk xb_BadTurns ic_BadTurns xt_BadTurns e_BadRow_BadTurns
    e_BadRow_NoName := exm_mk xb_NoName ic_NoName xt_NoName e_BadRow_NoName
    e_BadRow_NoRows := exm_mk xb_NoRows ic_NoRows xt_NoRows e_BadRow_NoRows
    e_BadRow_Strayed := exm_mk xb_Strayed ic_Strayed xt_Strayed e_BadRow_Strayed
    e_BadRow_WorldError := exm_mk xb_WorldError ic_WorldError xt_WorldError e_BadRow_WorldError
    e_BadText_BadChange := exm_mk xb_BadChange ic_BadChange xt_BadChange e_BadText_BadChange
    e_BadText_BadDeed := exm_mk xb_BadDeed ic_BadDeed xt_BadDeed e_BadText_BadDeed
    e_BadText_BadDeeds := exm_mk xb_BadDeeds ic_BadDeeds xt_BadDeeds e_BadText_BadDeeds
    e_BadText_BadGame := exm_mk xb_BadGame ic_BadGame xt_BadGame e_BadText_BadGame
    e_BadText_BadGround := exm_mk xb_BadGround ic_BadGround xt_BadGround e_BadText_BadGround
    e_BadText_BadKind := exm_mk xb_BadKind ic_BadKind xt_BadKind e_BadText_BadKind
    e_BadText_BadProgram := exm_mk xb_BadProgram ic_BadProgram xt_BadProgram e_BadText_BadProgram
    e_BadText_BadRow := exm_mk xb_BadRow ic_BadRow xt_BadRow e_BadText_BadRow
    e_BadText_BadText := exm_mk xb_BadText ic_BadText xt_BadText e_BadText_BadText
    e_BadText_BadTurns := exm_mk xb_BadTurns ic_BadTurns xt_BadTurns e_BadText_BadTurns
    e_BadText_NoName := exm_mk xb_NoName ic_NoName xt_NoName e_BadText_NoName
    e_BadText_NoRows := exm_mk xb_NoRows ic_NoRows xt_NoRows e_BadText_NoRows
    e_BadText_Strayed := exm_mk xb_Strayed ic_Strayed xt_Strayed e_BadText_Strayed
    e_BadText_WorldError := exm_mk xb_WorldError ic_WorldError xt_WorldError e_BadText_WorldError
    e_BadTurns_BadChange := exm_mk xb_BadChange ic_BadChange xt_BadChange e_BadTurns_BadChange
    e_BadTurns_BadDeed := exm_mk xb_BadDeed ic_BadDeed xt_BadDeed e_BadTurns_BadDeed
    e_BadTurns_BadDeeds := exm_mk xb_BadDeeds ic_BadDeeds xt_BadDeeds e_BadTurns_BadDeeds
    e_BadTurns_BadGame := exm_mk xb_BadGame ic_BadGame xt_BadGame e_BadTurns_BadGame
    e_BadTurns_BadGround := exm_mk xb_BadGround ic_BadGround xt_BadGround e_BadTurns_BadGround
    e_BadTurns_BadKind := exm_mk xb_BadKind ic_BadKind xt_BadKind e_BadTurns_BadKind
    e_BadTurns_BadProgram := exm_mk xb_BadProgram ic_BadProgram xt_BadProgram e_BadTurns_BadProgram
    e_BadTurns_BadRow := exm_mk xb_BadRow ic_BadRow xt_BadRow e_BadTurns_BadRow
    e_BadTurns_BadText := exm_mk xb_BadText ic_BadText xt_BadText e_BadTurns_BadText
    e_BadTurns_BadTurns := exm_mk xb_BadTurns ic_BadTurns xt_BadTurns e_BadTurns_BadTurns
    e_BadTurns_NoName := exm_mk xb_NoName ic_NoName xt_NoName e_BadTurns_NoName
    e_BadTurns_NoRows := exm_mk xb_NoRows ic_NoRows xt_NoRows e_BadTurns_NoRows
    e_BadTurns_Strayed := exm_mk xb_Strayed ic_Strayed xt_Strayed e_BadTurns_Strayed
    e_BadTurns_WorldError := exm_mk xb_WorldError ic_WorldError xt_WorldError e_BadTurns_WorldError
    e_NoName_BadChange := exm_mk xb_BadChange ic_BadChange xt_BadChange e_NoName_BadChange
    e_NoName_BadDeed := exm_mk xb_BadDeed ic_BadDeed xt_BadDeed e_NoName_BadDeed
    e_NoName_BadDeeds := exm_mk xb_BadDeeds ic_BadDeeds xt_BadDeeds e_NoName_BadDeeds
    e_NoName_BadGame := exm_mk xb_BadGame ic_BadGame xt_BadGame e_NoName_BadGame
    e_NoName_BadGround := exm_mk xb_BadGround ic_BadGround xt_BadGround e_NoName_BadGround
    e_NoName_BadKind := exm_mk xb_BadKind ic_BadKind xt_BadKind e_NoName_BadKind
    e_NoName_BadProgram := exm_mk xb_BadProgram ic_BadProgram xt_BadProgram e_NoName_BadProgram
    e_NoName_BadRow := exm_mk xb_BadRow ic_BadRow xt_BadRow e_NoName_BadRow
    e_NoName_BadText := exm_mk xb_BadText ic_BadText xt_BadText e_NoName_BadText
    e_NoName_BadTurns := exm_mk xb_BadTurns ic_BadTurns xt_BadTurns e_NoName_BadTurns
    e_NoName_NoName := exm_mk xb_NoName ic_NoName xt_NoName e_NoName_NoName
    e_NoName_NoRows := exm_mk xb_NoRows ic_NoRows xt_NoRows e_NoName_NoRows
    e_NoName_Strayed := exm_mk xb_Strayed ic_Strayed xt_Strayed e_NoName_Strayed
    e_NoName_WorldError := exm_mk xb_WorldError ic_WorldError xt_WorldError e_NoName_WorldError
    e_NoRows_BadChange := exm_mk xb_BadChange ic_BadChange xt_BadChange e_NoRows_BadChange
    e_NoRows_BadDeed := exm_mk xb_BadDeed ic_BadDeed xt_BadDeed e_NoRows_BadDeed
    e_NoRows_BadDeeds := exm_mk xb_BadDeeds ic_BadDeeds xt_BadDeeds e_NoRows_BadDeeds
    e_NoRows_BadGame := exm_mk xb_BadGame ic_BadGame xt_BadGame e_NoRows_BadGame
    e_NoRows_BadGround := exm_mk xb_BadGround ic_BadGround xt_BadGround e_NoRows_BadGround
    e_NoRows_BadKind := exm_mk xb_BadKind ic_BadKind xt_BadKind e_NoRows_BadKind
    e_NoRows_BadProgram := exm_mk xb_BadProgram ic_BadProgram xt_BadProgram e_NoRows_BadProgram
    e_NoRows_BadRow := exm_mk xb_BadRow ic_BadRow xt_BadRow e_NoRows_BadRow
    e_NoRows_BadText := exm_mk xb_BadText ic_BadText xt_BadText e_NoRows_BadText
    e_NoRows_BadTurns := exm_mk xb_BadTurns ic_BadTurns xt_BadTurns e_NoRows_BadTurns
    e_NoRows_NoName := exm_mk xb_NoName ic_NoName xt_NoName e_NoRows_NoName
    e_NoRows_NoRows := exm_mk xb_NoRows ic_NoRows xt_NoRows e_NoRows_NoRows
    e_NoRows_Strayed := exm_mk xb_Strayed ic_Strayed xt_Strayed e_NoRows_Strayed
    e_NoRows_WorldError := exm_mk xb_WorldError ic_WorldError xt_WorldError e_NoRows_WorldError
    e_Strayed_BadChange := exm_mk xb_BadChange ic_BadChange xt_BadChange e_Strayed_BadChange
    e_Strayed_BadDeed := exm_mk xb_BadDeed ic_BadDeed xt_BadDeed e_Strayed_BadDeed
    e_Strayed_BadDeeds := exm_mk xb_BadDeeds ic_BadDeeds xt_BadDeeds e_Strayed_BadDeeds
    e_Strayed_BadGame := exm_mk xb_BadGame ic_BadGame xt_BadGame e_Strayed_BadGame
    e_Strayed_BadGround := exm_mk xb_BadGround ic_BadGround xt_BadGround e_Strayed_BadGround
    e_Strayed_BadKind := exm_mk xb_BadKind ic_BadKind xt_BadKind e_Strayed_BadKind
    e_Strayed_BadProgram := exm_mk xb_BadProgram ic_BadProgram xt_BadProgram e_Strayed_BadProgram
    e_Strayed_BadRow := exm_mk xb_BadRow ic_BadRow xt_BadRow e_Strayed_BadRow
    e_Strayed_BadText := exm_mk xb_BadText ic_BadText xt_BadText e_Strayed_BadText
    e_Strayed_BadTurns := exm_mk xb_BadTurns ic_BadTurns xt_BadTurns e_Strayed_BadTurns
    e_Strayed_NoName := exm_mk xb_NoName ic_NoName xt_NoName e_Strayed_NoName
    e_Strayed_NoRows := exm_mk xb_NoRows ic_NoRows xt_NoRows e_Strayed_NoRows
    e_Strayed_Strayed := exm_mk xb_Strayed ic_Strayed xt_Strayed e_Strayed_Strayed
    e_Strayed_WorldError := exm_mk xb_WorldError ic_WorldError xt_WorldError e_Strayed_WorldError
    xis := xis_of kr_xis }
theorem law_mk {P : Program} {w : World} {K : PySem.W.Frag} {h : Heap} {mg : Str → Option Value} {A : Ad} {fa : Addr} (hfa : mg "law" = some (.ref fa)) (T : Tx K mg A) :
    ∃ fd : FuncData, (∀ (s : Shared) (v : Value), BindsTo s fd ⟨[v], []⟩ [(Str.ofString "_law_script", v)]) ∧ ∀ base : Heap, K.In base → base.Ns mainGlobals mg → SysB base → FnD P w K mg base 5 fa fd [Str.ofString "_law_script"] spLaw := by
  have e := hfa.symm.trans T.m_law
  cases e
  refine ⟨T.fd_law, fun s v => ?_, fun base _ _ hb => all_mk_ok T hb⟩
  obtain ⟨oc, od, kV, doc, pm, an, cdv, ct, osl, e, _, _⟩ := T.F_law.ex
  rw [e]
  exact .of_eq rfl
end Lw
open PySem PySem.W PyProof.Rows
set_option maxRecDepth 100000 in
set_option maxHeartbeats 0 in
theorem PySem.Challenge.cw_guessedworlds_k00_errors_keep_what_is_pa_holds : PySem.Challenge.rw_guessedworlds_k00_errors_keep_what_is_pa.Holds := by
  w_on; o_law; refine holds_open (q := Hd.pre.view_39) (loose := []) (Xt := fun s => xlAt Hd.pre.view_39 [] s && recOk (RowW.records (OpenRow.toRowW (OpenLaw.row PySem.Challenge.rw_guessedworlds_k00_errors_keep_what_is_pa))) s) (XP := XL Hd.pre.view_39 []) (Yf := Hook.obs (kHook Hd.pre.heap_39 Hd.as0 Hd.ek)) (Ya := Hook.val (kHook Hd.pre.heap_39 Hd.as0 Hd.ek)) (YP := Hook.says (kHook Hd.pre.heap_39 Hd.as0 Hd.ek)) (N := 22826) Hd.left (Hook.of (kHook Hd.pre.heap_39 Hd.as0 Hd.ek)) (Hook.keeps (kHook Hd.pre.heap_39 Hd.as0 Hd.ek)) (fun s e => xl_of s (Bool.and_eq_true_iff.mp e).1) XL.keeps (by rfl) (by rfl) (by rfl) (fun s e => recFacts_of (Bool.and_eq_true_iff.mp e).2) (by rfl) (by first | assumption | decide +kernel) (by decide +kernel) ⟨rfl, rfl, rfl, rfl, rfl, by decide +kernel⟩ ?hw ?hc; (case hw => w_witness2)
  k_fill
  refine VD.walkS (l := PySem.Challenge.rw_guessedworlds_k00_errors_keep_what_is_pa) (n := 63) (k := 5) (x := "_law_script") (CX := fun w => L2.CX PySem.Challenge.rw_guessedworlds_k00_errors_keep_what_is_pa.prog w) (sp := fun w => VD.lowF _ VD.spLaw) rfl (by decide) (by decide +kernel) rfl ⟨⟨rfl, by decide, by decide⟩, rfl⟩ (fun w h Y => PySem.W.kIn_of Y) ?F (fun _ _ a ns hl hS => VD.law_in hl hS) (fun _ H s e s' h => VD.law_out H s e s' h)
  case F =>
    intro w mg fa h KX G hmg
    refine' Lw.law_mk (h := h) hmg (Lw.tx_mk KX G ?a__law_hand ?l__law_hand ?c__law_hand ?k__law_hand ?a__law_take ?l__law_take ?c__law_take ?k__law_take ?a__law_odd ?l__law_odd ?c__law_odd ?k__law_odd ?a__law_thing ?l__law_thing ?c__law_thing ?k__law_thing ?a__law_all ?l__law_all ?c__law_all ?k__law_all ?a__law_marks ?l__law_marks ?c__law_marks ?k__law_marks ?a__law_alien ?l__law_alien ?c__law_alien ?k__law_alien ?a__law_fields ?l__law_fields ?c__law_fields ?k__law_fields ?a__law_raise ?l__law_raise ?c__law_raise ?k__law_raise ?a__law_caught ?l__law_caught ?c__law_caught ?k__law_caught ?a__law_based ?l__law_based ?c__law_based ?k__law_based ?a_law ?l_law ?c_law ?k_law ?n_ArithmeticError ?n_IndexError ?n_KeyError ?n_ValueError ?n_int ?n_isinstance ?n_len ?n_list ?n_range ?n_repr ?m_WorldError ?xq_WorldError ?xk_WorldError ?xb_WorldError ?xt_WorldError ?m_NoNumber ?xq_NoNumber ?xk_NoNumber ?xb_NoNumber ?xt_NoNumber ?m_NoSeed ?xq_NoSeed ?xk_NoSeed ?xb_NoSeed ?xt_NoSeed ?m_BadGround ?xl_BadGround ?sa_BadGround ?ga_BadGround ?gg_BadGround ?xk_BadGround ?xb_BadGround ?xt_BadGround ?hd_BadGround ?nf_BadGround ?i_BadGround ?t_BadGround ?l_BadGround_init ?c_BadGround_init ?k_BadGround_init ?m_BadProgram ?xl_BadProgram ?sa_BadProgram ?ga_BadProgram ?gg_BadProgram ?xk_BadProgram ?xb_BadProgram ?xt_BadProgram ?hd_BadProgram ?nf_BadProgram ?i_BadProgram ?t_BadProgram ?l_BadProgram_init ?c_BadProgram_init ?k_BadProgram_init ?m_BadKind ?xl_BadKind ?sa_BadKind ?ga_BadKind ?gg_BadKind ?xk_BadKind ?xb_BadKind ?xt_BadKind ?hd_BadKind ?nf_BadKind ?i_BadKind ?t_BadKind ?l_BadKind_init ?c_BadKind_init ?k_BadKind_init ?m_BadGame ?xl_BadGame ?sa_BadGame ?ga_BadGame ?gg_BadGame ?xk_BadGame ?xb_BadGame ?xt_BadGame ?hd_BadGame ?nf_BadGame ?i_BadGame ?t_BadGame ?l_BadGame_init ?c_BadGame_init ?k_BadGame_init ?m_NoWorld ?xq_NoWorld ?xk_NoWorld ?xb_NoWorld ?xt_NoWorld ?m_NoBody ?xq_NoBody ?xk_NoBody ?xb_NoBody ?xt_NoBody ?m_NoWay ?xq_NoWay ?xk_NoWay ?xb_NoWay ?xt_NoWay ?m_NoInputs ?xq_NoInputs ?xk_NoInputs ?xb_NoInputs ?xt_NoInputs ?m_NoHandler ?xq_NoHandler ?xk_NoHandler ?xb_NoHandler ?xt_NoHandler ?m_NoCode ?xq_NoCode ?xk_NoCode ?xb_NoCode ?xt_NoCode ?m_NoRows ?xl_NoRows ?sa_NoRows ?ga_NoRows ?gg_NoRows ?xk_NoRows ?xb_NoRows ?xt_NoRows ?hd_NoRows ?nf_NoRows ?i_NoRows ?t_NoRows ?l_NoRows_init ?c_NoRows_init ?k_NoRows_init ?m_NoRow ?xq_NoRow ?xk_NoRow ?xb_NoRow ?xt_NoRow ?m_NoPlace ?xq_NoPlace ?xk_NoPlace ?xb_NoPlace ?xt_NoPlace ?m_BadRow ?xl_BadRow ?sa_BadRow ?ga_BadRow ?gg_BadRow ?xk_BadRow ?xb_BadRow ?xt_BadRow ?hd_BadRow ?nf_BadRow ?i_BadRow ?t_BadRow ?l_BadRow_init ?c_BadRow_init ?k_BadRow_init ?m_BadChange ?xl_BadChange ?sa_BadChange ?ga_BadChange ?gg_BadChange ?xk_BadChange ?xb_BadChange ?xt_BadChange ?hd_BadChange ?nf_BadChange ?i_BadChange ?t_BadChange ?l_BadChange_init ?c_BadChange_init ?k_BadChange_init ?m_NoSeat ?xq_NoSeat ?xk_NoSeat ?xb_NoSeat ?xt_NoSeat ?m_NotWaiting ?xq_NotWaiting ?xk_NotWaiting ?xb_NotWaiting ?xt_NotWaiting ?m_NoTick ?xq_NoTick ?xk_NoTick ?xb_NoTick ?xt_NoTick ?m_NotOpen ?xq_NotOpen ?xk_NotOpen ?xb_NotOpen ?xt_NotOpen ?m_Gap ?xq_Gap ?xk_Gap ?xb_Gap ?xt_Gap ?m_BadDeed ?xl_BadDeed ?sa_BadDeed ?ga_BadDeed ?gg_BadDeed ?xk_BadDeed ?xb_BadDeed ?xt_BadDeed ?hd_BadDeed ?nf_BadDeed ?i_BadDeed ?t_BadDeed ?l_BadDeed_init ?c_BadDeed_init ?k_BadDeed_init ?m_NoBook ?xq_NoBook ?xk_NoBook ?xb_NoBook ?xt_NoBook ?m_NoPeer ?xq_NoPeer ?xk_NoPeer ?xb_NoPeer ?xt_NoPeer ?m_NoRules ?xq_NoRules ?xk_NoRules ?xb_NoRules ?xt_NoRules ?m_NoPast ?xq_NoPast ?xk_NoPast ?xb_NoPast ?xt_NoPast ?m_NoLetter ?xq_NoLetter ?xk_NoLetter ?xb_NoLetter ?xt_NoLetter ?m_NoDeed ?xq_NoDeed ?xk_NoDeed ?xb_NoDeed ?xt_NoDeed ?m_BadDeeds ?xl_BadDeeds ?sa_BadDeeds ?ga_BadDeeds ?gg_BadDeeds ?xk_BadDeeds ?xb_BadDeeds ?xt_BadDeeds ?hd_BadDeeds ?nf_BadDeeds ?i_BadDeeds ?t_BadDeeds ?l_BadDeeds_init ?c_BadDeeds_init ?k_BadDeeds_init ?m_NoCut ?xq_NoCut ?xk_NoCut ?xb_NoCut ?xt_NoCut ?m_NoBlocks ?xq_NoBlocks ?xk_NoBlocks ?xb_NoBlocks ?xt_NoBlocks ?m_NoDisk ?xq_NoDisk ?xk_NoDisk ?xb_NoDisk ?xt_NoDisk ?m_OtherMatch ?xq_OtherMatch ?xk_OtherMatch ?xb_OtherMatch ?xt_OtherMatch ?m_BadTurns ?xl_BadTurns ?sa_BadTurns ?ga_BadTurns ?gg_BadTurns ?xk_BadTurns ?xb_BadTurns ?xt_BadTurns ?hd_BadTurns ?nf_BadTurns ?i_BadTurns ?t_BadTurns ?l_BadTurns_init ?c_BadTurns_init ?k_BadTurns_init ?m_OtherGame ?xq_OtherGame ?xk_OtherGame ?xb_OtherGame ?xt_OtherGame ?m_Strayed ?xl_Strayed ?sa_Strayed ?ga_Strayed ?gg_Strayed ?xk_Strayed ?xb_Strayed ?xt_Strayed ?hd_Strayed ?nf_Strayed ?i_Strayed ?t_Strayed ?l_Strayed_init ?c_Strayed_init ?k_Strayed_init ?m_NoNode ?xq_NoNode ?xk_NoNode ?xb_NoNode ?xt_NoNode ?m_NoReplay ?xq_NoReplay ?xk_NoReplay ?xb_NoReplay ?xt_NoReplay ?m_NoExpression ?xq_NoExpression ?xk_NoExpression ?xb_NoExpression ?xt_NoExpression ?m_BadText ?xl_BadText ?sa_BadText ?ga_BadText ?gg_BadText ?xk_BadText ?xb_BadText ?xt_BadText ?hd_BadText ?nf_BadText ?i_BadText ?t_BadText ?l_BadText_init ?c_BadText_init ?k_BadText_init ?m_NoProgram ?xq_NoProgram ?xk_NoProgram ?xb_NoProgram ?xt_NoProgram ?m_NoPicture ?xq_NoPicture ?xk_NoPicture ?xb_NoPicture ?xt_NoPicture ?m_Unlike ?xq_Unlike ?xk_Unlike ?xb_Unlike ?xt_Unlike ?m_NoChanges ?xq_NoChanges ?xk_NoChanges ?xb_NoChanges ?xt_NoChanges ?m_NoLine ?xq_NoLine ?xk_NoLine ?xb_NoLine ?xt_NoLine ?m_NoName ?xl_NoName ?sa_NoName ?ga_NoName ?gg_NoName ?xk_NoName ?xb_NoName ?xt_NoName ?hd_NoName ?nf_NoName ?i_NoName ?t_NoName ?l_NoName_init ?c_NoName_init ?k_NoName_init ?ic_BadChange ?e_BadChange_BadChange ?ic_BadDeed ?e_BadChange_BadDeed ?ic_BadDeeds ?e_BadChange_BadDeeds ?ic_BadGame ?e_BadChange_BadGame ?ic_BadGround ?e_BadChange_BadGround ?ic_BadKind ?e_BadChange_BadKind ?ic_BadProgram ?e_BadChange_BadProgram ?ic_BadRow ?e_BadChange_BadRow ?ic_BadText ?e_BadChange_BadText ?ic_BadTurns ?e_BadChange_BadTurns ?ic_NoName ?e_BadChange_NoName ?ic_NoRows ?e_BadChange_NoRows ?ic_Strayed ?e_BadChange_Strayed ?ic_WorldError ?e_BadChange_WorldError ?e_BadDeed_BadChange ?e_BadDeed_BadDeed ?e_BadDeed_BadDeeds ?e_BadDeed_BadGame ?e_BadDeed_BadGround ?e_BadDeed_BadKind ?e_BadDeed_BadProgram ?e_BadDeed_BadRow ?e_BadDeed_BadText ?e_BadDeed_BadTurns ?e_BadDeed_NoName ?e_BadDeed_NoRows ?e_BadDeed_Strayed ?e_BadDeed_WorldError ?e_BadDeeds_BadChange ?e_BadDeeds_BadDeed ?e_BadDeeds_BadDeeds ?e_BadDeeds_BadGame ?e_BadDeeds_BadGround ?e_BadDeeds_BadKind ?e_BadDeeds_BadProgram ?e_BadDeeds_BadRow ?e_BadDeeds_BadText ?e_BadDeeds_BadTurns ?e_BadDeeds_NoName ?e_BadDeeds_NoRows ?e_BadDeeds_Strayed ?e_BadDeeds_WorldError ?e_BadGame_BadChange ?e_BadGame_BadDeed ?e_BadGame_BadDeeds ?e_BadGame_BadGame ?e_BadGame_BadGround ?e_BadGame_BadKind ?e_BadGame_BadProgram ?e_BadGame_BadRow ?e_BadGame_BadText ?e_BadGame_BadTurns ?e_BadGame_NoName ?e_BadGame_NoRows ?e_BadGame_Strayed ?e_BadGame_WorldError ?e_BadGround_BadChange ?e_BadGround_BadDeed ?e_BadGround_BadDeeds ?e_BadGround_BadGame ?e_BadGround_BadGround ?e_BadGround_BadKind ?e_BadGround_BadProgram ?e_BadGround_BadRow ?e_BadGround_BadText ?e_BadGround_BadTurns ?e_BadGround_NoName ?e_BadGround_NoRows ?e_BadGround_Strayed ?e_BadGround_WorldError ?e_BadKind_BadChange ?e_BadKind_BadDeed ?e_BadKind_BadDeeds ?e_BadKind_BadGame ?e_BadKind_BadGround ?e_BadKind_BadKind ?e_BadKind_BadProgram ?e_BadKind_BadRow ?e_BadKind_BadText ?e_BadKind_BadTurns ?e_BadKind_NoName ?e_BadKind_NoRows ?e_BadKind_Strayed ?e_BadKind_WorldError ?e_BadProgram_BadChange ?e_BadProgram_BadDeed ?e_BadProgram_BadDeeds ?e_BadProgram_BadGame ?e_BadProgram_BadGround ?e_BadProgram_BadKind ?e_BadProgram_BadProgram ?e_BadProgram_BadRow ?e_BadProgram_BadText ?e_BadProgram_BadTurns ?e_BadProgram_NoName ?e_BadProgram_NoRows ?e_BadProgram_Strayed ?e_BadProgram_WorldError ?e_BadRow_BadChange ?e_BadRow_BadDeed ?e_BadRow_BadDeeds ?e_BadRow_BadGame ?e_BadRow_BadGround ?e_BadRow_BadKind ?e_BadRow_BadProgram ?e_BadRow_BadRow ?e_BadRow_BadText ?e_BadRow_BadTurns ?e_BadRow_NoName ?e_BadRow_NoRows ?e_BadRow_Strayed ?e_BadRow_WorldError ?e_BadText_BadChange ?e_BadText_BadDeed ?e_BadText_BadDeeds ?e_BadText_BadGame ?e_BadText_BadGround ?e_BadText_BadKind ?e_BadText_BadProgram ?e_BadText_BadRow ?e_BadText_BadText ?e_BadText_BadTurns ?e_BadText_NoName ?e_BadText_NoRows ?e_BadText_Strayed ?e_BadText_WorldError ?e_BadTurns_BadChange ?e_BadTurns_BadDeed ?e_BadTurns_BadDeeds ?e_BadTurns_BadGame ?e_BadTurns_BadGround ?e_BadTurns_BadKind ?e_BadTurns_BadProgram ?e_BadTurns_BadRow ?e_BadTurns_BadText ?e_BadTurns_BadTurns ?e_BadTurns_NoName ?e_BadTurns_NoRows ?e_BadTurns_Strayed ?e_BadTurns_WorldError ?e_NoName_BadChange ?e_NoName_BadDeed ?e_NoName_BadDeeds ?e_NoName_BadGame ?e_NoName_BadGround ?e_NoName_BadKind ?e_NoName_BadProgram ?e_NoName_BadRow ?e_NoName_BadText ?e_NoName_BadTurns ?e_NoName_NoName ?e_NoName_NoRows ?e_NoName_Strayed ?e_NoName_WorldError ?e_NoRows_BadChange ?e_NoRows_BadDeed ?e_NoRows_BadDeeds ?e_NoRows_BadGame ?e_NoRows_BadGround ?e_NoRows_BadKind ?e_NoRows_BadProgram ?e_NoRows_BadRow ?e_NoRows_BadText ?e_NoRows_BadTurns ?e_NoRows_NoName ?e_NoRows_NoRows ?e_NoRows_Strayed ?e_NoRows_WorldError ?e_Strayed_BadChange ?e_Strayed_BadDeed ?e_Strayed_BadDeeds ?e_Strayed_BadGame ?e_Strayed_BadGround ?e_Strayed_BadKind ?e_Strayed_BadProgram ?e_Strayed_BadRow ?e_Strayed_BadText ?e_Strayed_BadTurns ?e_Strayed_NoName ?e_Strayed_NoRows ?e_Strayed_Strayed ?e_Strayed_WorldError ?kr_xis)
    (case m_WorldError => k_is); (case m_NoNumber => k_is); (case m_NoSeed => k_is); (case m_BadGround => k_is); (case m_BadProgram => k_is); (case m_BadKind => k_is); (case m_BadGame => k_is); (case m_NoWorld => k_is); (case m_NoBody => k_is); (case m_NoWay => k_is); (case m_NoInputs => k_is); (case m_NoHandler => k_is); (case m_NoCode => k_is); (case m_NoRows => k_is); (case m_NoRow => k_is); (case m_NoPlace => k_is); (case m_BadRow => k_is); (case m_BadChange => k_is); (case m_NoSeat => k_is); (case m_NotWaiting => k_is); (case m_NoTick => k_is); (case m_NotOpen => k_is); (case m_Gap => k_is); (case m_BadDeed => k_is); (case m_NoBook => k_is); (case m_NoPeer => k_is); (case m_NoRules => k_is); (case m_NoPast => k_is); (case m_NoLetter => k_is); (case m_NoDeed => k_is); (case m_BadDeeds => k_is); (case m_NoCut => k_is); (case m_NoBlocks => k_is); (case m_NoDisk => k_is); (case m_OtherMatch => k_is); (case m_BadTurns => k_is); (case m_OtherGame => k_is); (case m_Strayed => k_is); (case m_NoNode => k_is); (case m_NoReplay => k_is); (case m_NoExpression => k_is); (case m_BadText => k_is); (case m_NoProgram => k_is); (case m_NoPicture => k_is); (case m_Unlike => k_is); (case m_NoChanges => k_is); (case m_NoLine => k_is); (case m_NoName => k_is); (case a__law_hand => k_is); (case l__law_hand => k_is); (case c__law_hand => k_is); (case k__law_hand => k_is); (case a__law_take => k_is); (case l__law_take => k_is); (case c__law_take => k_is); (case k__law_take => k_is); (case a__law_odd => k_is); (case l__law_odd => k_is); (case c__law_odd => k_is); (case k__law_odd => k_is); (case a__law_thing => k_is); (case l__law_thing => k_is); (case c__law_thing => k_is); (case k__law_thing => k_is); (case a__law_all => k_is); (case l__law_all => k_is); (case c__law_all => k_is); (case k__law_all => k_is); (case a__law_marks => k_is); (case l__law_marks => k_is); (case c__law_marks => k_is); (case k__law_marks => k_is); (case a__law_alien => k_is); (case l__law_alien => k_is); (case c__law_alien => k_is); (case k__law_alien => k_is); (case a__law_fields => k_is); (case l__law_fields => k_is); (case c__law_fields => k_is); (case k__law_fields => k_is); (case a__law_raise => k_is); (case l__law_raise => k_is); (case c__law_raise => k_is); (case k__law_raise => k_is); (case a__law_caught => k_is); (case l__law_caught => k_is); (case c__law_caught => k_is); (case k__law_caught => k_is); (case a__law_based => k_is); (case l__law_based => k_is); (case c__law_based => k_is); (case k__law_based => k_is); (case a_law => k_is); (case l_law => k_is); (case c_law => k_is); (case k_law => k_is); (case n_ArithmeticError => k_is); (case n_IndexError => k_is); (case n_KeyError => k_is); (case n_ValueError => k_is); (case n_int => k_is); (case n_isinstance => k_is); (case n_len => k_is); (case n_list => k_is); (case n_range => k_is); (case n_repr => k_is); (case xq_WorldError => k_exc); (case xk_WorldError => k_is); (case xb_WorldError => k_is); (case xt_WorldError => k_is); (case xq_NoNumber => k_exc); (case xk_NoNumber => k_is); (case xb_NoNumber => k_is); (case xt_NoNumber => k_is); (case xq_NoSeed => k_exc); (case xk_NoSeed => k_is); (case xb_NoSeed => k_is); (case xt_NoSeed => k_is); (case xl_BadGround => k_is); (case sa_BadGround => k_is); (case ga_BadGround => k_is); (case gg_BadGround => k_is); (case xk_BadGround => k_is); (case xb_BadGround => k_is); (case xt_BadGround => k_is); (case hd_BadGround => k_is); (case nf_BadGround => k_is); (case i_BadGround => k_is); (case t_BadGround => k_is); (case l_BadGround_init => k_is); (case c_BadGround_init => k_is); (case k_BadGround_init => k_is); (case xl_BadProgram => k_is); (case sa_BadProgram => k_is); (case ga_BadProgram => k_is); (case gg_BadProgram => k_is); (case xk_BadProgram => k_is); (case xb_BadProgram => k_is); (case xt_BadProgram => k_is); (case hd_BadProgram => k_is); (case nf_BadProgram => k_is); (case i_BadProgram => k_is); (case t_BadProgram => k_is); (case l_BadProgram_init => k_is); (case c_BadProgram_init => k_is); (case k_BadProgram_init => k_is); (case xl_BadKind => k_is); (case sa_BadKind => k_is); (case ga_BadKind => k_is); (case gg_BadKind => k_is); (case xk_BadKind => k_is); (case xb_BadKind => k_is); (case xt_BadKind => k_is); (case hd_BadKind => k_is); (case nf_BadKind => k_is); (case i_BadKind => k_is); (case t_BadKind => k_is); (case l_BadKind_init => k_is); (case c_BadKind_init => k_is); (case k_BadKind_init => k_is); (case xl_BadGame => k_is); (case sa_BadGame => k_is); (case ga_BadGame => k_is); (case gg_BadGame => k_is); (case xk_BadGame => k_is); (case xb_BadGame => k_is); (case xt_BadGame => k_is); (case hd_BadGame => k_is); (case nf_BadGame => k_is); (case i_BadGame => k_is); (case t_BadGame => k_is); (case l_BadGame_init => k_is); (case c_BadGame_init => k_is); (case k_BadGame_init => k_is); (case xq_NoWorld => k_exc); (case xk_NoWorld => k_is); (case xb_NoWorld => k_is); (case xt_NoWorld => k_is); (case xq_NoBody => k_exc); (case xk_NoBody => k_is); (case xb_NoBody => k_is); (case xt_NoBody => k_is); (case xq_NoWay => k_exc); (case xk_NoWay => k_is); (case xb_NoWay => k_is); (case xt_NoWay => k_is); (case xq_NoInputs => k_exc); (case xk_NoInputs => k_is); (case xb_NoInputs => k_is); (case xt_NoInputs => k_is); (case xq_NoHandler => k_exc); (case xk_NoHandler => k_is); (case xb_NoHandler => k_is); (case xt_NoHandler => k_is); (case xq_NoCode => k_exc); (case xk_NoCode => k_is); (case xb_NoCode => k_is); (case xt_NoCode => k_is); (case xl_NoRows => k_is); (case sa_NoRows => k_is); (case ga_NoRows => k_is); (case gg_NoRows => k_is); (case xk_NoRows => k_is); (case xb_NoRows => k_is); (case xt_NoRows => k_is); (case hd_NoRows => k_is); (case nf_NoRows => k_is); (case i_NoRows => k_is); (case t_NoRows => k_is); (case l_NoRows_init => k_is); (case c_NoRows_init => k_is); (case k_NoRows_init => k_is); (case xq_NoRow => k_exc); (case xk_NoRow => k_is); (case xb_NoRow => k_is); (case xt_NoRow => k_is); (case xq_NoPlace => k_exc); (case xk_NoPlace => k_is); (case xb_NoPlace => k_is); (case xt_NoPlace => k_is); (case xl_BadRow => k_is); (case sa_BadRow => k_is); (case ga_BadRow => k_is); (case gg_BadRow => k_is); (case xk_BadRow => k_is); (case xb_BadRow => k_is); (case xt_BadRow => k_is); (case hd_BadRow => k_is); (case nf_BadRow => k_is); (case i_BadRow => k_is); (case t_BadRow => k_is); (case l_BadRow_init => k_is); (case c_BadRow_init => k_is); (case k_BadRow_init => k_is); (case xl_BadChange => k_is); (case sa_BadChange => k_is); (case ga_BadChange => k_is); (case gg_BadChange => k_is); (case xk_BadChange => k_is); (case xb_BadChange => k_is); (case xt_BadChange => k_is); (case hd_BadChange => k_is); (case nf_BadChange => k_is); (case i_BadChange => k_is); (case t_BadChange => k_is); (case l_BadChange_init => k_is); (case c_BadChange_init => k_is); (case k_BadChange_init => k_is); (case xq_NoSeat => k_exc); (case xk_NoSeat => k_is); (case xb_NoSeat => k_is); (case xt_NoSeat => k_is); (case xq_NotWaiting => k_exc); (case xk_NotWaiting => k_is); (case xb_NotWaiting => k_is); (case xt_NotWaiting => k_is); (case xq_NoTick => k_exc); (case xk_NoTick => k_is); (case xb_NoTick => k_is); (case xt_NoTick => k_is); (case xq_NotOpen => k_exc); (case xk_NotOpen => k_is); (case xb_NotOpen => k_is); (case xt_NotOpen => k_is); (case xq_Gap => k_exc); (case xk_Gap => k_is); (case xb_Gap => k_is); (case xt_Gap => k_is); (case xl_BadDeed => k_is); (case sa_BadDeed => k_is); (case ga_BadDeed => k_is); (case gg_BadDeed => k_is); (case xk_BadDeed => k_is); (case xb_BadDeed => k_is); (case xt_BadDeed => k_is); (case hd_BadDeed => k_is); (case nf_BadDeed => k_is); (case i_BadDeed => k_is); (case t_BadDeed => k_is); (case l_BadDeed_init => k_is); (case c_BadDeed_init => k_is); (case k_BadDeed_init => k_is); (case xq_NoBook => k_exc); (case xk_NoBook => k_is); (case xb_NoBook => k_is); (case xt_NoBook => k_is); (case xq_NoPeer => k_exc); (case xk_NoPeer => k_is); (case xb_NoPeer => k_is); (case xt_NoPeer => k_is); (case xq_NoRules => k_exc); (case xk_NoRules => k_is); (case xb_NoRules => k_is); (case xt_NoRules => k_is); (case xq_NoPast => k_exc); (case xk_NoPast => k_is); (case xb_NoPast => k_is); (case xt_NoPast => k_is); (case xq_NoLetter => k_exc); (case xk_NoLetter => k_is); (case xb_NoLetter => k_is); (case xt_NoLetter => k_is); (case xq_NoDeed => k_exc); (case xk_NoDeed => k_is); (case xb_NoDeed => k_is); (case xt_NoDeed => k_is); (case xl_BadDeeds => k_is); (case sa_BadDeeds => k_is); (case ga_BadDeeds => k_is); (case gg_BadDeeds => k_is); (case xk_BadDeeds => k_is); (case xb_BadDeeds => k_is); (case xt_BadDeeds => k_is); (case hd_BadDeeds => k_is); (case nf_BadDeeds => k_is); (case i_BadDeeds => k_is); (case t_BadDeeds => k_is); (case l_BadDeeds_init => k_is); (case c_BadDeeds_init => k_is); (case k_BadDeeds_init => k_is); (case xq_NoCut => k_exc); (case xk_NoCut => k_is); (case xb_NoCut => k_is); (case xt_NoCut => k_is); (case xq_NoBlocks => k_exc); (case xk_NoBlocks => k_is); (case xb_NoBlocks => k_is); (case xt_NoBlocks => k_is); (case xq_NoDisk => k_exc); (case xk_NoDisk => k_is); (case xb_NoDisk => k_is); (case xt_NoDisk => k_is); (case xq_OtherMatch => k_exc); (case xk_OtherMatch => k_is); (case xb_OtherMatch => k_is); (case xt_OtherMatch => k_is); (case xl_BadTurns => k_is); (case sa_BadTurns => k_is); (case ga_BadTurns => k_is); (case gg_BadTurns => k_is); (case xk_BadTurns => k_is); (case xb_BadTurns => k_is); (case xt_BadTurns => k_is); (case hd_BadTurns => k_is); (case nf_BadTurns => k_is); (case i_BadTurns => k_is); (case t_BadTurns => k_is); (case l_BadTurns_init => k_is); (case c_BadTurns_init => k_is); (case k_BadTurns_init => k_is); (case xq_OtherGame => k_exc); (case xk_OtherGame => k_is); (case xb_OtherGame => k_is); (case xt_OtherGame => k_is); (case xl_Strayed => k_is); (case sa_Strayed => k_is); (case ga_Strayed => k_is); (case gg_Strayed => k_is); (case xk_Strayed => k_is); (case xb_Strayed => k_is); (case xt_Strayed => k_is); (case hd_Strayed => k_is); (case nf_Strayed => k_is); (case i_Strayed => k_is); (case t_Strayed => k_is); (case l_Strayed_init => k_is); (case c_Strayed_init => k_is); (case k_Strayed_init => k_is); (case xq_NoNode => k_exc); (case xk_NoNode => k_is); (case xb_NoNode => k_is); (case xt_NoNode => k_is); (case xq_NoReplay => k_exc); (case xk_NoReplay => k_is); (case xb_NoReplay => k_is); (case xt_NoReplay => k_is); (case xq_NoExpression => k_exc); (case xk_NoExpression => k_is); (case xb_NoExpression => k_is); (case xt_NoExpression => k_is); (case xl_BadText => k_is); (case sa_BadText => k_is); (case ga_BadText => k_is); (case gg_BadText => k_is); (case xk_BadText => k_is); (case xb_BadText => k_is); (case xt_BadText => k_is); (case hd_BadText => k_is); (case nf_BadText => k_is); (case i_BadText => k_is); (case t_BadText => k_is); (case l_BadText_init => k_is); (case c_BadText_init => k_is); (case k_BadText_init => k_is); (case xq_NoProgram => k_exc); (case xk_NoProgram => k_is); (case xb_NoProgram => k_is); (case xt_NoProgram => k_is); (case xq_NoPicture => k_exc); (case xk_NoPicture => k_is); (case xb_NoPicture => k_is); (case xt_NoPicture => k_is); (case xq_Unlike => k_exc); (case xk_Unlike => k_is); (case xb_Unlike => k_is); (case xt_Unlike => k_is); (case xq_NoChanges => k_exc); (case xk_NoChanges => k_is); (case xb_NoChanges => k_is); (case xt_NoChanges => k_is); (case xq_NoLine => k_exc); (case xk_NoLine => k_is); (case xb_NoLine => k_is); (case xt_NoLine => k_is); (case xl_NoName => k_is); (case sa_NoName => k_is); (case ga_NoName => k_is); (case gg_NoName => k_is); (case xk_NoName => k_is); (case xb_NoName => k_is); (case xt_NoName => k_is); (case hd_NoName => k_is); (case nf_NoName => k_is); (case i_NoName => k_is); (case t_NoName => k_is); (case l_NoName_init => k_is); (case c_NoName_init => k_is); (case k_NoName_init => k_is); (case ic_BadChange => k_is); (case e_BadChange_BadChange => k_is); (case ic_BadDeed => k_is); (case e_BadChange_BadDeed => k_is); (case ic_BadDeeds => k_is); (case e_BadChange_BadDeeds => k_is); (case ic_BadGame => k_is); (case e_BadChange_BadGame => k_is); (case ic_BadGround => k_is); (case e_BadChange_BadGround => k_is); (case ic_BadKind => k_is); (case e_BadChange_BadKind => k_is); (case ic_BadProgram => k_is); (case e_BadChange_BadProgram => k_is); (case ic_BadRow => k_is); (case e_BadChange_BadRow => k_is); (case ic_BadText => k_is); (case e_BadChange_BadText => k_is); (case ic_BadTurns => k_is); (case e_BadChange_BadTurns => k_is); (case ic_NoName => k_is); (case e_BadChange_NoName => k_is); (case ic_NoRows => k_is); (case e_BadChange_NoRows => k_is); (case ic_Strayed => k_is); (case e_BadChange_Strayed => k_is); (case ic_WorldError => k_is); (case e_BadChange_WorldError => k_is); (case e_BadDeed_BadChange => k_is); (case e_BadDeed_BadDeed => k_is); (case e_BadDeed_BadDeeds => k_is); (case e_BadDeed_BadGame => k_is); (case e_BadDeed_BadGround => k_is); (case e_BadDeed_BadKind => k_is); (case e_BadDeed_BadProgram => k_is); (case e_BadDeed_BadRow => k_is); (case e_BadDeed_BadText => k_is); (case e_BadDeed_BadTurns => k_is); (case e_BadDeed_NoName => k_is); (case e_BadDeed_NoRows => k_is); (case e_BadDeed_Strayed => k_is); (case e_BadDeed_WorldError => k_is); (case e_BadDeeds_BadChange => k_is); (case e_BadDeeds_BadDeed => k_is); (case e_BadDeeds_BadDeeds => k_is); (case e_BadDeeds_BadGame => k_is); (case e_BadDeeds_BadGround => k_is); (case e_BadDeeds_BadKind => k_is); (case e_BadDeeds_BadProgram => k_is); (case e_BadDeeds_BadRow => k_is); (case e_BadDeeds_BadText => k_is); (case e_BadDeeds_BadTurns => k_is); (case e_BadDeeds_NoName => k_is); (case e_BadDeeds_NoRows => k_is); (case e_BadDeeds_Strayed => k_is); (case e_BadDeeds_WorldError => k_is); (case e_BadGame_BadChange => k_is); (case e_BadGame_BadDeed => k_is); (case e_BadGame_BadDeeds => k_is); (case e_BadGame_BadGame => k_is); (case e_BadGame_BadGround => k_is); (case e_BadGame_BadKind => k_is); (case e_BadGame_BadProgram => k_is); (case e_BadGame_BadRow => k_is); (case e_BadGame_BadText => k_is); (case e_BadGame_BadTurns => k_is); (case e_BadGame_NoName => k_is); (case e_BadGame_NoRows => k_is); (case e_BadGame_Strayed => k_is); (case e_BadGame_WorldError => k_is); (case e_BadGround_BadChange => k_is); (case e_BadGround_BadDeed => k_is); (case e_BadGround_BadDeeds => k_is); (case e_BadGround_BadGame => k_is); (case e_BadGround_BadGround => k_is); (case e_BadGround_BadKind => k_is); (case e_BadGround_BadProgram => k_is); (case e_BadGround_BadRow => k_is); (case e_BadGround_BadText => k_is); (case e_BadGround_BadTurns => k_is); (case e_BadGround_NoName => k_is); (case e_BadGround_NoRows => k_is); (case e_BadGround_Strayed => k_is); (case e_BadGround_WorldError => k_is); (case e_BadKind_BadChange => k_is); (case e_BadKind_BadDeed => k_is); (case e_BadKind_BadDeeds => k_is); (case e_BadKind_BadGame => k_is); (case e_BadKind_BadGround => k_is); (case e_BadKind_BadKind => k_is); (case e_BadKind_BadProgram => k_is); (case e_BadKind_BadRow => k_is); (case e_BadKind_BadText => k_is); (case e_BadKind_BadTurns => k_is); (case e_BadKind_NoName => k_is); (case e_BadKind_NoRows => k_is); (case e_BadKind_Strayed => k_is); (case e_BadKind_WorldError => k_is); (case e_BadProgram_BadChange => k_is); (case e_BadProgram_BadDeed => k_is); (case e_BadProgram_BadDeeds => k_is); (case e_BadProgram_BadGame => k_is); (case e_BadProgram_BadGround => k_is); (case e_BadProgram_BadKind => k_is); (case e_BadProgram_BadProgram => k_is); (case e_BadProgram_BadRow => k_is); (case e_BadProgram_BadText => k_is); (case e_BadProgram_BadTurns => k_is); (case e_BadProgram_NoName => k_is); (case e_BadProgram_NoRows => k_is); (case e_BadProgram_Strayed => k_is); (case e_BadProgram_WorldError => k_is); (case e_BadRow_BadChange => k_is); (case e_BadRow_BadDeed => k_is); (case e_BadRow_BadDeeds => k_is); (case e_BadRow_BadGame => k_is); (case e_BadRow_BadGround => k_is); (case e_BadRow_BadKind => k_is); (case e_BadRow_BadProgram => k_is); (case e_BadRow_BadRow => k_is); (case e_BadRow_BadText => k_is); (case e_BadRow_BadTurns => k_is); (case e_BadRow_NoName => k_is); (case e_BadRow_NoRows => k_is); (case e_BadRow_Strayed => k_is); (case e_BadRow_WorldError => k_is); (case e_BadText_BadChange => k_is); (case e_BadText_BadDeed => k_is); (case e_BadText_BadDeeds => k_is); (case e_BadText_BadGame => k_is); (case e_BadText_BadGround => k_is); (case e_BadText_BadKind => k_is); (case e_BadText_BadProgram => k_is); (case e_BadText_BadRow => k_is); (case e_BadText_BadText => k_is); (case e_BadText_BadTurns => k_is); (case e_BadText_NoName => k_is); (case e_BadText_NoRows => k_is); (case e_BadText_Strayed => k_is); (case e_BadText_WorldError => k_is); (case e_BadTurns_BadChange => k_is); (case e_BadTurns_BadDeed => k_is); (case e_BadTurns_BadDeeds => k_is); (case e_BadTurns_BadGame => k_is); (case e_BadTurns_BadGround => k_is); (case e_BadTurns_BadKind => k_is); (case e_BadTurns_BadProgram => k_is); (case e_BadTurns_BadRow => k_is); (case e_BadTurns_BadText => k_is); (case e_BadTurns_BadTurns => k_is); (case e_BadTurns_NoName => k_is); (case e_BadTurns_NoRows => k_is); (case e_BadTurns_Strayed => k_is); (case e_BadTurns_WorldError => k_is); (case e_NoName_BadChange => k_is); (case e_NoName_BadDeed => k_is); (case e_NoName_BadDeeds => k_is); (case e_NoName_BadGame => k_is); (case e_NoName_BadGround => k_is); (case e_NoName_BadKind => k_is); (case e_NoName_BadProgram => k_is); (case e_NoName_BadRow => k_is); (case e_NoName_BadText => k_is); (case e_NoName_BadTurns => k_is); (case e_NoName_NoName => k_is); (case e_NoName_NoRows => k_is); (case e_NoName_Strayed => k_is); (case e_NoName_WorldError => k_is); (case e_NoRows_BadChange => k_is); (case e_NoRows_BadDeed => k_is); (case e_NoRows_BadDeeds => k_is); (case e_NoRows_BadGame => k_is); (case e_NoRows_BadGround => k_is); (case e_NoRows_BadKind => k_is); (case e_NoRows_BadProgram => k_is); (case e_NoRows_BadRow => k_is); (case e_NoRows_BadText => k_is); (case e_NoRows_BadTurns => k_is); (case e_NoRows_NoName => k_is); (case e_NoRows_NoRows => k_is); (case e_NoRows_Strayed => k_is); (case e_NoRows_WorldError => k_is); (case e_Strayed_BadChange => k_is); (case e_Strayed_BadDeed => k_is); (case e_Strayed_BadDeeds => k_is); (case e_Strayed_BadGame => k_is); (case e_Strayed_BadGround => k_is); (case e_Strayed_BadKind => k_is); (case e_Strayed_BadProgram => k_is); (case e_Strayed_BadRow => k_is); (case e_Strayed_BadText => k_is); (case e_Strayed_BadTurns => k_is); (case e_Strayed_NoName => k_is); (case e_Strayed_NoRows => k_is); (case e_Strayed_Strayed => k_is); (case e_Strayed_WorldError => k_is); (case kr_xis => kernel_rfl)

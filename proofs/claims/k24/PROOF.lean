import PyProof.Rows.All
import Wide.All
import OpenK.AllK
import Wide.FinOn
import HandS.ForMost
import HandS.Deep
import HandS.SortInts
import HandS.Wide
import HandS.IsInst
import HandS.Style
import HandS.Text
import HandS.NoneIn
import KE.KSortedM
import HandS.More
import HandS.WordsDict
import HandS.Strs
import HandS.SetFor
import HandS.Zip
import HandS.SortKw
import KE.DataMinMax
import HandS.Rev
import HandS.SortRule
import PyProof.Rows.SortKeyStr
import HandS.Conv
import HandS.Iter
import KE.SortKeyHeap
import KE.SortData
import HandS.Exc
import HandS.ExcOwn
import HandS.TryOnly
import HandS.TryMany
import HandS.WordsExc
import HandS.ExcIs
import KE.OsRunLaw
import PySem.Challenge.RW_deskround_k24_papers_of_anything
set_option Elab.async false
set_option linter.all false
set_option maxRecDepth 100000
set_option maxHeartbeats 4000000
section
open PyProof.Rows PySem.Calls HeadRun PySem PySem.W
namespace HdT
noncomputable section
def hdView : Program := { PySem.Challenge.rw_deskround_k24_papers_of_anything.row.prog with main := { PySem.Challenge.rw_deskround_k24_papers_of_anything.row.prog.main with body := ([1,2,3,4,6,7,9,11,12,13,14,16,17,18,19,20,21,22,23,24,25,26,27,28,29,30,31,32,33,34] : List Nat).filterMap fun i => PySem.Challenge.rw_deskround_k24_papers_of_anything.row.prog.main.body[i]? } }
theorem good_eq : openGood hdView ([] : List PySem.Str) = ((⟨(PySem.W.Fast.tw3399658132070893891 hdView).map fun d => some d.shape, true, [], true, true, true, 0⟩ : Seen), bltViewBooted, true, true, (((PySem.W.Fast.tw3247288618530077131 hdView).map fun d => some d.1.shape, true) : List (Option FnShape) × Bool), ((PySem.W.Fast.tw210736558901404530 hdView (PySem.W.Fast.tw821141287760084731 hdView ([] : List PySem.Str))).map fun c => some c.withCmp.plainShape), ((PySem.W.Fast.tw4354255287344443571 hdView ([] : List PySem.Str)).map fun c => some (c.plainShape, true)), (((PySem.W.Fast.tw694669760492028198 hdView).map fun d => some d.1.shape, true) : List (Option FnShape) × Bool), ((PySem.W.Fast.tw1571739515156823405 hdView ([] : List PySem.Str)).map fun c => (wclsGood c, (some (c.plainShape, true) : Option (PlainShape × Bool))))) := by
  unfold openGood expectedOf pinGoodD plainGoodE plainGoodD wideGood clsGoodW
  rw [show @recsOf = PySem.W.Fast.tw3399658132070893891 from PySem.W.Fast.te3399658132070893891, show @drecsOf = PySem.W.Fast.tw3247288618530077131 from PySem.W.Fast.te3247288618530077131, show @plainsOf = PySem.W.Fast.tw210736558901404530 from PySem.W.Fast.te210736558901404530, show @looseW = PySem.W.Fast.tw821141287760084731 from PySem.W.Fast.te821141287760084731, show @dclssOf = PySem.W.Fast.tw4354255287344443571 from PySem.W.Fast.te4354255287344443571, show @wdefsOf = PySem.W.Fast.tw694669760492028198 from PySem.W.Fast.te694669760492028198, show @wclssOf = PySem.W.Fast.tw1571739515156823405 from PySem.W.Fast.te1571739515156823405]
theorem run3 {α β γ δ : Type} {o : Option α} {f : α → β} {g : α → γ} {h : α → δ} {b : β} {c : γ} {d : δ} (h1 : o.map f = some b) (h2 : o.map g = some c) (h3 : o.map h = some d) : o.map (fun s => (f s, g s, h s)) = some (b, c, d) := by
  cases o with
  | none => cases h1
  | some s => cases h1; cases h2; cases h3; rfl
set_option maxHeartbeats 0 in
theorem loose_eq : PySem.W.Fast.tw821141287760084731 hdView ([] : List PySem.Str) = ([] : List PySem.Str) := by kernel_rfl
set_option maxHeartbeats 0 in
theorem names_eq : (PySem.W.Fast.tw3399658132070893891 hdView).map (·.name) = ([PySem.Str.ofString "is_whole", PySem.Str.ofString "common", PySem.Str.ofString "without", PySem.Str.ofString "joined", PySem.Str.ofString "width", PySem.Str.ofString "grown", PySem.Str.ofString "breaks", PySem.Str.ofString "pools_of", PySem.Str.ofString "are_short", PySem.Str.ofString "shows_for", PySem.Str.ofString "shows", PySem.Str.ofString "_law_cell", PySem.Str.ofString "_law_whole", PySem.Str.ofString "_law_menu", PySem.Str.ofString "_law_bond", PySem.Str.ofString "_law_drawn", PySem.Str.ofString "_law_unlike", PySem.Str.ofString "_law_breaks", PySem.Str.ofString "_law_in_all", PySem.Str.ofString "_law_pool", PySem.Str.ofString "_law_short", PySem.Str.ofString "_law_shows", PySem.Str.ofString "_law_blocks", PySem.Str.ofString "_law_odd", PySem.Str.ofString "_law_truths", PySem.Str.ofString "_law_turned", PySem.Str.ofString "_law_honest", PySem.Str.ofString "_law_paper", PySem.Str.ofString "_law_wrapped", PySem.Str.ofString "law"] : List PySem.Str) := by kernel_rfl
set_option maxHeartbeats 0 in
theorem p1 (w : World) (os : OsState) : (endF (stepQ (denQ tabQ) PySem.Challenge.rw_deskround_k24_papers_of_anything.row.prog w) 2018 PySem.Challenge.rw_deskround_k24_papers_of_anything.row.prog w os).map (fun x => (looksF PySem.Challenge.rw_deskround_k24_papers_of_anything.row.prog (boot_heap w.params) x.abs, (seenQ hdView ([] : List PySem.Str) (importedModules PySem.Challenge.rw_deskround_k24_papers_of_anything.row.prog.main.body) (fun s => xlAt hdView [] s && recOk PySem.Challenge.rw_deskround_k24_papers_of_anything.row.records s) x.abs).2.1, (PySem.W.Fast.tw5244371056499926238 x.abs.heap && PySem.W.Fast.tw2578726214315757710 hdView x.abs.heap && (!PySem.W.Fast.tw2458874890965802552 hdView || PySem.W.Fast.tw9649274521512697073 x.abs.heap)))) = some (true, bltViewBooted, true) := by kernel_rfl
set_option maxHeartbeats 0 in
theorem p2 (w : World) (os : OsState) : (endF (stepQ (denQ tabQ) PySem.Challenge.rw_deskround_k24_papers_of_anything.row.prog w) 2018 PySem.Challenge.rw_deskround_k24_papers_of_anything.row.prog w os).map (fun x => (seenQ hdView ([] : List PySem.Str) (importedModules PySem.Challenge.rw_deskround_k24_papers_of_anything.row.prog.main.body) (fun s => xlAt hdView [] s && recOk PySem.Challenge.rw_deskround_k24_papers_of_anything.row.records s) x.abs).1) = some (⟨(PySem.W.Fast.tw3399658132070893891 hdView).map fun d => some d.shape, true, [], true, true, true, 0⟩ : Seen) := by kernel_rfl
set_option maxHeartbeats 0 in
theorem p3 (w : World) (os : OsState) : (endF (stepQ (denQ tabQ) PySem.Challenge.rw_deskround_k24_papers_of_anything.row.prog w) 2018 PySem.Challenge.rw_deskround_k24_papers_of_anything.row.prog w os).map (fun x => PySem.W.Fast.tw10880121769531294198 x.abs.heap ([] : List PySem.Str) ([PySem.Str.ofString "is_whole", PySem.Str.ofString "common", PySem.Str.ofString "without", PySem.Str.ofString "joined", PySem.Str.ofString "width", PySem.Str.ofString "grown", PySem.Str.ofString "breaks", PySem.Str.ofString "pools_of", PySem.Str.ofString "are_short", PySem.Str.ofString "shows_for", PySem.Str.ofString "shows", PySem.Str.ofString "_law_cell", PySem.Str.ofString "_law_whole", PySem.Str.ofString "_law_menu", PySem.Str.ofString "_law_bond", PySem.Str.ofString "_law_drawn", PySem.Str.ofString "_law_unlike", PySem.Str.ofString "_law_breaks", PySem.Str.ofString "_law_in_all", PySem.Str.ofString "_law_pool", PySem.Str.ofString "_law_short", PySem.Str.ofString "_law_shows", PySem.Str.ofString "_law_blocks", PySem.Str.ofString "_law_odd", PySem.Str.ofString "_law_truths", PySem.Str.ofString "_law_turned", PySem.Str.ofString "_law_honest", PySem.Str.ofString "_law_paper", PySem.Str.ofString "_law_wrapped", PySem.Str.ofString "law"] : List PySem.Str) ((PySem.W.Fast.tw7409074990110511671 hdView).map (·.1)) ((PySem.W.Fast.tw13664370479719496447 hdView ([] : List PySem.Str)).map (·.name))) = some true := by kernel_rfl
set_option maxHeartbeats 0 in
theorem p4 (w : World) (os : OsState) : (endF (stepQ (denQ tabQ) PySem.Challenge.rw_deskround_k24_papers_of_anything.row.prog w) 2018 PySem.Challenge.rw_deskround_k24_papers_of_anything.row.prog w os).map (fun x => ((PySem.W.Fast.tw14722251495701143533 x.abs.heap (importedModules PySem.Challenge.rw_deskround_k24_papers_of_anything.row.prog.main.body) && x.abs.heap.isNs mainGlobals && x.abs.heap.isNs builtinsNs && PySem.W.Fast.tw10994771534591457954 hdView x.abs.heap && (fun s => xlAt hdView [] s && recOk PySem.Challenge.rw_deskround_k24_papers_of_anything.row.records s) x.abs && (x.abs.gens.size == 0)), (seenQ hdView ([] : List PySem.Str) (importedModules PySem.Challenge.rw_deskround_k24_papers_of_anything.row.prog.main.body) (fun s => xlAt hdView [] s && recOk PySem.Challenge.rw_deskround_k24_papers_of_anything.row.records s) x.abs).2.2.2.2.1)) = some (true, (((PySem.W.Fast.tw3247288618530077131 hdView).map fun d => some d.1.shape, true) : List (Option FnShape) × Bool)) := by kernel_rfl
set_option maxHeartbeats 0 in
theorem p5 (w : World) (os : OsState) : (endF (stepQ (denQ tabQ) PySem.Challenge.rw_deskround_k24_papers_of_anything.row.prog w) 2018 PySem.Challenge.rw_deskround_k24_papers_of_anything.row.prog w os).map (fun x => ([PySem.Str.ofString "is_whole", PySem.Str.ofString "common", PySem.Str.ofString "without", PySem.Str.ofString "joined", PySem.Str.ofString "width", PySem.Str.ofString "grown", PySem.Str.ofString "breaks", PySem.Str.ofString "pools_of", PySem.Str.ofString "are_short", PySem.Str.ofString "shows_for", PySem.Str.ofString "shows", PySem.Str.ofString "_law_cell", PySem.Str.ofString "_law_whole", PySem.Str.ofString "_law_menu", PySem.Str.ofString "_law_bond", PySem.Str.ofString "_law_drawn", PySem.Str.ofString "_law_unlike", PySem.Str.ofString "_law_breaks", PySem.Str.ofString "_law_in_all", PySem.Str.ofString "_law_pool", PySem.Str.ofString "_law_short", PySem.Str.ofString "_law_shows", PySem.Str.ofString "_law_blocks", PySem.Str.ofString "_law_odd", PySem.Str.ofString "_law_truths", PySem.Str.ofString "_law_turned", PySem.Str.ofString "_law_honest", PySem.Str.ofString "_law_paper", PySem.Str.ofString "_law_wrapped", PySem.Str.ofString "law"] : List PySem.Str).all (fun n => PySem.W.Fast.tw5930804224584009831 x.abs.heap n)) = some true := by kernel_rfl
set_option maxHeartbeats 0 in
theorem p6 (w : World) (os : OsState) : (endF (stepQ (denQ tabQ) PySem.Challenge.rw_deskround_k24_papers_of_anything.row.prog w) 2018 PySem.Challenge.rw_deskround_k24_papers_of_anything.row.prog w os).map (fun x => PySem.W.Fast.tw2386780881361962483 hdView ([] : List PySem.Str) x.abs) = some ((PySem.W.Fast.tw210736558901404530 hdView ([] : List PySem.Str)).map fun c => some c.withCmp.plainShape) := by kernel_rfl
set_option maxHeartbeats 0 in
theorem p7 (w : World) (os : OsState) : (endF (stepQ (denQ tabQ) PySem.Challenge.rw_deskround_k24_papers_of_anything.row.prog w) 2018 PySem.Challenge.rw_deskround_k24_papers_of_anything.row.prog w os).map (fun x => ((seenQ hdView ([] : List PySem.Str) (importedModules PySem.Challenge.rw_deskround_k24_papers_of_anything.row.prog.main.body) (fun s => xlAt hdView [] s && recOk PySem.Challenge.rw_deskround_k24_papers_of_anything.row.records s) x.abs).2.2.2.2.2.2.1, (seenQ hdView ([] : List PySem.Str) (importedModules PySem.Challenge.rw_deskround_k24_papers_of_anything.row.prog.main.body) (fun s => xlAt hdView [] s && recOk PySem.Challenge.rw_deskround_k24_papers_of_anything.row.records s) x.abs).2.2.2.2.2.2.2.2)) = some (((PySem.W.Fast.tw4354255287344443571 hdView ([] : List PySem.Str)).map fun c => some (c.plainShape, true)), ((PySem.W.Fast.tw1571739515156823405 hdView ([] : List PySem.Str)).map fun c => (wclsGood c, (some (c.plainShape, true) : Option (PlainShape × Bool))))) := by kernel_rfl
set_option maxHeartbeats 0 in
theorem p8 (w : World) (os : OsState) : (endF (stepQ (denQ tabQ) PySem.Challenge.rw_deskround_k24_papers_of_anything.row.prog w) 2018 PySem.Challenge.rw_deskround_k24_papers_of_anything.row.prog w os).map (fun x => (seenQ hdView ([] : List PySem.Str) (importedModules PySem.Challenge.rw_deskround_k24_papers_of_anything.row.prog.main.body) (fun s => xlAt hdView [] s && recOk PySem.Challenge.rw_deskround_k24_papers_of_anything.row.records s) x.abs).2.2.2.2.2.2.2.1) = some (((PySem.W.Fast.tw694669760492028198 hdView).map fun d => some d.1.shape, true) : List (Option FnShape) × Bool) := by kernel_rfl
theorem all (w : World) (os : OsState) : (endF (stepQ (denQ tabQ) PySem.Challenge.rw_deskround_k24_papers_of_anything.row.prog w) 2018 PySem.Challenge.rw_deskround_k24_papers_of_anything.row.prog w os).map (fun x => looksF PySem.Challenge.rw_deskround_k24_papers_of_anything.row.prog (boot_heap w.params) x.abs) = some true ∧ (endF (stepQ (denQ tabQ) PySem.Challenge.rw_deskround_k24_papers_of_anything.row.prog w) 2018 PySem.Challenge.rw_deskround_k24_papers_of_anything.row.prog w os).map (fun x => (seenQ hdView ([] : List PySem.Str) (importedModules PySem.Challenge.rw_deskround_k24_papers_of_anything.row.prog.main.body) (fun s => xlAt hdView [] s && recOk PySem.Challenge.rw_deskround_k24_papers_of_anything.row.records s) x.abs)) = some (openGood hdView ([] : List PySem.Str)) := by
  have h1 := p1 w os
  have h2 := p2 w os
  have h3 := p3 w os
  have h4 := p4 w os
  have h5 := p5 w os
  have h6 := p6 w os
  have h7 := p7 w os
  have h8 := p8 w os
  generalize (endF (stepQ (denQ tabQ) PySem.Challenge.rw_deskround_k24_papers_of_anything.row.prog w) 2018 PySem.Challenge.rw_deskround_k24_papers_of_anything.row.prog w os) = r at h1 h2 h3 h4 h5 h6 h7 h8 ⊢
  cases r with
  | none => cases h2
  | some x =>
    have h1 := Option.some.inj h1
    have h2 := Option.some.inj h2
    have h3 := Option.some.inj h3
    have h4 := Option.some.inj h4
    have h5 := Option.some.inj h5
    have h6 := Option.some.inj h6
    have h7 := Option.some.inj h7
    have h8 := Option.some.inj h8
    obtain ⟨h10, h12, h14⟩ := (by simpa only [Prod.mk.injEq] using h1 : _ ∧ _ ∧ _)
    obtain ⟨h43, h45⟩ := (by simpa only [Prod.mk.injEq] using h4 : _ ∧ _)
    obtain ⟨h77, h79⟩ := (by simpa only [Prod.mk.injEq] using h7 : _ ∧ _)
    refine ⟨congrArg some h10, congrArg some ?_⟩
    have e := seenQ_eq hdView ([] : List PySem.Str) (importedModules PySem.Challenge.rw_deskround_k24_papers_of_anything.row.prog.main.body) (fun s => xlAt hdView [] s && recOk PySem.Challenge.rw_deskround_k24_papers_of_anything.row.records s) x.abs
    have c3 : (seenQ hdView ([] : List PySem.Str) (importedModules PySem.Challenge.rw_deskround_k24_papers_of_anything.row.prog.main.body) (fun s => xlAt hdView [] s && recOk PySem.Challenge.rw_deskround_k24_papers_of_anything.row.records s) x.abs).2.2.1 = true := by
      rw [← e]
      have k : x.abs.heap.keysOk (looseW hdView ([] : List PySem.Str)) ((recsOf hdView).map (·.name)) ((litsOf hdView).map (·.1)) ((clssOf hdView (looseW hdView ([] : List PySem.Str))).map (·.name)) = true := by
        rw [show @Heap.keysOk = PySem.W.Fast.tw10880121769531294198 from PySem.W.Fast.te10880121769531294198, show @looseW = PySem.W.Fast.tw821141287760084731 from PySem.W.Fast.te821141287760084731, show @recsOf = PySem.W.Fast.tw3399658132070893891 from PySem.W.Fast.te3399658132070893891, show @litsOf = PySem.W.Fast.tw7409074990110511671 from PySem.W.Fast.te7409074990110511671, show @clssOf = PySem.W.Fast.tw13664370479719496447 from PySem.W.Fast.te13664370479719496447, loose_eq, names_eq]
        exact h3
      simp only [Bool.and_eq_true] at h43
      obtain ⟨⟨⟨⟨⟨a, m⟩, b⟩, t⟩, xx⟩, g⟩ := h43
      have a : x.abs.heap.accountedOkI (importedModules PySem.Challenge.rw_deskround_k24_papers_of_anything.row.prog.main.body) = true := by rw [show @Heap.accountedOkI = PySem.W.Fast.tw14722251495701143533 from PySem.W.Fast.te14722251495701143533]; exact a
      have t : tablesOk hdView x.abs.heap = true := by rw [show @tablesOk = PySem.W.Fast.tw10994771534591457954 from PySem.W.Fast.te10994771534591457954]; exact t
      unfold openSeen
      dsimp only
      rw [k, a, m, b, t]
      simp only [Bool.true_and, Bool.and_eq_true]
      exact ⟨xx, g⟩
    have c4 : (seenQ hdView ([] : List PySem.Str) (importedModules PySem.Challenge.rw_deskround_k24_papers_of_anything.row.prog.main.body) (fun s => xlAt hdView [] s && recOk PySem.Challenge.rw_deskround_k24_papers_of_anything.row.records s) x.abs).2.2.2.1 = true := by
      rw [← e]
      show tabsOk hdView x.abs = true
      unfold tabsOk
      have k : ((recsOf hdView).all fun d => x.abs.heap.tab0Ok d.name) = true := by
        have k2 : ((recsOf hdView).map (·.name)).all (fun n => x.abs.heap.tab0Ok n) = true := by
          rw [show @recsOf = PySem.W.Fast.tw3399658132070893891 from PySem.W.Fast.te3399658132070893891, show @Heap.tab0Ok = PySem.W.Fast.tw5930804224584009831 from PySem.W.Fast.te5930804224584009831, names_eq]
          exact h5
        rw [List.all_map] at k2
        exact k2
      have k3 : (x.abs.heap.bmainOk && valsOk hdView x.abs.heap && (!importsNone hdView || x.abs.heap.noSeerOk)) = true := by
        rw [show @Heap.bmainOk = PySem.W.Fast.tw5244371056499926238 from PySem.W.Fast.te5244371056499926238, show @valsOk = PySem.W.Fast.tw2578726214315757710 from PySem.W.Fast.te2578726214315757710, show @importsNone = PySem.W.Fast.tw2458874890965802552 from PySem.W.Fast.te2458874890965802552, show @Heap.noSeerOk = PySem.W.Fast.tw9649274521512697073 from PySem.W.Fast.te9649274521512697073]
        exact h14
      rw [k, Bool.true_and]
      exact k3
    have c6 : (seenQ hdView ([] : List PySem.Str) (importedModules PySem.Challenge.rw_deskround_k24_papers_of_anything.row.prog.main.body) (fun s => xlAt hdView [] s && recOk PySem.Challenge.rw_deskround_k24_papers_of_anything.row.records s) x.abs).2.2.2.2.2.1 = plainGoodE hdView (looseW hdView ([] : List PySem.Str)) := by
      rw [← e]
      show plainSeenE hdView (looseW hdView ([] : List PySem.Str)) x.abs = _
      unfold plainGoodE
      rw [show @plainSeenE = PySem.W.Fast.tw2386780881361962483 from PySem.W.Fast.te2386780881361962483, show @looseW = PySem.W.Fast.tw821141287760084731 from PySem.W.Fast.te821141287760084731, show @plainsOf = PySem.W.Fast.tw210736558901404530 from PySem.W.Fast.te210736558901404530, loose_eq]
      exact h6
    have c6 : (seenQ hdView ([] : List PySem.Str) (importedModules PySem.Challenge.rw_deskround_k24_papers_of_anything.row.prog.main.body) (fun s => xlAt hdView [] s && recOk PySem.Challenge.rw_deskround_k24_papers_of_anything.row.records s) x.abs).2.2.2.2.2.1 = ((PySem.W.Fast.tw210736558901404530 hdView (PySem.W.Fast.tw821141287760084731 hdView ([] : List PySem.Str))).map fun c => some c.withCmp.plainShape) := by
      rw [c6]
      unfold plainGoodE
      rw [show @looseW = PySem.W.Fast.tw821141287760084731 from PySem.W.Fast.te821141287760084731, show @plainsOf = PySem.W.Fast.tw210736558901404530 from PySem.W.Fast.te210736558901404530]
    rw [good_eq]
    exact Prod.ext h2 (Prod.ext h12 (Prod.ext c3 (Prod.ext c4 (Prod.ext h45 (Prod.ext c6 (Prod.ext h77 (Prod.ext h8 h79)))))))
end
end HdT
local macro_rules | `(tactic| k_head) => `(tactic| k_headL)
local macro_rules | `(tactic| kernel_rfl) => `(tactic| ((with_reducible refine HdT.run3 ?_ ?_ ?_); rename_i w os; exact Eq.trans (by kernel_rfl) (HdT.all w os).1; rename_i w os; exact Eq.trans (by kernel_rfl) (Eq.trans (HdT.all w os).2 (by kernel_rfl)); kernel_rfl))
set_option maxHeartbeats 0 in
open_top hdTop for PySem.Challenge.rw_deskround_k24_papers_of_anything
end
namespace DL
open PySem PySem.Spec PyProof.Rows L2
structure Kx where
  fr : PySem.W.Frag
  as : List Addr
instance : Coe Kx PySem.W.Frag := ⟨Kx.fr⟩
def clsOf (K : PySem.W.Frag) (c : Str) : Addr := match PySem.W.nsIn K mainGlobals c with
  | some (some (.ref C)) => C
  | _ => 0
inductive D where
  | non | bl (b : Bool) | int (i : Int) | str (s : Str)
  | lst (xs : List D) | tup (xs : List D) | scr (ns : List Int)
  | dK (kvs : List (Key × D)) | dT (kvs : List (List Key × D))
  | ref (a : Addr)
  | rows (rs : List D)
  | exn (c : Str)
  | deep (d : D)
  | junk (n : Nat)
  | obj (k : Nat)
inductive R (α : Type) where
  | ok (a : α) | err (c : Str) | bad
def bd {α β : Type} (x : R α) (f : α → R β) : R β := match x with
  | .ok a => f a
  | .err c => .err c
  | .bad => .bad
@[simp] theorem bd_ok {α β : Type} (a : α) (f : α → R β) : bd (.ok a) f = f a := rfl
@[simp] theorem bd_err {α β : Type} (c : Str) (f : α → R β) : bd (.err c) f = .err c := rfl
@[simp] theorem bd_bad {α β : Type} (f : α → R β) : bd (.bad) f = .bad := rfl
def grd {α : Type} (c : Bool) (x : R α) : R α := if c = true then x else .bad
@[simp] theorem grd_t {α : Type} (x : R α) : grd true x = x := rfl
@[simp] theorem grd_f {α : Type} (x : R α) : grd false x = .bad := rfl
def exK (C a : Addr) : HO := .ext fun h => ∃ oe : Obj, h.get? a = some oe ∧ oe.cls = .ref C ∧ oe.dict = none ∧ ∃ vs, oe.data = .fields vs
mutual
/-- numbers, texts, tuples of such -/
def tO1 : D → Bool
  | .non => true
  | .bl _ => true
  | .int _ => true
  | .str _ => true
  | .tup ds => tOs ds
  | _ => false
def tOs : List D → Bool
  | [] => true
  | d :: ds => tO1 d && tOs ds
end
mutual
/-- .. and lists -/
def dat1 : D → Bool
  | .non => true
  | .bl _ => true
  | .int _ => true
  | .str _ => true
  | .tup ds => dats ds
  | .lst ds => dats ds
  | _ => false
def dats : List D → Bool
  | [] => true
  | d :: ds => dat1 d && dats ds
end
mutual
inductive Rep (K : Kx) (F : Hp) : D → V → Prop
  | non : Rep K F .non .non
  | bl (b : Bool) : Rep K F (.bl b) (.bl b)
  | int (i : Int) : Rep K F (.int i) (.int i)
  | str (x : Str) : Rep K F (.str x) (.str x)
  | lst {a : Addr} {vs : List V} {ds : List D} : F a = some (.lst vs) → Reps K F ds vs → Rep K F (.lst ds) (.ref a)
  | scr {a : Addr} {ns : List Int} : SqL K F a (ns.map V.int) → Rep K F (.scr ns) (.ref a)
  | tup {a : Addr} {vs : List V} {ds : List D} : F a = some (.tup vs) → Reps K F ds vs → Rep K F (.tup ds) (.ref a)
  | dK {a : Addr} {kvs : List (Key × V)} {kds : List (Key × D)} : Rd F a (.dK kvs) → RepK K F kds kvs → Rep K F (.dK kds) (.ref a)
  | dT {a : Addr} {kvs : List (List Key × V)} {kds : List (List Key × D)} : Rd F a (.dT kvs) → RepT K F kds kvs → Rep K F (.dT kds) (.ref a)
  | ref (a : Addr) : Rep K F (.ref a) (.ref a)
  | rows {a : Addr} {vs : List V} {ds : List D} : F a = some (.lst vs) → Reps K F ds vs → Rep K F (.rows ds) (.ref a)
  | exn {c : Str} {a C : Addr} : PySem.W.nsIn K mainGlobals c = some (some (.ref C)) → F a = some (exK C a) → Rep K F (.exn c) (.ref a)
  | deep (d : D) (a : Addr) : Rep K F (.deep d) (.ref a)
  | obj {k : Nat} {a : Addr} : K.as[k]? = some a → Rep K F (.obj k) (.ref a)
inductive Reps (K : Kx) (F : Hp) : List D → List V → Prop
  | nil : Reps K F [] []
  | cons {d : D} {v : V} {ds : List D} {vs : List V} : Rep K F d v → Reps K F ds vs → Reps K F (d :: ds) (v :: vs)
inductive RepK (K : Kx) (F : Hp) : List (Key × D) → List (Key × V) → Prop
  | nil : RepK K F [] []
  | cons {k : Key} {d : D} {v : V} {ds : List (Key × D)} {vs : List (Key × V)} : Rep K F d v → RepK K F ds vs → RepK K F ((k, d) :: ds) ((k, v) :: vs)
inductive RepT (K : Kx) (F : Hp) : List (List Key × D) → List (List Key × V) → Prop
  | nil : RepT K F [] []
  | cons {k : List Key} {d : D} {v : V} {ds : List (List Key × D)} {vs : List (List Key × V)} : Rep K F d v → RepT K F ds vs → RepT K F ((k, d) :: ds) ((k, v) :: vs)
end
section
variable {K : Kx} {F F' H H' H'' F'' : Hp}
theorem Same.seqT {a : Addr} {xs : List V} (e : Same H H') (h : SqT K H a xs) : SqT K H' a xs := by
  rcases h with (h | ⟨o, h⟩) | h
  · exact .inl (.inl (e _ _ h))
  · exact .inl (.inr ⟨o, e _ _ h⟩)
  · exact .inr h
theorem Same.rd {a : Addr} {o : HO} (e : Same H H') (h : Rd H a o) : Rd H' a o := by
  rcases h with h | ⟨u, h⟩
  · exact .inl (e _ _ h)
  · exact .inr ⟨u, e _ _ h⟩
theorem same_upd {p : Addr} {o : HO} (h : H p = none) : Same H (upd H p o) := fun b x e => by
  rw [upd_ne (ne_of_none e h)]
  exact e
theorem same_upd2 {p : Addr} {o : HO} (e : Same F H) (h : F p = none) : Same F (upd H p o) := fun b x z => by
  rw [upd_ne (ne_of_none z h)]
  exact e _ _ z
mutual
theorem Rep.mono (e : Same F F') : ∀ {d : D} {v : V}, Rep K F d v → Rep K F' d v
  | _, _, .non => .non
  | _, _, .bl b => .bl b
  | _, _, .int b => .int b
  | _, _, .str b => .str b
  | _, _, .lst s r => .lst (e _ _ s) (Reps.mono e r)
  | _, _, .scr s => .scr (e.seq s)
  | _, _, .tup s r => .tup (e _ _ s) (Reps.mono e r)
  | _, _, .dK s r => .dK (Same.rd e s) (RepK.mono e r)
  | _, _, .dT s r => .dT (Same.rd e s) (RepT.mono e r)
  | _, _, .ref a => .ref a
  | _, _, .rows s r => .rows (e _ _ s) (Reps.mono e r)
  | _, _, .exn n s => .exn n (e _ _ s)
  | _, _, .deep n s => .deep n s
  | _, _, .obj h => .obj h
theorem Reps.mono (e : Same F F') : ∀ {ds : List D} {vs : List V}, Reps K F ds vs → Reps K F' ds vs
  | _, _, .nil => .nil
  | _, _, .cons r t => .cons (Rep.mono e r) (Reps.mono e t)
theorem RepK.mono (e : Same F F') : ∀ {ds : List (Key × D)} {vs : List (Key × V)}, RepK K F ds vs → RepK K F' ds vs
  | _, _, .nil => .nil
  | _, _, .cons r t => .cons (Rep.mono e r) (RepK.mono e t)
theorem RepT.mono (e : Same F F') : ∀ {ds : List (List Key × D)} {vs : List (List Key × V)}, RepT K F ds vs → RepT K F' ds vs
  | _, _, .nil => .nil
  | _, _, .cons r t => .cons (Rep.mono e r) (RepT.mono e t)
end
theorem Reps.length : ∀ {ds : List D} {vs : List V}, Reps K F ds vs → vs.length = ds.length
  | _, _, .nil => rfl
  | _, _, .cons _ t => congrArg (· + 1) (Reps.length t)
theorem Reps.get : ∀ {ds : List D} {vs : List V} {i : Nat} {d : D}, Reps K F ds vs → ds[i]? = some d → ∃ v, vs[i]? = some v ∧ Rep K F d v
  | _, _, _, _, .nil, e => by simp at e
  | _, _, 0, _, .cons r _, e => by simp at e; subst e; exact ⟨_, rfl, r⟩
  | _, _, i + 1, d, .cons _ t, e => by
    obtain ⟨u, h1, h2⟩ := Reps.get (i := i) (d := d) t (by simpa using e)
    exact ⟨u, by simpa using h1, h2⟩
theorem Reps.append : ∀ {xs ys : List D} {us ws : List V}, Reps K F xs us → Reps K F ys ws → Reps K F (xs ++ ys) (us ++ ws)
  | _, _, _, _, .nil, s => s
  | _, _, _, _, .cons r t, s => .cons r (Reps.append t s)
theorem Reps.take : ∀ {xs : List D} {us : List V} (n : Nat), Reps K F xs us → Reps K F (xs.take n) (us.take n)
  | _, _, 0, _ => .nil
  | _, _, _ + 1, .nil => .nil
  | _, _, n + 1, .cons r t => .cons r (Reps.take n t)
theorem Reps.drop : ∀ {xs : List D} {us : List V} (n : Nat), Reps K F xs us → Reps K F (xs.drop n) (us.drop n)
  | _, _, 0, r => r
  | _, _, _ + 1, .nil => .nil
  | _, _, n + 1, .cons _ t => Reps.drop n t
theorem Reps.set {d : D} {v : V} (r : Rep K F d v) : ∀ {xs : List D} {us : List V} (i : Nat), Reps K F xs us → Reps K F (xs.set i d) (us.set i v)
  | _, _, _, .nil => .nil
  | _, _, 0, .cons _ t => .cons r t
  | _, _, i + 1, .cons q t => .cons q (Reps.set r i t)
theorem Reps.reverse : ∀ {xs : List D} {us : List V}, Reps K F xs us → Reps K F xs.reverse us.reverse
  | _, _, .nil => .nil
  | _, _, .cons r t => by
    rw [List.reverse_cons, List.reverse_cons]
    exact Reps.append (Reps.reverse t) (.cons r .nil)
theorem Reps.ints : ∀ {ns : List Int} {vs : List V}, Reps K F (ns.map D.int) vs → vs = ns.map V.int
  | [], _, .nil => rfl
  | n :: ns, _, .cons (.int _) t => by rw [Reps.ints t]; rfl
theorem Reps.of_ints : ∀ (ns : List Int), Reps K F (ns.map D.int) (ns.map V.int)
  | [] => .nil
  | n :: ns => .cons (.int n) (Reps.of_ints ns)
theorem Reps.of_strs : ∀ (ns : List Str), Reps K F (ns.map D.str) (ns.map V.str)
  | [] => .nil
  | n :: ns => .cons (.str n) (Reps.of_strs ns)
structure Ext (F H F' H' : Hp) : Prop where
  f : Same F F'
  h : Same H H'
  n : ∀ a o, F' a = some o → F a = some o ∨ H a = none
theorem Ext.refl (F H : Hp) : Ext F H F H := ⟨Same.refl _, Same.refl _, fun _ _ h => .inl h⟩
theorem Ext.trans (a : Ext F H F' H') (b : Ext F' H' F'' H'') : Ext F H F'' H'' :=
  ⟨a.f.trans b.f, a.h.trans b.h, fun c o e => by
    rcases b.n c o e with h | h
    · exact a.n c o h
    · exact .inr (a.h.free h)⟩
theorem Ext.heap (s : Same H H') : Ext F H F H' := ⟨Same.refl _, s, fun _ _ h => .inl h⟩
theorem Ext.keepN {a : Addr} {o : HO} (x : Ext F H F' H') (h : H a = some o) (e : F a = none) : F' a = none := by
  cases q : F' a with
  | none => rfl
  | some u =>
    rcases x.n a u q with z | z
    · rw [e] at z; cases z
    · rw [h] at z; cases z
theorem Ext.settle {p : Addr} {o : HO} (x : Ext F H F' H') (n : H p = .none) (q : F' p = .none) : Ext F H (upd F' p o) H' :=
  ⟨x.f.trans (same_upd q), x.h, fun a u e => by
    by_cases h : a = p
    · subst h; exact .inr n
    · rw [upd_ne h] at e; exact x.n a u e⟩
theorem same_settle {p : Addr} {o : HO} (s : Same F H) (q : H p = some o) : Same (upd F p o) H := fun b u e => by
  by_cases h : b = p
  · subst h; rw [upd_same] at e; rw [q, ← e]
  · rw [upd_ne h] at e; exact s b u e
inductive RowsAt (K : Kx) (F H : Hp) : List D → List V → Prop
  | nil : RowsAt K F H [] []
  | cons {b : Addr} {us : List V} {xs rs : List D} {vs : List V} : H b = some (.lst us) → Reps K F xs us → RowsAt K F H rs vs → RowsAt K F H (.lst xs :: rs) (.ref b :: vs)
mutual
/-- a tree whose lists are one's own (places may be shared within it); what holds no list is settled -/
inductive OwD (K : Kx) (F H : Hp) : D → V → Prop
  | set {d : D} {v : V} : tO1 d = true → Rep K F d v → OwD K F H d v
  | lst {a : Addr} {vs : List V} {ds : List D} : H a = some (.lst vs) → OwDs K F H ds vs → OwD K F H (.lst ds) (.ref a)
  | tup {a : Addr} {vs : List V} {ds : List D} : tOs ds = false → H a = some (.tup vs) → OwDs K F H ds vs → OwD K F H (.tup ds) (.ref a)
  | junk {a : Addr} {vs : List V} {n : Nat} : H a = some (.lst vs) → vs.length ≤ n → OwD K F H (.junk n) (.ref a)
inductive OwDs (K : Kx) (F H : Hp) : List D → List V → Prop
  | nil : OwDs K F H [] []
  | cons {d : D} {v : V} {ds : List D} {vs : List V} : OwD K F H d v → OwDs K F H ds vs → OwDs K F H (d :: ds) (v :: vs)
end
mutual
/-- the places of such a tree -/
def rch (H : Hp) : D → V → List Addr
  | .lst ds, .ref a => a :: (match H a with | some (.lst vs) => rchs H ds vs | _ => [])
  | .tup ds, .ref a => if tOs ds = true then [] else a :: (match H a with | some (.tup vs) => rchs H ds vs | _ => [])
  | .junk _, .ref a => [a]
  | _, _ => []
def rchs (H : Hp) : List D → List V → List Addr
  | d :: ds, v :: vs => rch H d v ++ rchs H ds vs
  | _, _ => []
end
mutual
theorem OwD.at {F F' H H' : Hp} (f : Same F F') : ∀ {d : D} {v : V}, OwD K F H d v → (∀ b ∈ rch H d v, H' b = H b) → OwD K F' H' d v ∧ rch H' d v = rch H d v
  | d, v, .set h r, e => ⟨.set h (r.mono f), by
    cases d with
    | tup ds =>
      have h : tOs ds = true := h
      cases v <;> simp only [rch, h, if_true]
    | lst ds => exact nomatch h
    | junk n => exact nomatch h
    | _ => cases v <;> simp only [rch]⟩
  | _, _, .lst (a := a) (vs := vs) (ds := ds) q t, e => by
    have ha : H' a = H a := e a (by simp only [rch]; exact List.mem_cons_self)
    obtain ⟨t1, t2⟩ := OwDs.at f t fun b hb => e b (by simp only [rch, q]; exact List.mem_cons_of_mem _ hb)
    exact ⟨.lst (ha.trans q) t1, by simp only [rch, ha, q, t2]⟩
  | _, _, .tup (a := a) (vs := vs) (ds := ds) z q t, e => by
    have ha : H' a = H a := e a (by simp only [rch, z, Bool.false_eq_true, if_false]; exact List.mem_cons_self)
    obtain ⟨t1, t2⟩ := OwDs.at f t fun b hb => e b (by simp only [rch, z, Bool.false_eq_true, if_false, q]; exact List.mem_cons_of_mem _ hb)
    exact ⟨.tup z (ha.trans q) t1, by simp only [rch, z, Bool.false_eq_true, if_false, ha, q, t2]⟩
  | _, _, .junk (a := a) q l, e => by
    have ha : H' a = H a := e a (by simp only [rch]; exact List.mem_cons_self)
    exact ⟨.junk (ha.trans q) l, by simp only [rch]⟩
theorem OwDs.at {F F' H H' : Hp} (f : Same F F') : ∀ {ds : List D} {vs : List V}, OwDs K F H ds vs → (∀ b ∈ rchs H ds vs, H' b = H b) → OwDs K F' H' ds vs ∧ rchs H' ds vs = rchs H ds vs
  | _, _, .nil, _ => ⟨.nil, by simp only [rchs]⟩
  | _, _, .cons r t, e => by
    obtain ⟨r1, r2⟩ := OwD.at f r fun b hb => e b (by simp only [rchs]; exact List.mem_append_left _ hb)
    obtain ⟨t1, t2⟩ := OwDs.at f t fun b hb => e b (by simp only [rchs]; exact List.mem_append_right _ hb)
    exact ⟨.cons r1 t1, by simp only [rchs, r2, t2]⟩
end
mutual
theorem OwD.there {F H : Hp} : ∀ {d : D} {v : V}, OwD K F H d v → ∀ b ∈ rch H d v, ∃ u, H b = some u
  | d, v, .set h r, b, hb => by
    exfalso
    cases d with
    | tup ds =>
      have h : tOs ds = true := h
      cases v <;> simp only [rch, h, if_true] at hb <;> exact nomatch hb
    | lst ds => exact nomatch h
    | junk n => exact nomatch h
    | _ => cases v <;> simp only [rch] at hb <;> exact nomatch hb
  | _, _, .lst (a := a) (vs := vs) (ds := ds) q t, b, hb => by
    simp only [rch, q] at hb
    rcases List.mem_cons.mp hb with rfl | hb
    · exact ⟨_, q⟩
    · exact OwDs.there t b hb
  | _, _, .tup (a := a) (vs := vs) (ds := ds) z q t, b, hb => by
    simp only [rch, z, Bool.false_eq_true, if_false, q] at hb
    rcases List.mem_cons.mp hb with rfl | hb
    · exact ⟨_, q⟩
    · exact OwDs.there t b hb
  | _, _, .junk (a := a) q l, b, hb => by
    simp only [rch] at hb
    rw [List.mem_singleton.mp hb]
    exact ⟨_, q⟩
theorem OwDs.there {F H : Hp} : ∀ {ds : List D} {vs : List V}, OwDs K F H ds vs → ∀ b ∈ rchs H ds vs, ∃ u, H b = some u
  | _, _, .nil, b, hb => by simp only [rchs] at hb; exact nomatch hb
  | _, _, .cons r t, b, hb => by
    simp only [rchs] at hb
    rcases List.mem_append.mp hb with hb | hb
    · exact OwD.there r b hb
    · exact OwDs.there t b hb
end
mutual
/-- without junk: settled where its places are -/
theorem OwD.rep {F F' H : Hp} (f : Same F F') : ∀ {d : D} {v : V}, OwD K F H d v → dat1 d = true → (∀ b ∈ rch H d v, F' b = H b) → Rep K F' d v
  | _, _, .set h r, _, e => r.mono f
  | _, _, .lst (a := a) (vs := vs) (ds := ds) q t, z, e => by
    have ha : F' a = H a := e a (by simp only [rch]; exact List.mem_cons_self)
    exact .lst (ha.trans q) (OwDs.rep f t z fun b hb => e b (by simp only [rch, q]; exact List.mem_cons_of_mem _ hb))
  | _, _, .tup (a := a) (vs := vs) (ds := ds) z q t, y, e => by
    have ha : F' a = H a := e a (by simp only [rch, z, Bool.false_eq_true, if_false]; exact List.mem_cons_self)
    exact .tup (ha.trans q) (OwDs.rep f t y fun b hb => e b (by simp only [rch, z, Bool.false_eq_true, if_false, q]; exact List.mem_cons_of_mem _ hb))
  | _, _, .junk _ _, y, _ => nomatch y
theorem OwDs.rep {F F' H : Hp} (f : Same F F') : ∀ {ds : List D} {vs : List V}, OwDs K F H ds vs → dats ds = true → (∀ b ∈ rchs H ds vs, F' b = H b) → Reps K F' ds vs
  | _, _, .nil, _, _ => .nil
  | _, _, .cons r t, z, e => by
    have z := Bool.and_eq_true_iff.mp z
    exact .cons (OwD.rep f r z.1 fun b hb => e b (by simp only [rchs]; exact List.mem_append_left _ hb)) (OwDs.rep f t z.2 fun b hb => e b (by simp only [rchs]; exact List.mem_append_right _ hb))
end
mutual
theorem OwD.of {F H : Hp} (s : Same F H) : ∀ {d : D} {v : V}, Rep K F d v → dat1 d = true → OwD K F H d v
  | _, _, .non, _ => .set rfl .non
  | _, _, .bl b, _ => .set rfl (.bl b)
  | _, _, .int b, _ => .set rfl (.int b)
  | _, _, .str b, _ => .set rfl (.str b)
  | _, _, .lst q t, z => .lst (s _ _ q) (OwDs.of s t z)
  | _, _, .tup (ds := ds) q t, z => by
    cases h : tOs ds with
    | true => exact .set h (.tup q t)
    | false => exact .tup h (s _ _ q) (OwDs.of s t z)
  | _, _, .scr _, z => nomatch z
  | _, _, .dK _ _, z => nomatch z
  | _, _, .dT _ _, z => nomatch z
  | _, _, .ref _, z => nomatch z
  | _, _, .rows _ _, z => nomatch z
  | _, _, .exn _ _, z => nomatch z
  | _, _, .deep _ _, z => nomatch z
  | _, _, .obj _, z => nomatch z
theorem OwDs.of {F H : Hp} (s : Same F H) : ∀ {ds : List D} {vs : List V}, Reps K F ds vs → dats ds = true → OwDs K F H ds vs
  | _, _, .nil, _ => .nil
  | _, _, .cons r t, z => by
    have z := Bool.and_eq_true_iff.mp z
    exact .cons (OwD.of s r z.1) (OwDs.of s t z.2)
end
mutual
theorem OwD.mono {F F' H H' : Hp} (f : Same F F') (h : Same H H') : ∀ {d : D} {v : V}, OwD K F H d v → OwD K F' H' d v
  | _, _, .set z r => .set z (r.mono f)
  | _, _, .lst q t => .lst (h _ _ q) (OwDs.mono f h t)
  | _, _, .tup z q t => .tup z (h _ _ q) (OwDs.mono f h t)
  | _, _, .junk q l => .junk (h _ _ q) l
theorem OwDs.mono {F F' H H' : Hp} (f : Same F F') (h : Same H H') : ∀ {ds : List D} {vs : List V}, OwDs K F H ds vs → OwDs K F' H' ds vs
  | _, _, .nil => .nil
  | _, _, .cons r t => .cons (OwD.mono f h r) (OwDs.mono f h t)
end
def View (K : Kx) (F H : Hp) : D → V → Prop
  | .lst ds, v => ∃ a vs, v = .ref a ∧ H a = some (.lst vs) ∧ Reps K F ds vs
  | .scr ns, v => ∃ a, v = .ref a ∧ SqL K H a (ns.map V.int)
  | .tup ds, v => ∃ a vs, v = .ref a ∧ H a = some (.tup vs) ∧ Reps K F ds vs
  | .dK ds, v => ∃ a vs, v = .ref a ∧ Rd H a (.dK vs) ∧ RepK K F ds vs
  | .dT ds, v => ∃ a vs, v = .ref a ∧ Rd H a (.dT vs) ∧ RepT K F ds vs
  | .non, v => v = .non
  | .bl b, v => v = .bl b
  | .int b, v => v = .int b
  | .str b, v => v = .str b
  | .ref b, v => v = .ref b
  | .rows rs, v => ∃ a vs, v = .ref a ∧ H a = some (.lst vs) ∧ (Reps K F rs vs ∨ RowsAt K F H rs vs)
  | .exn c, v => ∃ a C, v = .ref a ∧ PySem.W.nsIn K mainGlobals c = some (some (.ref C)) ∧ H a = some (exK C a)
  | .deep _, v => ∃ a, v = .ref a
  | .junk _, _ => False
  | .obj k, v => ∃ a, v = .ref a ∧ K.as[k]? = some a
def Own (K : Kx) (F H : Hp) (a : Addr) : D → Prop
  | .lst ds => ∃ vs, H a = some (.lst vs) ∧ Reps K F ds vs
  | .dK ds => ∃ vs, H a = some (.dK vs) ∧ RepK K F ds vs
  | .dT ds => ∃ vs, H a = some (.dT vs) ∧ RepT K F ds vs
  | .rows rs => ∃ vs, H a = some (.lst vs) ∧ RowsAt K F H rs vs
  | .deep d => OwD K F H d (.ref a) ∧ tO1 d = false
  | _ => False
def isC : D → Bool
  | .lst _ => true
  | .dK _ => true
  | .dT _ => true
  | .rows _ => true
  | .deep _ => true
  | _ => false
def isRows : D → Bool
  | .rows _ => true
  | .deep _ => true
  | _ => false
def refOf : V → Option Addr
  | .ref b => some b
  | _ => none
def isDeep : D → Bool
  | .deep _ => true
  | _ => false
def kids (H : Hp) (a : Addr) : List Addr := match H a with
  | some (.lst vs) => vs.filterMap refOf
  | _ => []
def nub : List Addr → List Addr
  | [] => []
  | b :: l => if b ∈ nub l then nub l else b :: nub l
theorem mem_nub {c : Addr} : ∀ {l : List Addr}, c ∈ nub l ↔ c ∈ l
  | [] => Iff.rfl
  | b :: l => by
    have ih := mem_nub (c := c) (l := l)
    unfold nub
    split
    · rename_i h
      rw [List.mem_cons, ih]
      refine ⟨.inr, fun z => z.elim (fun e => ?_) id⟩
      subst e
      exact ih.mp h
    · rw [List.mem_cons, List.mem_cons, ih]
theorem nub_nodup : ∀ {l : List Addr}, (nub l).Nodup
  | [] => List.nodup_nil
  | b :: l => by
    unfold nub
    split
    · exact nub_nodup
    · rename_i h
      exact List.nodup_cons.mpr ⟨h, nub_nodup⟩
def kin (H : Hp) (a : Addr) : D → List Addr
  | .rows _ => kids H a
  | .deep d => (nub (rch H d (.ref a))).filter fun b => b != a
  | _ => []
def foot (H : Hp) (a : Addr) (d : D) : List Addr := a :: kin H a d
def New (K : Kx) (H0 F H : Hp) (d : D) (v : V) : Prop :=
  if isC d = true then (if isRows d = true then ∃ a, v = .ref a ∧ (∀ b ∈ foot H a d, H0 b = none ∧ F b = none) ∧ (foot H a d).Nodup ∧ Own K F H a d
    else ∃ a, v = .ref a ∧ H0 a = none ∧ F a = none ∧ Own K F H a d) else Rep K F d v
theorem foot_head {a : Addr} {d : D} : a ∈ foot H a d := List.mem_cons_self
theorem foot_one {a : Addr} {d : D} (h : isRows d = false) : foot H a d = [a] := by
  cases d with
  | rows rs => exact nomatch h
  | deep d => exact nomatch h
  | _ => rfl
theorem foot_rows {a : Addr} {rs : List D} : foot H a (.rows rs) = a :: kids H a := rfl
theorem kids_at {a : Addr} {vs : List V} (h : H a = some (.lst vs)) : kids H a = vs.filterMap refOf := by unfold kids; rw [h]
theorem kids_same {a : Addr} (h : H' a = H a) : kids H' a = kids H a := by unfold kids; rw [h]
theorem mem_deep {a b : Addr} {d : D} (h : b ∈ rch H d (.ref a)) : b ∈ foot H a (.deep d) := by
  by_cases e : b = a
  · subst e; exact foot_head
  · refine List.mem_cons_of_mem _ (List.mem_filter.mpr ⟨mem_nub.mpr h, ?_⟩)
    simpa using e
theorem deep_mem {a b : Addr} {d : D} (h : b ∈ foot H a (.deep d)) : b = a ∨ b ∈ rch H d (.ref a) := by
  rcases List.mem_cons.mp h with h | h
  · exact .inl h
  · exact .inr (mem_nub.mp (List.mem_filter.mp h).1)
theorem deep_nodup {a : Addr} {d : D} : (foot H a (.deep d)).Nodup := by
  refine List.nodup_cons.mpr ⟨fun h => ?_, ?_⟩
  · have := (List.mem_filter.mp h).2
    simp at this
  · exact List.Pairwise.filter _ nub_nodup
theorem foot_same0 {a : Addr} {d : D} (hd : isDeep d = false) (h : H' a = H a) : foot H' a d = foot H a d := by
  cases d with
  | rows rs => show a :: kids H' a = a :: kids H a; rw [kids_same h]
  | deep d => exact nomatch hd
  | _ => rfl
theorem foot_same {a : Addr} {d : D} (o : Own K F H a d) (h : ∀ b ∈ foot H a d, H' b = H b) : foot H' a d = foot H a d := by
  cases d with
  | rows rs => exact foot_same0 rfl (h a foot_head)
  | deep d =>
    have := (OwD.at (Same.refl F) o.1 fun b hb => h b (mem_deep hb)).2
    show a :: (nub (rch H' d (.ref a))).filter _ = a :: (nub (rch H d (.ref a))).filter _
    rw [this]
  | _ => rfl
theorem kid_head {b : Addr} {vs : List V} : (V.ref b :: vs).filterMap refOf = b :: vs.filterMap refOf := by rw [List.filterMap_cons]; rfl
theorem RowsAt.mono (f : Same F F') : ∀ {rs : List D} {vs : List V}, RowsAt K F H rs vs → (∀ b ∈ vs.filterMap refOf, ∀ u, H b = some u → H' b = some u) → RowsAt K F' H' rs vs
  | _, _, .nil, _ => .nil
  | _, _, .cons q r t, e => .cons (e _ (by rw [kid_head]; exact List.mem_cons_self) _ q) (r.mono f) (RowsAt.mono f t fun c hc => e c (by rw [kid_head]; exact List.mem_cons_of_mem _ hc))
theorem RowsAt.there : ∀ {rs : List D} {vs : List V}, RowsAt K F H rs vs → ∀ b ∈ vs.filterMap refOf, ∃ u, H b = some u
  | _, _, .nil, _, h => nomatch h
  | _, _, .cons q r t, b, h => by
    rw [kid_head] at h
    rcases List.mem_cons.mp h with rfl | h
    · exact ⟨_, q⟩
    · exact RowsAt.there t b h
theorem RowsAt.length : ∀ {rs : List D} {vs : List V}, RowsAt K F H rs vs → vs.length = rs.length
  | _, _, .nil => rfl
  | _, _, .cons _ _ t => congrArg (· + 1) (RowsAt.length t)
theorem RowsAt.get : ∀ {rs : List D} {vs : List V} {i : Nat} {d : D}, RowsAt K F H rs vs → rs[i]? = some d → ∃ b us xs, vs[i]? = some (.ref b) ∧ d = .lst xs ∧ H b = some (.lst us) ∧ Reps K F xs us
  | _, _, _, _, .nil, e => by simp at e
  | _, _, 0, _, .cons q r _, e => by simp at e; subst e; exact ⟨_, _, _, rfl, rfl, q, r⟩
  | _, _, i + 1, d, .cons _ _ t, e => by
    obtain ⟨b, us, xs, h1, h2, h3, h4⟩ := RowsAt.get (i := i) (d := d) t (by simpa using e)
    exact ⟨b, us, xs, by simpa using h1, h2, h3, h4⟩
theorem RowsAt.append : ∀ {rs ts : List D} {us ws : List V}, RowsAt K F H rs us → RowsAt K F H ts ws → RowsAt K F H (rs ++ ts) (us ++ ws)
  | _, _, _, _, .nil, s => s
  | _, _, _, _, .cons q r t, s => .cons q r (RowsAt.append t s)
theorem filterMap_mem {vs : List V} {i : Nat} {b : Addr} (h : vs[i]? = some (.ref b)) : b ∈ vs.filterMap refOf := List.mem_filterMap.mpr ⟨.ref b, List.mem_of_getElem? h, rfl⟩
theorem RowsAt.settle : ∀ {rs : List D} {vs : List V} {F : Hp}, RowsAt K F H rs vs → Same F H → (∀ b ∈ vs.filterMap refOf, F b = none) → (vs.filterMap refOf).Nodup →
    ∃ F', Same F F' ∧ Same F' H ∧ Reps K F' rs vs ∧ ∀ c o, F' c = some o → F c = some o ∨ c ∈ vs.filterMap refOf
  | _, _, F, .nil, s, _, _ => ⟨F, Same.refl _, s, .nil, fun _ _ h => .inl h⟩
  | _, _, F, .cons (b := b) (us := us) (vs := vs) q r t, s, hn, nd => by
    have e : (V.ref b :: vs).filterMap refOf = b :: vs.filterMap refOf := by rw [List.filterMap_cons]; rfl
    rw [e] at hn nd
    have nd := List.nodup_cons.mp nd
    have hb := hn b List.mem_cons_self
    have s1 : Same F (upd F b (.lst us)) := same_upd hb
    obtain ⟨F', s2, s3, rr, hk⟩ := RowsAt.settle (RowsAt.mono s1 t fun _ _ _ h => h) (same_settle s q) (fun c hc => by
      rw [upd_ne (fun (z : c = b) => nd.1 (z ▸ hc))]
      exact hn c (List.mem_cons_of_mem _ hc)) nd.2
    refine ⟨F', s1.trans s2, s3, .cons (.lst (s2 _ _ upd_same) ((r.mono s1).mono s2)) rr, fun c o hc => ?_⟩
    rw [e]
    rcases hk c o hc with h | h
    · by_cases z : c = b
      · exact .inr (z ▸ List.mem_cons_self)
      · rw [upd_ne z] at h; exact .inl h
    · exact .inr (List.mem_cons_of_mem _ h)
theorem Rep.view (s : Same F H) {d : D} {v : V} (r : Rep K F d v) : View K F H d v := by
  cases r with
  | non => rfl
  | bl b => rfl
  | int b => rfl
  | str b => rfl
  | ref b => rfl
  | lst q r => exact ⟨_, _, rfl, s _ _ q, r⟩
  | scr q => exact ⟨_, rfl, s.seq q⟩
  | tup q r => exact ⟨_, _, rfl, s _ _ q, r⟩
  | dK q r => exact ⟨_, _, rfl, Same.rd s q, r⟩
  | dT q r => exact ⟨_, _, rfl, Same.rd s q, r⟩
  | rows q r => exact ⟨_, _, rfl, s _ _ q, .inl r⟩
  | exn n q => exact ⟨_, _, rfl, n, s _ _ q⟩
  | deep d a => exact ⟨a, rfl⟩
  | obj h => exact ⟨_, rfl, h⟩
theorem View.mono (f : Same F F') (h : Same H H') {d : D} {v : V} (r : View K F H d v) : View K F' H' d v := by
  cases d with
  | lst ds => obtain ⟨a, vs, e, q, r⟩ := r; exact ⟨a, vs, e, h _ _ q, r.mono f⟩
  | scr ns => obtain ⟨a, e, q⟩ := r; exact ⟨a, e, h.seq q⟩
  | tup ds => obtain ⟨a, vs, e, q, r⟩ := r; exact ⟨a, vs, e, h _ _ q, r.mono f⟩
  | dK ds => obtain ⟨a, vs, e, q, r⟩ := r; exact ⟨a, vs, e, Same.rd h q, r.mono f⟩
  | dT ds => obtain ⟨a, vs, e, q, r⟩ := r; exact ⟨a, vs, e, Same.rd h q, r.mono f⟩
  | exn c => obtain ⟨a, C, e, n, q⟩ := r; exact ⟨a, C, e, n, h _ _ q⟩
  | deep d => exact r
  | junk n => exact r.elim
  | rows ds =>
    obtain ⟨a, vs, e, q, r⟩ := r
    refine ⟨a, vs, e, h _ _ q, ?_⟩
    rcases r with r | r
    · exact .inl (r.mono f)
    · exact .inr (r.mono f fun _ _ _ e => h _ _ e)
  | _ => exact r
theorem Own.view {a : Addr} {d : D} (o : Own K F H a d) : View K F H d (.ref a) := by
  cases d with
  | lst ds => obtain ⟨vs, q, r⟩ := o; exact ⟨a, vs, rfl, q, r⟩
  | dK ds => obtain ⟨vs, q, r⟩ := o; exact ⟨a, vs, rfl, .inl q, r⟩
  | dT ds => obtain ⟨vs, q, r⟩ := o; exact ⟨a, vs, rfl, .inl q, r⟩
  | rows ds => obtain ⟨vs, q, r⟩ := o; exact ⟨a, vs, rfl, q, .inr r⟩
  | deep d => exact ⟨a, rfl⟩
  | _ => exact o.elim
theorem OwD.root {a : Addr} {d : D} (o : OwD K F H d (.ref a)) (h : tO1 d = false) : a ∈ rch H d (.ref a) := by
  cases o with
  | set z r => rw [z] at h; cases h
  | lst q t => simp only [rch]; exact List.mem_cons_self
  | tup z q t => simp only [rch, z, Bool.false_eq_true, if_false]; exact List.mem_cons_self
  | junk q l => simp only [rch]; exact List.mem_cons_self
theorem Own.there {a : Addr} {d : D} (o : Own K F H a d) : ∃ u, H a = some u := by
  cases d with
  | lst ds => obtain ⟨vs, q, r⟩ := o; exact ⟨_, q⟩
  | dK ds => obtain ⟨vs, q, r⟩ := o; exact ⟨_, q⟩
  | dT ds => obtain ⟨vs, q, r⟩ := o; exact ⟨_, q⟩
  | rows ds => obtain ⟨vs, q, r⟩ := o; exact ⟨_, q⟩
  | deep d => exact o.1.there a (o.1.root o.2)
  | _ => exact o.elim
theorem Own.foot {a : Addr} {d : D} (o : Own K F H a d) : ∀ b ∈ foot H a d, ∃ u, H b = some u := fun b hb => by
  rcases List.mem_cons.mp hb with rfl | hb
  · exact o.there
  · cases d with
    | rows ds =>
      obtain ⟨vs, q, r⟩ := o
      have hb : b ∈ kids H a := hb
      rw [kids_at q] at hb
      exact r.there b hb
    | deep d => exact o.1.there b (mem_nub.mp (List.mem_filter.mp hb).1)
    | _ => exact absurd hb List.not_mem_nil
theorem Own.isC {a : Addr} {d : D} (o : Own K F H a d) : isC d = true := by
  cases d <;> first | rfl | exact o.elim
theorem Own.at {a : Addr} {d : D} (f : Same F F') (e : ∀ b ∈ DL.foot H a d, ∀ u, H b = some u → H' b = some u) (o : Own K F H a d) : Own K F' H' a d := by
  have e0 := e a foot_head
  cases d with
  | lst ds => obtain ⟨vs, q, r⟩ := o; exact ⟨vs, e0 _ q, r.mono f⟩
  | dK ds => obtain ⟨vs, q, r⟩ := o; exact ⟨vs, e0 _ q, r.mono f⟩
  | dT ds => obtain ⟨vs, q, r⟩ := o; exact ⟨vs, e0 _ q, r.mono f⟩
  | rows ds =>
    obtain ⟨vs, q, r⟩ := o
    refine ⟨vs, e0 _ q, r.mono f fun b hb => e b (List.mem_cons_of_mem _ ?_)⟩
    show b ∈ kids H a
    rw [kids_at q]
    exact hb
  | deep d =>
    refine ⟨(OwD.at f o.1 fun b hb => ?_).1, o.2⟩
    obtain ⟨u, hu⟩ := o.1.there b hb
    exact (e b (mem_deep hb) u hu).trans hu.symm
  | _ => exact o.elim
theorem Own.mono {a : Addr} {d : D} (f : Same F F') (h : Same H H') (o : Own K F H a d) : Own K F' H' a d := o.at f fun b _ u e => h b u e
theorem Own.settle {a : Addr} {d : D} (o : Own K F H a d) (s : Same F H) (n : ∀ b ∈ DL.foot H a d, F b = none) (nd : (DL.foot H a d).Nodup) : ∃ F', Same F F' ∧ Same F' H ∧ Rep K F' d (.ref a) ∧ ∀ c o, F' c = some o → F c = some o ∨ c ∈ DL.foot H a d := by
  have one : ∀ u, H a = some u → Same F (upd F a u) ∧ Same (upd F a u) H ∧ ∀ c o, upd F a u c = some o → F c = some o ∨ c ∈ DL.foot H a d := fun u q => ⟨same_upd (n a foot_head), same_settle s q, fun c o h => by
    by_cases z : c = a
    · exact .inr (z ▸ foot_head)
    · rw [upd_ne z] at h; exact .inl h⟩
  cases d with
  | lst ds => obtain ⟨vs, q, r⟩ := o; obtain ⟨s1, s2, s3⟩ := one _ q; exact ⟨_, s1, s2, .lst upd_same (r.mono s1), s3⟩
  | dK ds => obtain ⟨vs, q, r⟩ := o; obtain ⟨s1, s2, s3⟩ := one _ q; exact ⟨_, s1, s2, .dK (.inl upd_same) (r.mono s1), s3⟩
  | dT ds => obtain ⟨vs, q, r⟩ := o; obtain ⟨s1, s2, s3⟩ := one _ q; exact ⟨_, s1, s2, .dT (.inl upd_same) (r.mono s1), s3⟩
  | rows ds =>
    obtain ⟨vs, q, r⟩ := o
    have ef : DL.foot H a (.rows ds) = a :: vs.filterMap refOf := by rw [foot_rows, kids_at q]
    rw [ef] at n nd ⊢
    have nd := List.nodup_cons.mp nd
    have n0 := n a List.mem_cons_self
    have s1 : Same F (upd F a (.lst vs)) := same_upd n0
    obtain ⟨F', s2, s3, rr, hk⟩ := (r.mono (H' := H) s1 fun _ _ _ h => h).settle (same_settle s q) (fun c hc => by
      rw [upd_ne (fun (z : c = a) => nd.1 (z ▸ hc))]
      exact n c (List.mem_cons_of_mem _ hc)) nd.2
    refine ⟨F', s1.trans s2, s3, .rows (s2 _ _ upd_same) rr, fun c o hc => ?_⟩
    rcases hk c o hc with h | h
    · by_cases z : c = a
      · exact .inr (z ▸ List.mem_cons_self)
      · rw [upd_ne z] at h; exact .inl h
    · exact .inr (List.mem_cons_of_mem _ h)
  | deep d =>
    obtain ⟨o1, o2⟩ := o
    let F' : Hp := fun b => if b ∈ DL.foot H a (.deep d) then H b else F b
    have s1 : Same F F' := fun b u h => by
      show (if _ then _ else _) = _
      rw [if_neg (fun z => by rw [n b z] at h; cases h)]
      exact h
    have s2 : Same F' H := fun b u h => by
      by_cases z : b ∈ DL.foot H a (.deep d)
      · have h : (if b ∈ DL.foot H a (.deep d) then H b else F b) = some u := h
        rwa [if_pos z] at h
      · have h : (if b ∈ DL.foot H a (.deep d) then H b else F b) = some u := h
        rw [if_neg z] at h
        exact s _ _ h
    refine ⟨F', s1, s2, .deep d a, fun c o h => ?_⟩
    by_cases z : c ∈ DL.foot H a (.deep d)
    · exact .inr z
    · have h : (if c ∈ DL.foot H a (.deep d) then H c else F c) = some o := h
      rw [if_neg z] at h
      exact .inl h
  | _ => exact o.elim
theorem New.own {H0 : Hp} {d : D} {v : V} (h : isC d = true) (r : New K H0 F H d v) : ∃ a, v = .ref a ∧ (∀ b ∈ DL.foot H a d, H0 b = none ∧ F b = none) ∧ (DL.foot H a d).Nodup ∧ Own K F H a d := by
  unfold New at r
  rw [if_pos h] at r
  split at r
  · exact r
  · rename_i hr
    obtain ⟨a, e, n, n', o⟩ := r
    rw [Bool.not_eq_true] at hr
    refine ⟨a, e, ?_, ?_, o⟩
    · rw [foot_one hr]
      intro b hb
      rw [List.mem_singleton.mp hb]
      exact ⟨n, n'⟩
    · rw [foot_one hr]
      simp
theorem New.mk {H0 : Hp} {d : D} {a : Addr} (n : ∀ b ∈ DL.foot H a d, H0 b = none ∧ F b = none) (nd : (DL.foot H a d).Nodup) (o : Own K F H a d) : New K H0 F H d (.ref a) := by
  unfold New
  rw [if_pos o.isC]
  split
  · exact ⟨a, rfl, n, nd, o⟩
  · exact ⟨a, rfl, (n a foot_head).1, (n a foot_head).2, o⟩
theorem New.isRep {H0 : Hp} {d : D} {v : V} (h : isC d = false) (r : New K H0 F H d v) : Rep K F d v := by
  unfold New at r
  rw [h] at r
  exact r
theorem New.view {H0 : Hp} {d : D} {v : V} (s : Same F H) (r : New K H0 F H d v) : View K F H d v := by
  cases h : isC d with
  | true => obtain ⟨a, rfl, _, _, o⟩ := r.own h; exact o.view
  | false => exact (r.isRep h).view s
theorem New.rep {H0 : Hp} {d : D} {v : V} (s : Same F' H') (x : Ext F H0 F' H') (r : New K H0 F' H' d v) : ∃ F'', Ext F H0 F'' H' ∧ Same F' F'' ∧ Same F'' H' ∧ Rep K F'' d v := by
  cases h : isC d with
  | true =>
    obtain ⟨a, rfl, n, nd, o⟩ := r.own h
    obtain ⟨F2, s1, s2, r, hk⟩ := o.settle s (fun b hb => (n b hb).2) nd
    exact ⟨F2, ⟨x.f.trans s1, x.h, fun c u e => by
      rcases hk c u e with z | z
      · exact x.n c u z
      · exact .inr (n c z).1⟩, s1, s2, r⟩
  | false => exact ⟨F', x, Same.refl _, s, r.isRep h⟩
theorem New.of_rep {H0 : Hp} {d : D} {v : V} (h : isC d = false) (r : Rep K F d v) : New K H0 F H d v := by
  unfold New; rw [h]; exact r
end
inductive Cell where
  | ins (c : Nat) (fs : List D) | lst (ds : List D) | dK (kvs : List (Key × D)) | dT (kvs : List (List Key × D))
abbrev Wd := List Cell
def clsT : Nat → Str × List Str
  | 0 => (Str.ofString "Staff", [Str.ofString "crew", Str.ofString "chain", Str.ofString "book", Str.ofString "tempo"])
  | 1 => (Str.ofString "Office", [Str.ofString "team", Str.ofString "forms", Str.ofString "cases"])
  | 2 => (Str.ofString "Case", [Str.ofString "parts", Str.ofString "rows", Str.ofString "bonds", Str.ofString "marks"])
  | _ => (Str.ofString "Desk", [Str.ofString "crew_kept", Str.ofString "hall"])
def CellAt (K : Kx) (F H : Hp) (a : Addr) : Cell → Prop
  | .ins c fs => ∃ (dx : Addr) (vs : List (Str × V)), H a = some (.ins (clsOf K.fr (clsT c).1) dx vs) ∧ H dx = some (.own a) ∧ vs.map (·.1) = (clsT c).2.take fs.length ∧ Reps K F fs (vs.map (·.2))
  | .lst ds => ∃ vs, H a = some (.lst vs) ∧ Reps K F ds vs
  | .dK kds => ∃ kvs, Rd H a (.dK kvs) ∧ RepK K F kds kvs
  | .dT kds => ∃ kvs, Rd H a (.dT kvs) ∧ RepT K F kds kvs
def WV (K : Kx) (F H : Hp) (W : Wd) : Prop := ∀ (k : Nat) (c : Cell), W[k]? = some c → ∃ a, K.as[k]? = some a ∧ CellAt K F H a c
theorem WV.nil {K : Kx} {F H : Hp} : WV K F H [] := fun k c h => by simp at h
theorem CellAt.mono {K : Kx} {F H F' H' : Hp} {a : Addr} {c : Cell} (f : Same F F') (h : Same H H') (w : CellAt K F H a c) : CellAt K F' H' a c := by
  cases c with
  | ins c fs => obtain ⟨dx, vs, h1, h2, h3, h4⟩ := w; exact ⟨dx, vs, h _ _ h1, h _ _ h2, h3, h4.mono f⟩
  | lst ds => obtain ⟨vs, h1, h2⟩ := w; exact ⟨vs, h _ _ h1, h2.mono f⟩
  | dK ds => obtain ⟨vs, h1, h2⟩ := w; exact ⟨vs, Same.rd h h1, h2.mono f⟩
  | dT ds => obtain ⟨vs, h1, h2⟩ := w; exact ⟨vs, Same.rd h h1, h2.mono f⟩
theorem WV.mono {K : Kx} {F H F' H' : Hp} {W : Wd} (f : Same F F') (h : Same H H') (w : WV K F H W) : WV K F' H' W := fun k c e => by
  obtain ⟨a, h1, h2⟩ := w k c e
  exact ⟨a, h1, h2.mono f h⟩
abbrev En := List (Option (Bool × D))
structure Cd where
  K : Kx
  F0 : Hp
  H0 : Hp
  XW : Str → L2.St → Hp → Prop
  ln : Nat → Option (D × V)
  io : List Addr
  wd : Wd
structure Rel (C : Cd) (ρ : En) (σ : L2.St) (F H : Hp) : Prop where
  ext : Ext C.F0 C.H0 F H
  sub : Same F H
  len : σ.length = ρ.length
  slot : ∀ (i : Nat) (d : D), ρ[i]? = some (some (false, d)) → ∃ v, σ[i]? = some (some v) ∧ Rep C.K F d v
  ownF : ∀ (i : Nat) (d : D), ρ[i]? = some (some (true, d)) → ∃ a, σ[i]? = some (some (.ref a)) ∧ (∀ b ∈ foot H a d, F b = none ∧ C.H0 b = none) ∧ (foot H a d).Nodup ∧ Own C.K F H a d
  apartF : ∀ (i j : Nat) (d e : D) (a b c : Addr), ρ[i]? = some (some (true, d)) → ρ[j]? = some (some (true, e)) → σ[i]? = some (some (.ref a)) → σ[j]? = some (some (.ref b)) → c ∈ foot H a d → c ∈ foot H b e → i = j
  lend : ∀ (i : Nat) (d : D) (v : V), C.ln i = some (d, v) → σ[i]? = some (some v) ∧ View C.K C.F0 C.H0 d v
  wok : WV C.K C.F0 C.H0 C.wd
section
variable {C : Cd} {ρ : En} {σ : L2.St} {F H F' H' : Hp}
theorem Rel.own (r : Rel C ρ σ F H) (i : Nat) (d : D) (h : ρ[i]? = some (some (true, d))) : ∃ a, σ[i]? = some (some (.ref a)) ∧ F a = none ∧ C.H0 a = none ∧ Own C.K F H a d := by
  obtain ⟨a, q, n, _, o⟩ := r.ownF i d h
  exact ⟨a, q, (n a foot_head).1, (n a foot_head).2, o⟩
theorem foot_grow {a : Addr} {d : D} (h : Same H H') (o : Own C.K F H a d) : foot H' a d = foot H a d := by
  refine foot_same o fun b hb => ?_
  obtain ⟨u, hu⟩ := o.foot b hb
  exact (h _ _ hu).trans hu.symm
theorem Rel.grow (r : Rel C ρ σ F H) (x : Ext F H F' H') (s : Same F' H') : Rel C ρ σ F' H' where
  ext := r.ext.trans x
  sub := s
  len := r.len
  slot := fun i d e => by obtain ⟨v, q, z⟩ := r.slot i d e; exact ⟨v, q, z.mono x.f⟩
  ownF := fun i d e => by
    obtain ⟨a, q, n, nd, o⟩ := r.ownF i d e
    rw [← foot_grow x.h o] at nd
    refine ⟨a, q, fun b hb => ?_, nd, o.mono x.f x.h⟩
    rw [foot_grow x.h o] at hb
    obtain ⟨u, hu⟩ := o.foot b hb
    exact ⟨x.keepN hu (n b hb).1, (n b hb).2⟩
  apartF := fun i j d e a b c h1 h2 h3 h4 h5 h6 => by
    obtain ⟨a', q, _, _, o⟩ := r.ownF i d h1
    rw [h3] at q
    cases q
    obtain ⟨b', q, _, _, o'⟩ := r.ownF j e h2
    rw [h4] at q
    cases q
    rw [foot_grow x.h o] at h5
    rw [foot_grow x.h o'] at h6
    exact r.apartF i j d e a b c h1 h2 h3 h4 h5 h6
  wok := r.wok
  lend := r.lend
theorem Rel.view (r : Rel C ρ σ F H) {i : Nat} {b : Bool} {d : D} (e : ρ[i]? = some (some (b, d))) : ∃ v, σ[i]? = some (some v) ∧ View C.K F H d v := by
  cases b with
  | false => obtain ⟨v, q, z⟩ := r.slot i d e; exact ⟨v, q, z.view r.sub⟩
  | true => obtain ⟨a, q, n, n0, o⟩ := r.own i d e; exact ⟨_, q, o.view⟩
theorem get_set {α : Type} {l : List α} {i j : Nat} {x y : α} (h : (l.set i x)[j]? = some y) : (i = j ∧ y = x) ∨ (i ≠ j ∧ l[j]? = some y) := by
  by_cases e : i = j
  · subst e
    rw [List.getElem?_set] at h
    simp at h
    exact .inl ⟨rfl, h.2.symm⟩
  · right; rw [List.getElem?_set_ne e] at h; exact ⟨e, h⟩
theorem Rel.lt (r : Rel C ρ σ F H) {i : Nat} {x : Option (Bool × D)} (h : ρ[i]? = some x) : i < σ.length := by
  rw [r.len]
  exact (List.getElem?_eq_some_iff.mp h).1
theorem Rel.set (r : Rel C ρ σ F H) {i : Nat} {d : D} {v : V} (q : Rep C.K F d v) (hl : C.ln i = none) : Rel C (ρ.set i (some (false, d))) (σ.set i (some v)) F H where
  ext := r.ext
  sub := r.sub
  len := by rw [List.length_set, List.length_set]; exact r.len
  slot := fun j e h => by
    rcases get_set h with ⟨rfl, z⟩ | ⟨n, z⟩
    · cases z
      refine ⟨v, ?_, q⟩
      rw [List.getElem?_set_self]
      rw [r.len]
      have := (List.getElem?_eq_some_iff.mp h).1
      simpa using this
    · obtain ⟨w, z1, z2⟩ := r.slot j e z
      exact ⟨w, by rw [List.getElem?_set_ne n]; exact z1, z2⟩
  ownF := fun j e h => by
    rcases get_set h with ⟨rfl, z⟩ | ⟨n, z⟩
    · cases z
    · obtain ⟨a, z1, z2⟩ := r.ownF j e z
      exact ⟨a, by rw [List.getElem?_set_ne n]; exact z1, z2⟩
  apartF := fun j k d' e a b c h1 h2 h3 h4 h5 h6 => by
    rcases get_set h1 with ⟨rfl, z⟩ | ⟨n, z⟩
    · cases z
    · rcases get_set h2 with ⟨rfl, z'⟩ | ⟨n', z'⟩
      · cases z'
      · rw [List.getElem?_set_ne n] at h3
        rw [List.getElem?_set_ne n'] at h4
        exact r.apartF j k _ _ a b c z z' h3 h4 h5 h6
  wok := r.wok
  lend := fun j d' w h => by
    obtain ⟨z1, z2⟩ := r.lend j d' w h
    exact ⟨by rw [List.getElem?_set_ne (fun e => by subst e; rw [hl] at h; cases h)]; exact z1, z2⟩
theorem Rel.setO (r : Rel C ρ σ F H) {i : Nat} {d : D} {a : Addr} (hl : C.ln i = none) (n : ∀ b ∈ foot H a d, F b = none ∧ C.H0 b = none) (nd : (foot H a d).Nodup) (o : Own C.K F H a d) (ap : ∀ (j : Nat) (e : D) (b c : Addr), ρ[j]? = some (some (true, e)) → σ[j]? = some (some (.ref b)) → c ∈ foot H a d → c ∈ foot H b e → False) :
    Rel C (ρ.set i (some (true, d))) (σ.set i (some (.ref a))) F H where
  ext := r.ext
  sub := r.sub
  len := by rw [List.length_set, List.length_set]; exact r.len
  slot := fun j e h => by
    rcases get_set h with ⟨rfl, z⟩ | ⟨n, z⟩
    · cases z
    · obtain ⟨w, z1, z2⟩ := r.slot j e z
      exact ⟨w, by rw [List.getElem?_set_ne n]; exact z1, z2⟩
  ownF := fun j e h => by
    rcases get_set h with ⟨rfl, z⟩ | ⟨nn, z⟩
    · cases z
      refine ⟨a, ?_, n, nd, o⟩
      rw [List.getElem?_set_self]
      rw [r.len]
      have := (List.getElem?_eq_some_iff.mp h).1
      simpa using this
    · obtain ⟨b, z1, z2⟩ := r.ownF j e z
      exact ⟨b, by rw [List.getElem?_set_ne nn]; exact z1, z2⟩
  apartF := fun j k d' e b b' c h1 h2 h3 h4 h5 h6 => by
    rcases get_set h1 with ⟨rfl, z⟩ | ⟨n, z⟩
    · rcases get_set h2 with ⟨rfl, z'⟩ | ⟨n', z'⟩
      · rfl
      · rw [List.getElem?_set_ne n'] at h4
        cases z
        rcases get_set h3 with ⟨_, q⟩ | ⟨q, _⟩
        · cases q
          exact (ap k _ _ c z' h4 h5 h6).elim
        · exact absurd rfl q
    · rcases get_set h2 with ⟨rfl, z'⟩ | ⟨n', z'⟩
      · rw [List.getElem?_set_ne n] at h3
        cases z'
        rcases get_set h4 with ⟨_, q⟩ | ⟨q, _⟩
        · cases q
          exact (ap j _ _ c z h3 h6 h5).elim
        · exact absurd rfl q
      · rw [List.getElem?_set_ne n] at h3
        rw [List.getElem?_set_ne n'] at h4
        exact r.apartF j k _ _ b b' c z z' h3 h4 h5 h6
  wok := r.wok
  lend := fun j d' w h => by
    obtain ⟨z1, z2⟩ := r.lend j d' w h
    exact ⟨by rw [List.getElem?_set_ne (fun e => by subst e; rw [hl] at h; cases h)]; exact z1, z2⟩
theorem Rel.forget (r : Rel C ρ σ F H) (i : Nat) (x : Option V) (hl : C.ln i = none) : Rel C (ρ.set i none) (σ.set i x) F H where
  ext := r.ext
  sub := r.sub
  len := by rw [List.length_set, List.length_set]; exact r.len
  slot := fun j e h => by
    rcases get_set h with ⟨rfl, z⟩ | ⟨n, z⟩
    · cases z
    · obtain ⟨w, z1, z2⟩ := r.slot j e z
      exact ⟨w, by rw [List.getElem?_set_ne n]; exact z1, z2⟩
  ownF := fun j e h => by
    rcases get_set h with ⟨rfl, z⟩ | ⟨n, z⟩
    · cases z
    · obtain ⟨a, z1, z2⟩ := r.ownF j e z
      exact ⟨a, by rw [List.getElem?_set_ne n]; exact z1, z2⟩
  apartF := fun j k d' e a b c h1 h2 h3 h4 h5 h6 => by
    rcases get_set h1 with ⟨rfl, z⟩ | ⟨n, z⟩
    · cases z
    · rcases get_set h2 with ⟨rfl, z'⟩ | ⟨n', z'⟩
      · cases z'
      · rw [List.getElem?_set_ne n] at h3
        rw [List.getElem?_set_ne n'] at h4
        exact r.apartF j k _ _ a b c z z' h3 h4 h5 h6
  wok := r.wok
  lend := fun j d' w h => by
    obtain ⟨z1, z2⟩ := r.lend j d' w h
    exact ⟨by rw [List.getElem?_set_ne (fun e => by subst e; rw [hl] at h; cases h)]; exact z1, z2⟩
theorem Rel.settleP (r : Rel C ρ σ F H) {i : Nat} {d : D} {a : Addr} {bs : List Addr} (e : ρ[i]? = some (some (true, d))) (q : σ[i]? = some (some (.ref a))) (hb : ∀ b ∈ bs, b ∈ foot H a d) (s1 : Same F F') (s2 : Same F' H) (hk : ∀ c o, F' c = some o → F c = some o ∨ c ∈ bs) : Rel C (ρ.set i none) σ F' H where
  ext := ⟨r.ext.f.trans s1, r.ext.h, fun b x h => by
    rcases hk b x h with z | z
    · exact r.ext.n b x z
    · obtain ⟨a', q', n, _, _⟩ := r.ownF i d e
      rw [q] at q'
      cases q'
      exact .inr (n b (hb b z)).2⟩
  sub := s2
  len := by rw [List.length_set]; exact r.len
  slot := fun j e' h => by
    rcases get_set h with ⟨rfl, z⟩ | ⟨nn, z⟩
    · cases z
    · obtain ⟨w, z1, z2⟩ := r.slot j e' z
      exact ⟨w, z1, z2.mono s1⟩
  ownF := fun j e' h => by
    rcases get_set h with ⟨rfl, z⟩ | ⟨nn, z⟩
    · cases z
    · obtain ⟨b, z1, z2, z3, z4⟩ := r.ownF j e' z
      refine ⟨b, z1, fun c hc => ⟨?_, (z2 c hc).2⟩, z3, z4.mono s1 (Same.refl _)⟩
      cases hF : F' c with
      | none => rfl
      | some o =>
        rcases hk c o hF with y | y
        · rw [(z2 c hc).1] at y; cases y
        · exact absurd (r.apartF i j _ _ a b c e z q z1 (hb c y) hc) nn
  apartF := fun j k d' e' b b' c h1 h2 h3 h4 h5 h6 => by
    rcases get_set h1 with ⟨rfl, z⟩ | ⟨n, z⟩
    · cases z
    · rcases get_set h2 with ⟨rfl, z'⟩ | ⟨n', z'⟩
      · cases z'
      · exact r.apartF j k _ _ b b' c z z' h3 h4 h5 h6
  wok := r.wok
  lend := r.lend
theorem Rel.settle1 (r : Rel C ρ σ F H) {i : Nat} {d : D} (e : ρ[i]? = some (some (true, d))) : ∃ F', Same F F' ∧ Rel C (ρ.set i (some (false, d))) σ F' H := by
  obtain ⟨a, q, n, nd, o⟩ := r.ownF i d e
  obtain ⟨F2, s1, s2, rp, hk⟩ := o.settle r.sub (fun b hb => (n b hb).1) nd
  have r2 := r.settleP e q (fun _ h => h) s1 s2 hk
  refine ⟨F2, s1, ⟨r2.ext, r2.sub, by rw [List.length_set]; exact r.len, fun j e' h => ?_, fun j e' h => ?_, fun j k d' e' b b' c h1 h2 h3 h4 h5 h6 => ?_, r.lend, r.wok⟩⟩
  · rcases get_set h with ⟨rfl, z⟩ | ⟨nn, z⟩
    · cases z
      exact ⟨_, q, rp⟩
    · exact r2.slot j e' (by rw [List.getElem?_set_ne nn]; exact z)
  · rcases get_set h with ⟨rfl, z⟩ | ⟨nn, z⟩
    · cases z
    · exact r2.ownF j e' (by rw [List.getElem?_set_ne nn]; exact z)
  · rcases get_set h1 with ⟨rfl, z⟩ | ⟨n1, z⟩
    · cases z
    · rcases get_set h2 with ⟨rfl, z'⟩ | ⟨n2, z'⟩
      · cases z'
      · exact r.apartF j k _ _ b b' c z z' h3 h4 h5 h6
def settle (ρ : En) : List Nat → En
  | [] => ρ
  | i :: is => match ρ[i]? with
    | some (some (true, d)) => settle (ρ.set i (some (false, d))) is
    | _ => settle ρ is
theorem Rel.settle : ∀ (is : List Nat) {ρ : En} {F : Hp}, Rel C ρ σ F H → ∃ F', Same F F' ∧ Rel C (settle ρ is) σ F' H
  | [], _, F, r => ⟨F, Same.refl _, r⟩
  | i :: is, ρ, F, r => by
    unfold DL.settle
    split
    · rename_i d e
      obtain ⟨F', sf, r'⟩ := r.settle1 e
      obtain ⟨F2, sf2, r2⟩ := Rel.settle is r'
      exact ⟨F2, sf.trans sf2, r2⟩
    · exact Rel.settle is r
theorem Rel.writeF (r : Rel C ρ σ F H) {i : Nat} {d d' : D} {a : Addr} (e : ρ[i]? = some (some (true, d))) (q : σ[i]? = some (some (.ref a)))
    (hH : ∀ c, H' c ≠ H c → (c ∈ foot H a d ∨ H c = none) ∧ F c = none ∧ C.H0 c = none) (o' : Own C.K F H' a d') (n' : ∀ b ∈ foot H' a d', F b = none ∧ C.H0 b = none) (nd' : (foot H' a d').Nodup) (hf : ∀ c ∈ foot H' a d', c ∈ foot H a d ∨ ∀ (k : Nat) (e1 : D) (b' : Addr), ρ[k]? = some (some (true, e1)) → σ[k]? = some (some (.ref b')) → c ∉ foot H b' e1) : Rel C (ρ.set i (some (true, d'))) σ F H' := by
  have keep : ∀ (j : Nat) (e' : D) (b c : Addr), i ≠ j → ρ[j]? = some (some (true, e')) → σ[j]? = some (some (.ref b)) → c ∈ foot H b e' → H' c = H c := fun j e' b c hij hj hq hc => by
    by_cases hh : H' c = H c
    · exact hh
    · obtain ⟨h1, _, _⟩ := hH c hh
      rcases h1 with h1 | h1
      · exact absurd (r.apartF i j _ _ a b c e hj q hq h1 hc) hij
      · obtain ⟨b', q', _, _, o⟩ := r.ownF j e' hj
        rw [hq] at q'
        cases q'
        obtain ⟨u, hu⟩ := o.foot c hc
        rw [h1] at hu; cases hu
  have keepf : ∀ (j : Nat) (e' : D) (b : Addr), i ≠ j → ρ[j]? = some (some (true, e')) → σ[j]? = some (some (.ref b)) → foot H' b e' = foot H b e' := fun j e' b hij hj hq => by
    obtain ⟨b', q', _, _, o⟩ := r.ownF j e' hj
    rw [hq] at q'
    cases q'
    exact foot_same o fun c hc => keep j e' b c hij hj hq hc
  refine ⟨⟨r.ext.f, fun b x h => ?_, r.ext.n⟩, fun b x h => ?_, by rw [List.length_set]; exact r.len, fun j e' h => ?_, fun j e' h => ?_, fun j k d1 e1 b b' c h1 h2 h3 h4 h5 h6 => ?_, r.lend, r.wok⟩
  · by_cases hh : H' b = H b
    · rw [hh]; exact r.ext.h b x h
    · rw [(hH b hh).2.2] at h; cases h
  · by_cases hh : H' b = H b
    · rw [hh]; exact r.sub b x h
    · rw [(hH b hh).2.1] at h; cases h
  · rcases get_set h with ⟨rfl, z⟩ | ⟨nn, z⟩
    · cases z
    · exact r.slot j e' z
  · rcases get_set h with ⟨rfl, z⟩ | ⟨nn, z⟩
    · cases z
      exact ⟨a, q, n', nd', o'⟩
    · obtain ⟨b, z1, z2, z3, z4⟩ := r.ownF j e' z
      have ef := keepf j e' b nn z z1
      refine ⟨b, z1, by rw [ef]; exact z2, by rw [ef]; exact z3, z4.at (Same.refl _) fun c hc u hu => ?_⟩
      rw [keep j e' b c nn z z1 hc]; exact hu
  · have cross : ∀ (k : Nat) (e1 : D) (b' c : Addr), i ≠ k → ρ[k]? = some (some (true, e1)) → σ[k]? = some (some (.ref b')) → c ∈ foot H' a d' → c ∈ foot H' b' e1 → False := fun k e1 b' c hik hk hq h5 h6 => by
      rw [keepf k e1 b' hik hk hq] at h6
      rcases hf c h5 with y | y
      · exact hik (r.apartF i k _ _ a b' c e hk q hq y h6)
      · exact y k e1 b' hk hq h6
    rcases get_set h1 with ⟨rfl, z⟩ | ⟨n1, z⟩
    · rcases get_set h2 with ⟨rfl, z'⟩ | ⟨n2, z'⟩
      · rfl
      · cases z
        rw [q] at h3
        cases h3
        exact (cross k e1 b' c n2 z' h4 h5 h6).elim
    · rcases get_set h2 with ⟨rfl, z'⟩ | ⟨n2, z'⟩
      · cases z'
        rw [q] at h4
        cases h4
        exact (cross j d1 b c n1 z h3 h6 h5).elim
      · rw [keepf j d1 b n1 z h3] at h5
        rw [keepf k e1 b' n2 z' h4] at h6
        exact r.apartF j k _ _ b b' c z z' h3 h4 h5 h6
theorem Rel.write (r : Rel C ρ σ F H) {i : Nat} {d d' : D} {a : Addr} {u : HO} (e : ρ[i]? = some (some (true, d))) (q : σ[i]? = some (some (.ref a))) (o' : Own C.K F (upd H a u) a d') (hr : isRows d' = false := by rfl) : Rel C (ρ.set i (some (true, d'))) σ F (upd H a u) := by
  obtain ⟨a', q', n, nd, o⟩ := r.ownF i d e
  rw [q] at q'
  cases q'
  refine r.writeF e q (fun c hc => ?_) o' (fun b hb => ?_) (by rw [foot_one hr]; simp) fun b hb => ?_
  · have : c = a := by
      by_cases z : c = a
      · exact z
      · exact absurd (upd_ne z) hc
    subst this
    exact ⟨.inl foot_head, n c foot_head⟩
  · rw [foot_one hr] at hb
    rw [List.mem_singleton.mp hb]
    exact n a foot_head
  · rw [foot_one hr] at hb
    rw [List.mem_singleton.mp hb]
    exact .inl foot_head
end
def Out (C : Cd) (σ : L2.St) (F H : Hp) (W : Hp → Hp → D → V → Prop) (x : R D) (Q : VK) : Prop := match x with
  | .ok d => ∀ v F' H', Ext F H F' H' → Same F' H' → W F' H' d v → Q v H'
  | .err c => ∀ F' H', Ext F H F' H' → Same F' H' → C.XW c σ H'
  | .bad => False
def OutA (C : Cd) (σ : L2.St) (F H : Hp) (x : R (List D)) (Q : List V → Hp → Prop) : Prop := match x with
  | .ok d => ∀ v F' H', Ext F H F' H' → Same F' H' → Reps C.K F' d v → Q v H'
  | .err c => ∀ F' H', Ext F H F' H' → Same F' H' → C.XW c σ H'
  | .bad => False
def OutT (C : Cd) (σ : L2.St) (F H : Hp) (x : R Bool) (Q : Bool → Hp → Prop) : Prop := match x with
  | .ok d => ∀ F' H', Ext F H F' H' → Same F' H' → Q d H'
  | .err c => ∀ F' H', Ext F H F' H' → Same F' H' → C.XW c σ H'
  | .bad => False
def tR (C : Cd) (f : En → R D) : TE := fun σ H Q => ∃ ρ F, Rel C ρ σ F H ∧ Out C σ F H (fun F' H' => View C.K F' H') (f ρ) Q
def tE (C : Cd) (f : En → R D) : TE := fun σ H Q => ∃ ρ F, Rel C ρ σ F H ∧ Out C σ F H (fun F' H' => Rep C.K F') (f ρ) Q
def tO (C : Cd) (f : En → R D) : TE := fun σ H Q => ∃ ρ F, Rel C ρ σ F H ∧ Out C σ F H (fun F' H' => New C.K H F' H') (f ρ) Q
def tA (C : Cd) (f : En → R (List D)) : TA := fun σ H Q => ∃ ρ F, Rel C ρ σ F H ∧ OutA C σ F H (f ρ) Q
def tT (C : Cd) (f : En → R Bool) : TT := fun σ H Q => ∃ ρ F, Rel C ρ σ F H ∧ OutT C σ F H (f ρ) Q
theorem _root_.L2.PE.mono {X : Cx} {e : Expr} {t t' : TE} (h : PE X e t) (m : ∀ σ H Q, t' σ H Q → t σ H Q) : PE X e t' := ⟨fun pins s σ H Q I q => h.run pins s σ H Q I (m σ H Q q)⟩
theorem _root_.L2.PA.mono {X : Cx} {e : List Expr} {t t' : TA} (h : PA X e t) (m : ∀ σ H Q, t' σ H Q → t σ H Q) : PA X e t' := ⟨fun pos pins s σ H Q I q => h.run pos pins s σ H Q I (m σ H Q q)⟩
theorem _root_.L2.PT.mono {X : Cx} {e : Expr} {t t' : TT} (h : PT X e t) (m : ∀ σ H Q, t' σ H Q → t σ H Q) : PT X e t' := ⟨fun pins s σ H Q I q => h.run pins s σ H Q I (m σ H Q q)⟩
theorem _root_.L2.PW.mono {X : Cx} {e : Expr} {t t' : TT} (h : PW X e t) (m : ∀ σ H Q, t' σ H Q → t σ H Q) : PW X e t' := ⟨fun whole pins s σ H Q I q => h.run whole pins s σ H Q I (m σ H Q q)⟩
theorem _root_.L2.PS.mono {X : Cx} {e : Stmt} {t t' : TS} (h : PS X e t) (m : ∀ D σ H, t' D σ H → t D σ H) : PS X e t' := ⟨fun pins s σ H D I q => h.run pins s σ H D I (m D σ H q)⟩
theorem _root_.L2.PSs.mono {X : Cx} {e : List Stmt} {t t' : TS} (h : PSs X e t) (m : ∀ D σ H, t' D σ H → t D σ H) : PSs X e t' := ⟨fun pins s σ H D I q => h.run pins s σ H D I (m D σ H q)⟩
section
variable {C : Cd} {σ : L2.St} {F H F1 H1 : Hp} {W W' : Hp → Hp → D → V → Prop} {Q Q' : VK} {x : R D}
theorem Out.imp (o : Out C σ F H W x Q) (h : ∀ d v F' H', x = .ok d → Ext F H F' H' → Same F' H' → W' F' H' d v → (∀ v F' H', Ext F H F' H' → Same F' H' → W F' H' d v → Q v H') → Q' v H') : Out C σ F H W' x Q' := by
  cases x with
  | ok d => exact fun v F' H' x s w => h d v F' H' rfl x s w o
  | err c => exact o
  | bad => exact o
theorem Out.fst {k : D → R D} (o : Out C σ F H W (bd x k) Q) (h : ∀ d v F' H', x = .ok d → Out C σ F H W (k d) Q → Ext F H F' H' → Same F' H' → W' F' H' d v → Q' v H') : Out C σ F H W' x Q' := by
  cases x with
  | ok d => exact fun v F' H' x s w => h d v F' H' rfl o x s w
  | err c => exact o
  | bad => exact o
theorem Out.later (o : Out C σ F H W x Q) (e : Ext F H F1 H1) : Out C σ F1 H1 W x Q := by
  cases x with
  | ok d => exact fun v F' H' x s w => o v F' H' (e.trans x) s w
  | err c => exact fun F' H' x s => o F' H' (e.trans x) s
  | bad => exact o
theorem New.later {K : Kx} {d : D} {v : V} (e : Same H H1) (n : New K H1 F1 F d v) : New K H F1 F d v := by
  cases h : isC d with
  | true =>
    obtain ⟨a, rfl, n1, nd, o⟩ := n.own h
    exact .mk (fun b hb => ⟨e.free (n1 b hb).1, (n1 b hb).2⟩) nd o
  | false => exact .of_rep h (n.isRep h)
end
section
variable {X : Cx} {C : Cd} {e a b : Expr} {f g : En → R D}
theorem _root_.L2.PE.or {X : Cx} {e : Expr} {t t' : TE} (h : PE X e t) (h' : PE X e t') : PE X e (fun σ H Q => t σ H Q ∨ t' σ H Q) := ⟨fun pins s σ H Q I q => by
  rcases q with q | q
  · exact h.run pins s σ H Q I q
  · exact h'.run pins s σ H Q I q⟩
theorem r_of_e (h : PE X e (tE C f)) : PE X e (tR C f) := h.mono fun σ H Q ⟨ρ, F, r, q⟩ => ⟨ρ, F, r, q.imp fun d v F' H' _ x s w k => k v F' H' x s (w.view s)⟩
theorem r_of_o (h : PE X e (tO C f)) : PE X e (tR C f) := h.mono fun σ H Q ⟨ρ, F, r, q⟩ => ⟨ρ, F, r, q.imp fun d v F' H' _ x s w k => k v F' H' x s (w.view s)⟩
theorem e_of_o (h : PE X e (tO C f)) : PE X e (tE C f) := h.mono fun σ H Q ⟨ρ, F, r, q⟩ => ⟨ρ, F, r, q.imp fun d v F' H' _ x s w k => by
      obtain ⟨F2, x2, s1, s2, p2⟩ := w.rep s x
      exact k v F2 H' x2 s2 p2⟩
def Op2 (C : Cd) (r : R2) (w : D → D → R D) : Prop :=
  ∀ σ F H Q d e x y, Out C σ F H (fun F' H' => New C.K H F' H') (w d e) Q → Same F H → View C.K F H d x → View C.K F H e y → r x y H Q
theorem two {r : R2} {w : D → D → R D} (hr : Op2 C r w) :
    ∀ σ H Q, tO C (fun ρ => bd (f ρ) fun d => bd (g ρ) fun e => w d e) σ H Q → tR C f σ H fun x H1 => tR C g σ H1 fun y H2 => r x y H2 Q := by
  rintro σ H Q ⟨ρ, F, rl, q⟩
  refine ⟨ρ, F, rl, q.fst fun d v F1 H1 _ q x1 s1 p1 => ?_⟩
  refine ⟨ρ, F1, rl.grow x1 s1, ?_⟩
  refine (q.later x1).fst fun e y F2 H2 _ q x2 s2 p2 => ?_
  refine hr σ F2 H2 Q d e v y ?_ s2 (p1.mono x2.f x2.h) p2
  exact (q.later x2).imp fun d v F' H' _ x s w k => k v F' H' x s (w.later (x1.h.trans x2.h))
theorem d_op {op : Operator} {r : R2} {w : D → D → R D} {pos : Pos} (ho : OpR X (binaryOp op) r) (hr : Op2 C r w) (ha : PE X a (tR C f)) (hb : PE X b (tR C g)) :
    PE X (.BinOp a op b pos) (tO C (fun ρ => bd (f ρ) fun d => bd (g ρ) fun e => w d e)) :=
  (pe_op ho ha hb).mono (two hr)
theorem d_cmp {op : CmpOp} {r : R2} {w : D → D → R D} {pos : Pos} (ho : OpR X (compareOp op) r) (hr : Op2 C r w) (hm : behindInMarks op b = false) (ha : PE X a (tR C f)) (hb : PE X b (tR C g)) :
    PE X (.Compare a [op] [b] pos) (tO C (fun ρ => bd (f ρ) fun d => bd (g ρ) fun e => w d e)) :=
  (pe_cmpR ho ha hb hm).mono (two hr)
end
end DL
namespace DL
open PySem PySem.Spec PyProof.Rows L2
def bop (f g : En → R D) (w : D → D → R D) : En → R D := fun ρ => bd (f ρ) fun d => bd (g ρ) fun e => w d e
def uop (f : En → R D) (w : D → R D) : En → R D := fun ρ => bd (f ρ) w
def nop (f : En → R (List D)) (w : List D → R D) : En → R D := fun ρ => bd (f ρ) w
section
variable {X : Cx} {C : Cd} {e a b c : Expr} {f g k : En → R D} {pos : Pos}
def rd (i : Nat) : En → R D := fun ρ => match ρ[i]? with
  | some (some (_, d)) => .ok d
  | _ => .bad
def rdE (i : Nat) : En → R D := fun ρ => match ρ[i]? with
  | some (some (false, d)) => .ok d
  | some (some (true, d)) => if isC d = true then .bad else .ok d
  | _ => .bad
theorem Rel.noC {ρ : En} {σ : L2.St} {F H : Hp} (r : Rel C ρ σ F H) {i : Nat} {d : D} (h : ρ[i]? = some (some (true, d))) : isC d = true := by
  obtain ⟨_, _, _, _, o⟩ := r.own i d h
  exact o.isC
theorem v_R {i : Nat} (h : PE X e (tVar i)) : PE X e (tR C (rd i)) := h.mono fun σ H Q ⟨ρ, F, r, q⟩ => by
  unfold rd at q
  split at q
  · rename_i bb d h
    obtain ⟨v, hv, w⟩ := r.view h
    exact ⟨v, hv, q v F H (Ext.refl _ _) r.sub w⟩
  · exact q.elim
theorem v_E {i : Nat} (h : PE X e (tVar i)) : PE X e (tE C (rdE i)) := h.mono fun σ H Q ⟨ρ, F, r, q⟩ => by
  unfold rdE at q
  split at q
  · rename_i d h
    obtain ⟨v, hv, w⟩ := r.slot i d h
    exact ⟨v, hv, q v F H (Ext.refl _ _) r.sub w⟩
  · rename_i d h
    rw [if_pos (r.noC h)] at q
    exact q.elim
  · exact q.elim
def flatD : D → Option V
  | .non => some .non
  | .bl b => some (.bl b)
  | .int i => some (.int i)
  | .str x => some (.str x)
  | _ => none
def cst (d : D) : En → R D := fun _ => .ok d
theorem c_of {d : D} {v : V} (h : PE X e (tC v)) (hd : flatD d = some v) : PE X e (tO C (cst d)) := h.mono fun σ H Q ⟨ρ, F, r, q⟩ => by
  refine q v F H (Ext.refl _ _) r.sub ?_
  cases d with
  | non => cases hd; exact .non
  | bl b => cases hd; exact .bl b
  | int b => cases hd; exact .int b
  | str b => cases hd; exact .str b
  | _ => exact nomatch hd
theorem c_int {i : Int} {j : Nat} : PE X (.Constant (.int i) j pos) (tO C (cst (.int i))) := c_of pe_int rfl
theorem c_bl {i : Bool} {j : Nat} : PE X (.Constant (.bool i) j pos) (tO C (cst (.bl i))) := c_of pe_bl rfl
theorem c_non {j : Nat} : PE X (.Constant .none j pos) (tO C (cst .non)) := c_of pe_non rfl
theorem c_str {i : Str} {j : Nat} : PE X (.Constant (.str i) j pos) (tO C (cst (.str i))) := c_of pe_str rfl
def aNil : En → R (List D) := fun _ => .ok []
def aCons (f : En → R D) (g : En → R (List D)) : En → R (List D) := fun ρ => bd (f ρ) fun d => bd (g ρ) fun ds => .ok (d :: ds)
theorem a_nil : PA X [] (tA C aNil) := pa_nil.mono fun σ H Q ⟨ρ, F, r, q⟩ => q [] F H (Ext.refl _ _) r.sub .nil
theorem OutA.later {σ : L2.St} {F H F1 H1 : Hp} {x : R (List D)} {Q : List V → Hp → Prop} (o : OutA C σ F H x Q) (e : Ext F H F1 H1) : OutA C σ F1 H1 x Q := by
  cases x with
  | ok d => exact fun v F' H' x s w => o v F' H' (e.trans x) s w
  | err c => exact fun F' H' x s => o F' H' (e.trans x) s
  | bad => exact o
theorem a_cons {es : List Expr} {fs : En → R (List D)} (ha : PE X e (tE C f)) (hr : PA X es (tA C fs)) (hs : starEach (e :: es) X.env = (false, eval e X.env) :: starEach es X.env := by rfl) : PA X (e :: es) (tA C (aCons f fs)) :=
  (pa_cons ha hr hs).mono fun σ H Q ⟨ρ, F, r, q⟩ => by
    refine ⟨ρ, F, r, ?_⟩
    unfold aCons at q
    cases hf : f ρ with
    | bad => rw [hf] at q; exact q
    | err c => rw [hf] at q; exact q
    | ok d =>
      rw [hf] at q
      intro v F1 H1 x1 s1 w1
      refine ⟨ρ, F1, r.grow x1 s1, ?_⟩
      have q := OutA.later q x1
      rw [bd_ok] at q
      cases hg : fs ρ with
      | bad => rw [hg] at q; exact q
      | err c => rw [hg] at q; exact q
      | ok ds =>
        rw [hg] at q
        exact fun vs F2 H2 x2 s2 w2 => q (v :: vs) F2 H2 x2 s2 (.cons (w1.mono x2.f) w2)
theorem out_args {σ : L2.St} {ρ : En} {F H : Hp} {fs : En → R (List D)} {w : List D → R D} {W : Hp → Hp → D → V → Prop} {Q : VK} {Q' : List V → Hp → Prop} (r : Rel C ρ σ F H) (q : Out C σ F H W (bd (fs ρ) w) Q)
    (h : ∀ ds vs F' H', fs ρ = .ok ds → Out C σ F' H' W (w ds) Q → Ext F H F' H' → Same F' H' → Reps C.K F' ds vs → Q' vs H') : tA C fs σ H Q' := by
  refine ⟨ρ, F, r, ?_⟩
  cases hf : fs ρ with
  | bad => rw [hf] at q; exact q
  | err c => rw [hf] at q; exact q
  | ok ds =>
    rw [hf] at q
    exact fun vs F1 H1 x1 s1 w1 => h ds vs F1 H1 hf (Out.later q x1) x1 s1 w1
def small (n : Nat) : Bool := decide (n ≤ sizeLine)
def mkTup (ds : List D) : R D := grd (small ds.length) (.ok (.tup ds))
def mkLst (ds : List D) : R D := grd (small ds.length) (.ok (.lst ds))
theorem grd_out {σ : L2.St} {F H : Hp} {W : Hp → Hp → D → V → Prop} {Q : VK} {c : Bool} {x : R D} (o : Out C σ F H W (grd c x) Q) : c = true ∧ Out C σ F H W x Q := by
  cases c with
  | true => exact ⟨rfl, o⟩
  | false => exact o.elim
theorem Ext.new {F H : Hp} {p : Addr} (s : Same F H) (n : H p = none) (o : HO) : Ext F H (upd F p o) (upd H p o) :=
  ⟨same_upd (s.free n), same_upd n, fun b u h => by
    by_cases hb : b = p
    · subst hb; exact .inr n
    · rw [upd_ne hb] at h; exact .inl h⟩
theorem Ext.newH {F H : Hp} {p : Addr} (n : H p = none) (o : HO) : Ext F H F (upd H p o) := Ext.heap (same_upd n)
theorem fin_tup {σ : L2.St} {F H : Hp} {K' : Hp} {ds : List D} {vs : List V} {Q : VK} {p : Addr} (q : Out C σ F H (fun F' H' => New C.K K' F' H') (.ok (.tup ds)) Q) (s : Same F H) (r : Reps C.K F ds vs) (n : H p = none) : Q (.ref p) (upd H p (.tup vs)) :=
  q (.ref p) (upd F p (.tup vs)) _ (Ext.new s n _) (same_settle (same_upd2 s (s.free n)) upd_same) (.tup upd_same (r.mono (same_upd (s.free n))))
theorem fin_lst {σ : L2.St} {F H : Hp} {K' : Hp} {ds : List D} {vs : List V} {Q : VK} {p : Addr} (q : Out C σ F H (fun F' H' => New C.K K' F' H') (.ok (.lst ds)) Q) (s : Same F H) (k : Same K' H) (r : Reps C.K F ds vs) (n : H p = none) : Q (.ref p) (upd H p (.lst vs)) :=
  q (.ref p) F _ (Ext.newH n _) (same_upd2 s (s.free n)) ⟨p, rfl, k.free n, s.free n, vs, upd_same, r⟩
theorem fin_dK {σ : L2.St} {F H : Hp} {K' : Hp} {ds : List (Key × D)} {vs : List (Key × V)} {Q : VK} {p : Addr} (q : Out C σ F H (fun F' H' => New C.K K' F' H') (.ok (.dK ds)) Q) (s : Same F H) (k : Same K' H) (r : RepK C.K F ds vs) (n : H p = none) : Q (.ref p) (upd H p (.dK vs)) :=
  q (.ref p) F _ (Ext.newH n _) (same_upd2 s (s.free n)) ⟨p, rfl, k.free n, s.free n, vs, upd_same, r⟩
theorem fin_flat {σ : L2.St} {F H : Hp} {K' : Hp} {d : D} {v : V} {Q : VK} (q : Out C σ F H (fun F' H' => New C.K K' F' H') (.ok d) Q) (s : Same F H) (hd : flatD d = some v) : Q v H := by
  refine q v F H (Ext.refl _ _) s ?_
  cases d with
  | non => cases hd; exact .non
  | bl b => cases hd; exact .bl b
  | int b => cases hd; exact .int b
  | str b => cases hd; exact .str b
  | _ => exact nomatch hd
theorem d_tup {es : List Expr} {fs : En → R (List D)} {x1 : Nat} (ha : PA X es (tA C fs)) : PE X (.Tuple es x1 pos) (tO C (nop fs mkTup)) :=
  (pe_tup ha).mono fun σ H Q ⟨ρ, F, r, q⟩ => by
    refine out_args r q fun ds vs F' H' hd q x s rp => ?_
    obtain ⟨z, q⟩ := grd_out q
    exact ⟨by rw [rp.length]; exact of_decide_eq_true z, fun p hp => fin_tup q s rp hp⟩
theorem d_lst {es : List Expr} {fs : En → R (List D)} (ha : PA X es (tA C fs)) : PE X (.List es pos) (tO C (nop fs mkLst)) :=
  (pe_lst ha).mono fun σ H Q ⟨ρ, F, r, q⟩ => by
    refine out_args r q fun ds vs F' H' hd q x s rp => ?_
    obtain ⟨z, q⟩ := grd_out q
    exact ⟨by rw [rp.length]; exact of_decide_eq_true z, fun p hp => fin_lst q s x.h rp hp⟩
theorem OpR.or {f : Value → Value → Sem Value} {r r' : R2} (h : OpR X f r) (h' : OpR X f r') : OpR X f (fun x y H Q => r x y H Q ∨ r' x y H Q) := by
  intro pins s σ H x y v u Q I rx ry q
  rcases q with q | q
  · exact h pins s σ H x y v u Q I rx ry q
  · exact h' pins s σ H x y v u Q I rx ry q
def dAdd : D → D → R D
  | .int i, .int j => .ok (.int (i + j))
  | .str x, .str y => grd (small (x.length + y.length)) (.ok (.str (x ++ y)))
  | .lst xs, .lst ys => grd (small (xs.length + ys.length)) (.ok (.lst (xs ++ ys)))
  | .tup xs, .tup ys => grd (small (xs.length + ys.length) && !xs.isEmpty && !ys.isEmpty) (.ok (.tup (xs ++ ys)))
  | _, _ => .bad
theorem rAdd_ok : Op2 C (fun x y H Q => rI0 (fun i j => .int (i + j)) x y H Q ∨ (∃ i j, x = .str i ∧ y = .str j ∧ i.length + j.length ≤ sizeLine ∧ Q (.str (i ++ j)) H) ∨ rCat x y H Q ∨ rCatT C.K x y H Q) dAdd := by
  intro σ F H Q d e x y o s w1 w2
  unfold dAdd at o
  split at o
  · cases w1; cases w2
    exact .inl ⟨_, _, rfl, rfl, fin_flat o s rfl⟩
  · cases w1; cases w2
    obtain ⟨z, o⟩ := grd_out o
    exact .inr (.inl ⟨_, _, rfl, rfl, of_decide_eq_true z, fin_flat o s rfl⟩)
  · obtain ⟨z, o⟩ := grd_out o
    obtain ⟨a, vs, rfl, h1, r1⟩ := w1
    obtain ⟨a', vs', rfl, h2, r2⟩ := w2
    exact .inr (.inr (.inl ⟨a, a', vs, vs', rfl, rfl, h1, h2, by rw [r1.length, r2.length]; exact of_decide_eq_true z, fun p hp => fin_lst o s (Same.refl _) (r1.append r2) hp⟩))
  · obtain ⟨z, o⟩ := grd_out o
    obtain ⟨a, vs, rfl, h1, r1⟩ := w1
    obtain ⟨a', vs', rfl, h2, r2⟩ := w2
    rename_i xs ys
    simp only [Bool.and_eq_true, Bool.not_eq_true', List.isEmpty_eq_false_iff] at z
    obtain ⟨⟨z1, z2⟩, z3⟩ := z
    have e1 := r1.length
    have e2 := r2.length
    refine .inr (.inr (.inr ⟨a, a', vs, vs', rfl, rfl, SqT.of h1, SqT.of h2, ?_, by rw [r1.length, r2.length]; exact of_decide_eq_true z1, fun h => ?_, fun _ p hp => fin_tup o s (r1.append r2) hp⟩))
    · rintro rfl
      exact z2 (List.eq_nil_of_length_eq_zero e1.symm)
    · subst h
      exact absurd (List.eq_nil_of_length_eq_zero e2.symm) z3
  · exact o.elim
theorem d_add (hC : X.K = C.K.fr) (ha : PE X a (tR C f)) (hb : PE X b (tR C g)) : PE X (.BinOp a .Add b pos) (tO C (bop f g dAdd)) :=
  d_op (OpR.or op_add (OpR.or op_add_str (OpR.or op_cat (hC ▸ op_catT)))) rAdd_ok ha hb
def dSub : D → D → R D
  | .int i, .int j => .ok (.int (i - j))
  | _, _ => .bad
def dMod : D → D → R D
  | .int i, .int j => grd (decide (0 < j)) (.ok (.int (i % j)))
  | _, _ => .bad
def dDiv : D → D → R D
  | .int i, .int j => grd (decide (0 < j) && decide (j.natAbs.log2 < 9000)) (.ok (.int (i / j)))
  | _, _ => .bad
def dPow : D → D → R D
  | .int i, .int j => grd (decide (0 ≤ j) && decide (j ≤ 1000000) && decide (i.natAbs < 2 ^ 64)) (.ok (.int (i ^ j.toNat)))
  | _, _ => .bad
def dMul : D → D → R D
  | .int i, .int j => grd (decide (i.natAbs.log2 + j.natAbs.log2 < 1000000) || decide (i.natAbs < 2 ^ 64) || decide (j.natAbs < 2 ^ 64)) (.ok (.int (i * j)))
  | .lst xs, .int k => grd (decide (-(2 ^ 63) ≤ k) && decide (k < 2 ^ 63) && small (xs.length * k.toNat)) (.ok (.lst (List.replicate k.toNat xs).flatten))
  | _, _ => .bad
theorem d_sub (ha : PE X a (tR C f)) (hb : PE X b (tR C g)) : PE X (.BinOp a .Sub b pos) (tO C (bop f g dSub)) :=
  d_op op_sub (by
    intro σ F H Q d e x y o s w1 w2
    unfold dSub at o
    split at o
    · cases w1; cases w2; exact ⟨_, _, rfl, rfl, fin_flat o s rfl⟩
    · exact o.elim) ha hb
theorem d_mod (ha : PE X a (tR C f)) (hb : PE X b (tR C g)) : PE X (.BinOp a .Mod b pos) (tO C (bop f g dMod)) :=
  d_op op_mod (by
    intro σ F H Q d e x y o s w1 w2
    unfold dMod at o
    split at o
    · cases w1; cases w2
      obtain ⟨z, o⟩ := grd_out o
      exact ⟨_, _, rfl, rfl, of_decide_eq_true z, fin_flat o s rfl⟩
    · exact o.elim) ha hb
theorem d_div (ha : PE X a (tR C f)) (hb : PE X b (tR C g)) : PE X (.BinOp a .FloorDiv b pos) (tO C (bop f g dDiv)) :=
  d_op op_fdivW (by
    intro σ F H Q d e x y o s w1 w2
    unfold dDiv at o
    split at o
    · cases w1; cases w2
      obtain ⟨z, o⟩ := grd_out o
      rw [Bool.and_eq_true] at z
      exact ⟨_, _, rfl, rfl, ⟨of_decide_eq_true z.1, of_decide_eq_true z.2⟩, fin_flat o s rfl⟩
    · exact o.elim) ha hb
theorem d_pow (ha : PE X a (tR C f)) (hb : PE X b (tR C g)) : PE X (.BinOp a .Pow b pos) (tO C (bop f g dPow)) :=
  d_op op_pow (by
    intro σ F H Q d e x y o s w1 w2
    unfold dPow at o
    split at o
    · cases w1; cases w2
      obtain ⟨z, o⟩ := grd_out o
      rw [Bool.and_eq_true, Bool.and_eq_true] at z
      exact ⟨_, _, rfl, rfl, ⟨of_decide_eq_true z.1.1, of_decide_eq_true z.1.2, of_decide_eq_true z.2⟩, fin_flat o s rfl⟩
    · exact o.elim) ha hb
theorem Reps.flat {K : Kx} {F : Hp} {ds : List D} {vs : List V} (r : Reps K F ds vs) : ∀ n : Nat, Reps K F (List.replicate n ds).flatten (List.replicate n vs).flatten
  | 0 => .nil
  | n + 1 => by
    rw [List.replicate_succ, List.replicate_succ, List.flatten_cons, List.flatten_cons]
    exact r.append (Reps.flat r n)
theorem d_mul (ha : PE X a (tR C f)) (hb : PE X b (tR C g)) : PE X (.BinOp a .Mult b pos) (tO C (bop f g dMul)) :=
  d_op (OpR.or op_mulW (OpR.or op_mul op_rep)) (by
    intro σ F H Q d e x y o s w1 w2
    unfold dMul at o
    split at o
    · cases w1; cases w2
      obtain ⟨z, o⟩ := grd_out o
      rw [Bool.or_eq_true, Bool.or_eq_true] at z
      rcases z with (z | z) | z
      · exact .inl ⟨_, _, rfl, rfl, show _ < _ from of_decide_eq_true z, fin_flat o s rfl⟩
      · have z := of_decide_eq_true z
        exact .inr (.inl ⟨_, _, rfl, rfl, .inl ⟨by omega, by omega⟩, fin_flat o s rfl⟩)
      · have z := of_decide_eq_true z
        exact .inr (.inl ⟨_, _, rfl, rfl, .inr ⟨by omega, by omega⟩, fin_flat o s rfl⟩)
    · obtain ⟨z, o⟩ := grd_out o
      obtain ⟨a, vs, rfl, h1, r1⟩ := w1
      cases w2
      rw [Bool.and_eq_true, Bool.and_eq_true] at z
      exact .inr (.inr ⟨_, _, vs, rfl, rfl, h1, of_decide_eq_true z.1.1, of_decide_eq_true z.1.2, by rw [r1.length]; exact of_decide_eq_true z.2, fun p hp => fin_lst o s (Same.refl _) (r1.flat _) hp⟩)
    · exact o.elim) ha hb
def dNeg : D → R D
  | .int i => .ok (.int (-i))
  | _ => .bad
def Op1 (C : Cd) (r : V → Hp → VK → Prop) (w : D → R D) : Prop :=
  ∀ σ F H Q d x, Out C σ F H (fun F' H' => New C.K H F' H') (w d) Q → Same F H → View C.K F H d x → r x H Q
theorem one {r : V → Hp → VK → Prop} {w : D → R D} (hr : Op1 C r w) : ∀ σ H Q, tO C (fun ρ => bd (f ρ) w) σ H Q → tR C f σ H fun x H1 => r x H1 Q := by
  rintro σ H Q ⟨ρ, F, rl, q⟩
  refine ⟨ρ, F, rl, q.fst fun d v F1 H1 _ q x1 s1 p1 => ?_⟩
  exact hr σ F1 H1 Q d v ((q.later x1).imp fun d v F' H' _ x s w k => k v F' H' x s (w.later x1.h)) s1 p1
theorem d_neg (ha : PE X a (tR C f)) : PE X (.UnaryOp .USub a pos) (tO C (uop f dNeg)) :=
  (pe_un un_neg ha).mono (one (by
    intro σ F H Q d x o s w
    cases d with
    | int i => cases w; exact ⟨i, rfl, fin_flat o s rfl⟩
    | _ => exact o.elim))
mutual
def py : D → Option PyData
  | .non => some .none
  | .bl b => some (.bool b)
  | .int i => some (.int i)
  | .str x => some (.str x)
  | .lst ds => (pys ds).map .list
  | .tup ds => (pys ds).map .tuple
  | .scr ns => some (.list (ns.map .int))
  | .dK _ => none
  | .dT _ => none
  | .ref _ => none
  | .exn _ => none
  | .deep _ => none
  | .obj _ => none
  | .junk _ => none
  | .rows ds => (pys ds).map .list
def pys : List D → Option (List PyData)
  | [] => some []
  | d :: ds => (py d).bind fun p => (pys ds).map fun ps => p :: ps
end
theorem dp_ints {K : Kx} {H : Hp} : ∀ ns : List Int, DpAll K H (ns.map V.int) (ns.map PyData.int)
  | [] => .nil
  | n :: ns => .cons (.int n) (dp_ints ns)
mutual
theorem Rep.dp {K : Kx} {F H : Hp} (s : Same F H) : ∀ {d : D} {v : V} {p : PyData}, Rep K F d v → py d = some p → Dp K H v p
  | _, _, _, .non, e => by cases e; exact .non
  | _, _, _, .bl b, e => by cases e; exact .bl b
  | _, _, _, .int b, e => by cases e; exact .int b
  | _, _, _, .str b, e => by cases e; exact .str b
  | _, _, _, .lst (ds := ds) q r, e => by
    unfold py at e
    cases h : pys ds with
    | none => rw [h] at e; cases e
    | some ps => rw [h] at e; cases e; exact .lst (.inl (.inl (s _ _ q))) (Reps.dp s r h)
  | _, _, _, .tup (ds := ds) q r, e => by
    unfold py at e
    cases h : pys ds with
    | none => rw [h] at e; cases e
    | some ps => rw [h] at e; cases e; exact .tup (SqT.of (s _ _ q)) (Reps.dp s r h)
  | _, _, _, .scr (ns := ns) q, e => by cases e; exact .lst (s.seq q) (dp_ints ns)
  | _, _, _, .dK _ _, e => nomatch e
  | _, _, _, .dT _ _, e => nomatch e
  | _, _, _, .ref _, e => nomatch e
  | _, _, _, .deep _ _, e => nomatch e
  | _, _, _, .obj _, e => nomatch e
  | _, _, _, .rows (ds := ds) q r, e => by
    unfold py at e
    cases h : pys ds with
    | none => rw [h] at e; cases e
    | some ps => rw [h] at e; cases e; exact .lst (.inl (.inl (s _ _ q))) (Reps.dp s r h)
theorem Reps.dp {K : Kx} {F H : Hp} (s : Same F H) : ∀ {ds : List D} {vs : List V} {ps : List PyData}, Reps K F ds vs → pys ds = some ps → DpAll K H vs ps
  | _, _, _, .nil, e => by cases e; exact .nil
  | _, _, _, .cons (d := d) (ds := ds) r t, e => by
    unfold pys at e
    cases h : py d with
    | none => rw [h] at e; cases e
    | some p =>
      rw [h] at e
      cases h2 : pys ds with
      | none => rw [h2] at e; cases e
      | some ps => rw [h2] at e; cases e; exact .cons (Rep.dp s r h) (Reps.dp s t h2)
end
theorem RowsAt.dp {K : Kx} {F H : Hp} (s : Same F H) : ∀ {rs : List D} {vs : List V} {ps : List PyData}, RowsAt K F H rs vs → pys rs = some ps → DpAll K H vs ps
  | _, _, _, .nil, e => by cases e; exact .nil
  | _, _, _, .cons (xs := xs) (rs := rs) q r t, e => by
    unfold pys at e
    cases h : py (.lst xs) with
    | none => rw [h] at e; cases e
    | some p =>
      rw [h] at e
      cases h2 : pys rs with
      | none => rw [h2] at e; cases e
      | some ps =>
        rw [h2] at e; cases e
        refine .cons ?_ (RowsAt.dp s t h2)
        unfold py at h
        cases h3 : pys xs with
        | none => rw [h3] at h; cases h
        | some qs => rw [h3] at h; cases h; exact .lst (.inl (.inl q)) (Reps.dp s r h3)
theorem View.dp {K : Kx} {F H : Hp} (s : Same F H) {d : D} {v : V} {p : PyData} (w : View K F H d v) (e : py d = some p) : Dp K H v p := by
  cases d with
  | non => cases w; cases e; exact .non
  | bl b => cases w; cases e; exact .bl b
  | int b => cases w; cases e; exact .int b
  | str b => cases w; cases e; exact .str b
  | lst ds =>
    obtain ⟨a, vs, rfl, q, r⟩ := w
    unfold py at e
    cases h : pys ds with
    | none => rw [h] at e; cases e
    | some ps => rw [h] at e; cases e; exact .lst (.inl (.inl q)) (Reps.dp s r h)
  | tup ds =>
    obtain ⟨a, vs, rfl, q, r⟩ := w
    unfold py at e
    cases h : pys ds with
    | none => rw [h] at e; cases e
    | some ps => rw [h] at e; cases e; exact .tup (SqT.of q) (Reps.dp s r h)
  | scr ns => obtain ⟨a, rfl, q⟩ := w; cases e; exact .lst q (dp_ints ns)
  | rows ds =>
    obtain ⟨a, vs, rfl, q, r⟩ := w
    unfold py at e
    cases h : pys ds with
    | none => rw [h] at e; cases e
    | some ps =>
      rw [h] at e; cases e
      rcases r with r | r
      · exact .lst (.inl (.inl q)) (Reps.dp s r h)
      · exact .lst (.inl (.inl q)) (RowsAt.dp s r h)
  | _ => exact nomatch e
def deepEq (neg : Bool) (a b : D) : R D := match py a, py b with
  | some p, some q => grd (SeqAt.shaped p && SeqAt.shaped q) (.ok (.bl (if neg then !PyData.eqv p q else PyData.eqv p q)))
  | _, _ => .bad
def xorB (neg b : Bool) : Bool := if neg then !b else b
@[simp] theorem xorB_f (b : Bool) : xorB false b = b := rfl
@[simp] theorem xorB_t (b : Bool) : xorB true b = !b := rfl
def dEq (neg : Bool) : D → D → R D
  | .int i, .int j => .ok (.bl (xorB neg (decide (i = j))))
  | .str i, .str j => .ok (.bl (xorB neg (decide (i = j))))
  | .bl i, .bl j => .ok (.bl (xorB neg (decide (i = j))))
  | .int _, .str _ => .ok (.bl (xorB neg false))
  | .str _, .int _ => .ok (.bl (xorB neg false))
  | .non, .int _ => .ok (.bl (xorB neg false))
  | .int _, .non => .ok (.bl (xorB neg false))
  | .non, .str _ => .ok (.bl (xorB neg false))
  | .str _, .non => .ok (.bl (xorB neg false))
  | a, b => deepEq neg a b
theorem rEq_ok : Op2 C (fun x y H Q => rEq x y H Q ∨ rEqD C.K x y H Q) (dEq false) := by
  intro σ F H Q d e x y o s w1 w2
  unfold dEq at o
  split at o
  · cases w1; cases w2; exact .inl ⟨rfl, by have := fin_flat o s rfl; simpa using this⟩
  · cases w1; cases w2; exact .inl ⟨rfl, by have := fin_flat o s rfl; simpa using this⟩
  · cases w1; cases w2; exact .inl ⟨rfl, by have := fin_flat o s rfl; simpa using this⟩
  · cases w1; cases w2; exact .inl ⟨rfl, by have := fin_flat o s rfl; simpa using this⟩
  · cases w1; cases w2; exact .inl ⟨rfl, by have := fin_flat o s rfl; simpa using this⟩
  · cases w1; cases w2; exact .inl ⟨rfl, by have := fin_flat o s rfl; simpa using this⟩
  · cases w1; cases w2; exact .inl ⟨rfl, by have := fin_flat o s rfl; simpa using this⟩
  · cases w1; cases w2; exact .inl ⟨rfl, by have := fin_flat o s rfl; simpa using this⟩
  · cases w1; cases w2; exact .inl ⟨rfl, by have := fin_flat o s rfl; simpa using this⟩
  · unfold deepEq at o
    split at o
    · rename_i p q hp hq
      obtain ⟨z, o⟩ := grd_out o
      rw [Bool.and_eq_true] at z
      exact .inr ⟨p, q, w1.dp s hp, w2.dp s hq, z.1, z.2, fin_flat o s rfl⟩
    · exact o.elim
theorem rNe_ok : Op2 C (fun x y H Q => rNe x y H Q ∨ rNeD C.K x y H Q) (dEq true) := by
  intro σ F H Q d e x y o s w1 w2
  unfold dEq at o
  split at o
  · cases w1; cases w2; exact .inl ⟨rfl, by have := fin_flat o s rfl; simpa using this⟩
  · cases w1; cases w2; exact .inl ⟨rfl, by have := fin_flat o s rfl; simpa using this⟩
  · cases w1; cases w2; exact .inl ⟨rfl, by have := fin_flat o s rfl; simpa using this⟩
  · cases w1; cases w2; exact .inl ⟨rfl, by have := fin_flat o s rfl; simpa using this⟩
  · cases w1; cases w2; exact .inl ⟨rfl, by have := fin_flat o s rfl; simpa using this⟩
  · cases w1; cases w2; exact .inl ⟨rfl, by have := fin_flat o s rfl; simpa using this⟩
  · cases w1; cases w2; exact .inl ⟨rfl, by have := fin_flat o s rfl; simpa using this⟩
  · cases w1; cases w2; exact .inl ⟨rfl, by have := fin_flat o s rfl; simpa using this⟩
  · cases w1; cases w2; exact .inl ⟨rfl, by have := fin_flat o s rfl; simpa using this⟩
  · unfold deepEq at o
    split at o
    · rename_i p q hp hq
      obtain ⟨z, o⟩ := grd_out o
      rw [Bool.and_eq_true] at z
      exact .inr ⟨p, q, w1.dp s hp, w2.dp s hq, z.1, z.2, fin_flat o s rfl⟩
    · exact o.elim
def dLt : D → D → R D
  | .int i, .int j => .ok (.bl (decide (i < j)))
  | .str i, .str j => .ok (.bl (decide (i.cps.toList < j.cps.toList)))
  | _, _ => .bad
def dLe : D → D → R D
  | .int i, .int j => .ok (.bl (decide (i ≤ j)))
  | .str i, .str j => .ok (.bl (!decide (j.cps.toList < i.cps.toList)))
  | _, _ => .bad
def dGt : D → D → R D
  | .int i, .int j => .ok (.bl (decide (j < i)))
  | .str i, .str j => .ok (.bl (decide (j.cps.toList < i.cps.toList)))
  | _, _ => .bad
def dGe : D → D → R D
  | .int i, .int j => .ok (.bl (decide (j ≤ i)))
  | .str i, .str j => .ok (.bl (!decide (i.cps.toList < j.cps.toList)))
  | _, _ => .bad
theorem rLt_ok : Op2 C (fun x y H Q => rI0 (fun i j => .bl (decide (i < j))) x y H Q ∨ (∃ i j, x = .str i ∧ y = .str j ∧ Q (.bl (decide (i.cps.toList < j.cps.toList))) H)) dLt := by
  intro σ F H Q d e x y o s w1 w2
  unfold dLt at o
  split at o
  · cases w1; cases w2; exact .inl ⟨_, _, rfl, rfl, fin_flat o s rfl⟩
  · cases w1; cases w2; exact .inr ⟨_, _, rfl, rfl, fin_flat o s rfl⟩
  · exact o.elim
theorem rLe_ok : Op2 C (fun x y H Q => rI0 (fun i j => .bl (decide (i ≤ j))) x y H Q ∨ (∃ i j, x = .str i ∧ y = .str j ∧ Q (.bl (!decide (j.cps.toList < i.cps.toList))) H)) dLe := by
  intro σ F H Q d e x y o s w1 w2
  unfold dLe at o
  split at o
  · cases w1; cases w2; exact .inl ⟨_, _, rfl, rfl, fin_flat o s rfl⟩
  · cases w1; cases w2; exact .inr ⟨_, _, rfl, rfl, fin_flat o s rfl⟩
  · exact o.elim
theorem rGt_ok : Op2 C (fun x y H Q => rI0 (fun i j => .bl (decide (j < i))) x y H Q ∨ (∃ i j, x = .str i ∧ y = .str j ∧ Q (.bl (decide (j.cps.toList < i.cps.toList))) H)) dGt := by
  intro σ F H Q d e x y o s w1 w2
  unfold dGt at o
  split at o
  · cases w1; cases w2; exact .inl ⟨_, _, rfl, rfl, fin_flat o s rfl⟩
  · cases w1; cases w2; exact .inr ⟨_, _, rfl, rfl, fin_flat o s rfl⟩
  · exact o.elim
theorem rGe_ok : Op2 C (fun x y H Q => rI0 (fun i j => .bl (decide (j ≤ i))) x y H Q ∨ (∃ i j, x = .str i ∧ y = .str j ∧ Q (.bl (!decide (i.cps.toList < j.cps.toList))) H)) dGe := by
  intro σ F H Q d e x y o s w1 w2
  unfold dGe at o
  split at o
  · cases w1; cases w2; exact .inl ⟨_, _, rfl, rfl, fin_flat o s rfl⟩
  · cases w1; cases w2; exact .inr ⟨_, _, rfl, rfl, fin_flat o s rfl⟩
  · exact o.elim
def isN : D → Bool
  | .non => true
  | _ => false
def dIsN (neg : Bool) : D → D → R D
  | d, .non => .ok (.bl (xorB neg (isN d)))
  | .bl a, .bl b => .ok (.bl (xorB neg (decide (a = b))))
  | _, _ => .bad
theorem View.non {K : Kx} {F H : Hp} {d : D} {v : V} (w : View K F H d v) : decide (v = .non) = isN d := by
  cases d with
  | non => cases w; rfl
  | bl b => cases w; rfl
  | int b => cases w; rfl
  | str b => cases w; rfl
  | ref b => cases w; rfl
  | exn c => obtain ⟨a, C, rfl, _⟩ := w; rfl
  | deep d => obtain ⟨a, rfl⟩ := w; rfl
  | obj d => obtain ⟨a, rfl, _⟩ := w; rfl
  | junk n => exact w.elim
  | lst ds => obtain ⟨a, vs, rfl, _⟩ := w; rfl
  | tup ds => obtain ⟨a, vs, rfl, _⟩ := w; rfl
  | dK ds => obtain ⟨a, vs, rfl, _⟩ := w; rfl
  | dT ds => obtain ⟨a, vs, rfl, _⟩ := w; rfl
  | scr ds => obtain ⟨a, rfl, _⟩ := w; rfl
  | rows ds => obtain ⟨a, vs, rfl, _⟩ := w; rfl
def asB : D → R Bool
  | .bl b => .ok b
  | _ => .bad
theorem t_to_o {σ : L2.St} {H : Hp} {Q : Bool → Hp → Prop} (h : tT C (fun ρ => bd (f ρ) asB) σ H Q) : tO C f σ H (fun x H' => ∃ k, x = .bl k ∧ Q k H') := by
  obtain ⟨ρ, F, r, q⟩ := h
  refine ⟨ρ, F, r, ?_⟩
  cases hf : f ρ with
  | bad => simp only [hf, bd_bad] at q; exact q
  | err c => simp only [hf, bd_err] at q; exact q
  | ok d =>
    simp only [hf, bd_ok] at q
    intro v F' H' x s w
    unfold asB at q
    split at q
    · cases w
      exact ⟨_, rfl, q F' H' x s⟩
    · exact q.elim
theorem dt_cmp {op : CmpOp} {r : R2} {w : D → D → R D} (ho : OpR X (compareOp op) r) (hr : Op2 C r w) (hm : behindInMarks op b = false) (ha : PE X a (tR C f)) (hb : PE X b (tR C g)) :
    PT X (.Compare a [op] [b] pos) (tT C (fun ρ => bd (bd (f ρ) fun d => bd (g ρ) fun e => w d e) asB)) :=
  (pt_cmpR ho ha hb hm).mono fun σ H Q h => two hr σ H _ (t_to_o h)
theorem dt_truth (ha : PE X a (tO C f)) (he : ∀ whole, isTrue a X.env whole = (do let v ← whole; standAt a.pos; holding [v] (truthy v)) := by intro _; rfl) : PT X a (tT C (fun ρ => bd (f ρ) asB)) :=
  (pt_val ha he).mono fun σ H Q h => t_to_o h
end
end DL
namespace DL
open PySem PySem.Spec PyProof.Rows L2
section
variable {X : Cx} {C : Cd} {e a b c : Expr} {f g k : En → R D} {pos : Pos} {ft gt : En → R Bool}
theorem OutT.later {σ : L2.St} {F H F1 H1 : Hp} {x : R Bool} {Q : Bool → Hp → Prop} (o : OutT C σ F H x Q) (e : Ext F H F1 H1) : OutT C σ F1 H1 x Q := by
  cases x with
  | ok d => exact fun F' H' x s => o F' H' (e.trans x) s
  | err c => exact fun F' H' x s => o F' H' (e.trans x) s
  | bad => exact o
theorem OutT.fst {α : Type} {σ : L2.St} {F H : Hp} {x : R Bool} {kk : Bool → R Bool} {Q Q' : Bool → Hp → Prop} (o : OutT C σ F H (bd x kk) Q) (h : ∀ d F' H', x = .ok d → OutT C σ F' H' (kk d) Q → Ext F H F' H' → Same F' H' → Q' d H') : OutT C σ F H x Q' := by
  cases x with
  | ok d => exact fun F' H' x s => h d F' H' rfl (OutT.later o x) x s
  | err c => exact o
  | bad => exact o
def bAnd (f g : En → R Bool) : En → R Bool := fun ρ => bd (f ρ) fun c => if c = true then g ρ else .ok false
def bOr (f g : En → R Bool) : En → R Bool := fun ρ => bd (f ρ) fun c => if c = true then .ok true else g ρ
def bNot (f : En → R Bool) : En → R Bool := fun ρ => bd (f ρ) fun c => .ok (!c)
theorem t_not (h : PT X a (tT C ft)) : PT X (.UnaryOp .Not a pos) (tT C (bNot ft)) := (pt_not h).mono fun σ H Q ⟨ρ, F, r, q⟩ =>
  ⟨ρ, F, r, OutT.fst (α := Unit) q fun d F' H' _ o x s => o F' H' (Ext.refl _ _) s⟩
theorem w_and1 (h : PT X a (tT C ft)) : PW X (.BoolOp .And [a] pos) (tT C ft) := pw_and1 h
theorem w_or1 (h : PT X a (tT C ft)) : PW X (.BoolOp .Or [a] pos) (tT C ft) := pw_or1 h
theorem w_and {rest : List Expr} (ha : PT X a (tT C ft)) (hb : PW X (.BoolOp .And (b :: rest) pos) (tT C gt)) : PW X (.BoolOp .And (a :: b :: rest) pos) (tT C (bAnd ft gt)) :=
  (pw_and ha hb).mono fun σ H Q ⟨ρ, F, r, q⟩ => ⟨ρ, F, r, OutT.fst (α := Unit) q fun d F' H' _ o x s => by
    cases d with
    | true => rw [if_pos rfl]; exact ⟨ρ, F', r.grow x s, o⟩
    | false => rw [if_neg Bool.false_ne_true]; exact o F' H' (Ext.refl _ _) s⟩
theorem w_or {rest : List Expr} (ha : PT X a (tT C ft)) (hb : PW X (.BoolOp .Or (b :: rest) pos) (tT C gt)) : PW X (.BoolOp .Or (a :: b :: rest) pos) (tT C (bOr ft gt)) :=
  (pw_or ha hb).mono fun σ H Q ⟨ρ, F, r, q⟩ => ⟨ρ, F, r, OutT.fst (α := Unit) q fun d F' H' _ o x s => by
    cases d with
    | true => rw [if_pos rfl]; exact o F' H' (Ext.refl _ _) s
    | false => rw [if_neg Bool.false_ne_true]; exact ⟨ρ, F', r.grow x s, o⟩⟩
theorem t_w (h : PW X a (tT C ft)) : PT X a (tT C ft) := h.pt
def eAnd (f g : En → R D) : En → R D := fun ρ => bd (f ρ) fun c => match c with | .bl true => g ρ | .bl false => .ok (.bl false) | _ => .bad
def eOr (f g : En → R D) : En → R D := fun ρ => bd (f ρ) fun c => match c with | .bl true => .ok (.bl true) | .bl false => g ρ | _ => .bad
def eNot : D → R D
  | .bl b => .ok (.bl (!b))
  | _ => .bad
theorem Out.newer {σ : L2.St} {H F1 H1 : Hp} {x : R D} {Q : VK} (o : Out C σ F1 H1 (fun F' H' => New C.K H F' H') x Q) (s : Same H H1) : Out C σ F1 H1 (fun F' H' => New C.K H1 F' H') x Q :=
  o.imp fun d v F' H' _ x s' w k => k v F' H' x s' (w.later s)
theorem d_not (ha : PE X a (tO C f)) : PE X (.UnaryOp .Not a pos) (tO C (uop f eNot)) := (pe_not ha).mono fun σ H Q ⟨ρ, F, r, q⟩ => ⟨ρ, F, r, q.fst fun d v F' H' _ o x s w => by
    have o := o.later x
    cases d with
    | bl b => cases w; exact ⟨b, rfl, fin_flat o s rfl⟩
    | _ => exact o.elim⟩
theorem d_and {rest : List Expr} (ha : PE X a (tO C f)) (hb : PE X (.BoolOp .And (b :: rest) pos) (tO C g)) : PE X (.BoolOp .And (a :: b :: rest) pos) (tO C (eAnd f g)) :=
  (pe_and ha hb).mono fun σ H Q ⟨ρ, F, r, q⟩ => ⟨ρ, F, r, q.fst fun d v F' H' _ o x s w => by
    have o := o.later x
    cases d with
    | bl b =>
      cases w
      refine ⟨b, rfl, ?_⟩
      cases b with
      | true => rw [if_pos rfl]; exact ⟨ρ, F', r.grow x s, o.newer x.h⟩
      | false => rw [if_neg Bool.false_ne_true]; exact fin_flat o s rfl
    | _ => exact o.elim⟩
theorem d_one {op : BoolOp} (h : PE X a (tO C f)) : PE X (.BoolOp op [a] pos) (tO C f) := pe_one h
def eIf (t : En → R Bool) (f g : En → R D) : En → R D := fun ρ => bd (t ρ) fun c => if c = true then f ρ else g ρ
def eChain (w w' : D → D → R D) (f g k : En → R D) : En → R D := fun ρ => bd (f ρ) fun x => bd (g ρ) fun y => bd (w x y) fun z => match z with
  | .bl true => bd (k ρ) fun u => w' y u
  | .bl false => .ok (.bl false)
  | _ => .bad
theorem chain_ok {r r' : R2} {w w' : D → D → R D} (hr : Op2 C r w) (hr' : Op2 C r' w') : ∀ σ H Q, tO C (eChain w w' f g k) σ H Q → tChain r r' (tR C f) (tR C g) (tR C k) σ H Q := by
  rintro σ H Q ⟨ρ, F, rl, q⟩
  refine ⟨ρ, F, rl, q.fst fun d v F1 H1 _ q x1 s1 p1 => ?_⟩
  refine ⟨ρ, F1, rl.grow x1 s1, ?_⟩
  refine (q.later x1).fst fun e y F2 H2 _ q x2 s2 p2 => ?_
  have q2 := q.later x2
  have x12 := x1.trans x2
  refine hr σ F2 H2 _ d e v y ?_ s2 (p1.mono x2.f x2.h) p2
  refine q2.fst fun z vz F3 H3 _ q x3 s3 p3 => ?_
  have q3 := q.later x3
  cases z with
  | bl b =>
    cases p3
    refine ⟨b, rfl, ?_⟩
    cases b with
    | true =>
      rw [if_pos rfl]
      refine ⟨ρ, F3, (rl.grow x12 s2).grow x3 s3, ?_⟩
      refine q3.fst fun u vu F4 H4 _ q x4 s4 p4 => ?_
      exact hr' σ F4 H4 Q e u y vu ((q.later x4).newer ((x12.h.trans x3.h).trans x4.h)) s4 (p2.mono (x3.f.trans x4.f) (x3.h.trans x4.h)) p4
    | false => rw [if_neg Bool.false_ne_true]; exact fin_flat q3 s3 rfl
  | _ => exact q3.elim
theorem d_chain {op op' : CmpOp} {r r' : R2} {w w' : D → D → R D} (ho : OpR X (compareOp op) r) (ho' : OpR X (compareOp op') r') (hr : Op2 C r w) (hr' : Op2 C r' w') (ha : PE X a (tR C f)) (hb : PE X b (tR C g)) (hc : PE X c (tR C k))
    (hm : lastMarks [op, op'] [b, c] = false := by with_unfolding_all rfl) : PE X (.Compare a [op, op'] [b, c] pos) (tO C (eChain w w' f g k)) :=
  (pe_chain ho ho' ha hb hc hm).mono (chain_ok hr hr')
def dIx : D → D → R D
  | .lst ds, .int i => match atI ds i with | some d => .ok d | none => .bad
  | .tup ds, .int i => match atI ds i with | some d => .ok d | none => .bad
  | .scr ds, .int i => match atI ds i with | some d => .ok (.int d) | none => .bad
  | .str z, .int i => grd (small z.length) (match atI z.cps.toList i with | some c => .ok (.str ⟨#[c]⟩) | none => .bad)
  | _, _ => .bad
theorem Reps.atI {K : Kx} {F : Hp} {ds : List D} {vs : List V} (r : Reps K F ds vs) {i : Int} {d : D} (h : L2.atI ds i = some d) : ∃ v, L2.atI vs i = some v ∧ Rep K F d v := by
  unfold L2.atI at h ⊢
  rw [r.length]
  cases hh : ixN ds.length i with
  | none => rw [hh] at h; cases h
  | some j => rw [hh] at h; exact r.get h
theorem atI_map {α β : Type} (f : α → β) (xs : List α) (i : Int) : L2.atI (xs.map f) i = (L2.atI xs i).map f := by
  unfold L2.atI
  rw [List.length_map]
  cases ixN xs.length i with
  | none => rfl
  | some j => simp
theorem ix_ok {σ : L2.St} {F H : Hp} {Q : VK} {d e : D} {x y : V} (o : Out C σ F H (fun F' H' => Rep C.K F') (dIx d e) Q) (s : Same F H) (w1 : View C.K F H d x) (w2 : View C.K F H e y) : rIx C.K x y H Q := by
  unfold dIx at o
  split at o
  · rename_i ds i
    obtain ⟨p, vs, rfl, h, r⟩ := w1
    cases w2
    split at o
    · rename_i z hz
      obtain ⟨v, h1, h2⟩ := r.atI hz
      exact .inl ⟨p, vs, i, v, rfl, rfl, SqL.of h, h1, o v F H (Ext.refl _ _) s h2⟩
    · exact o.elim
  · rename_i ds i
    obtain ⟨p, vs, rfl, h, r⟩ := w1
    cases w2
    split at o
    · rename_i z hz
      obtain ⟨v, h1, h2⟩ := r.atI hz
      exact .inr (.inl ⟨p, vs, i, v, rfl, rfl, SqT.of h, h1, o v F H (Ext.refl _ _) s h2⟩)
    · exact o.elim
  · rename_i ds i
    obtain ⟨p, rfl, h⟩ := w1
    cases w2
    split at o
    · rename_i z hz
      refine .inl ⟨p, _, i, .int z, rfl, rfl, h, ?_, o _ F H (Ext.refl _ _) s (.int z)⟩
      rw [atI_map, hz]; rfl
    · exact o.elim
  · rename_i z i
    obtain ⟨hz, o⟩ := grd_out o
    cases w1
    cases w2
    split at o
    · rename_i c hc
      exact .inr (.inr ⟨z, i, c, rfl, rfl, of_decide_eq_true hz, hc, o _ F H (Ext.refl _ _) s (.str _)⟩)
    · exact o.elim
  · exact o.elim
def cutD {α : Type} (xs : List α) (lo hi : Option Int) : List α := (xs.drop (HT.sIx xs.length 0 lo)).take (HT.sIx xs.length xs.length hi - HT.sIx xs.length 0 lo)
theorem Reps.cut {K : Kx} {F : Hp} {ds : List D} {vs : List V} (r : Reps K F ds vs) (lo hi : Option Int) : Reps K F (cutD ds lo hi) (cutV vs lo hi) := by
  unfold cutD cutV
  rw [r.length]
  exact (r.drop _).take _
theorem cutD_map {α β : Type} (f : α → β) (xs : List α) (lo hi : Option Int) : cutD (xs.map f) lo hi = (cutD xs lo hi).map f := by
  unfold cutD
  rw [List.length_map, List.map_take, List.map_drop]
def PartOk (C : Cd) (X : Cx) (e : Option Expr) (f : En → R (Option Int)) : Prop := ∃ t : TO, PO X e t ∧ ∀ (σ : L2.St) (ρ : En) (F H : Hp) (W : Hp → Hp → D → V → Prop) (w : Option Int → R D) (Q : VK) (Q' : Option Int → Hp → Prop), Rel C ρ σ F H → Out C σ F H W (bd (f ρ) w) Q →
  (∀ o F' H', f ρ = .ok o → Out C σ F' H' W (w o) Q → Ext F H F' H' → Same F' H' → Q' o H') → t σ H Q'
def asI : D → R (Option Int)
  | .int i => .ok (some i)
  | _ => .bad
theorem part_none : PartOk C X none (fun _ => .ok none) := ⟨tNoPart, po_none, fun σ ρ F H W w Q Q' r o h => h none F H rfl o (Ext.refl _ _) r.sub⟩
theorem part_some (ha : PE X a (tO C f)) : PartOk C X (some a) (fun ρ => bd (f ρ) asI) := ⟨_, po_some ha, fun σ ρ F H W w Q Q' r o h => by
  refine ⟨ρ, F, r, ?_⟩
  cases hf : f ρ with
  | bad => simp only [hf, bd_bad, bd_err] at o; exact o
  | err c => simp only [hf, bd_bad, bd_err] at o; exact o
  | ok d =>
    simp only [hf, bd_ok] at o
    intro v F' H' x s w
    have o := o.later x
    cases d with
    | int i => cases w; exact ⟨i, rfl, h (some i) F' H' (by simp only [hf, bd_ok]; rfl) o x s⟩
    | _ => exact o.elim⟩
def pNone : En → R (Option Int) := fun _ => .ok none
def pSome (f : En → R D) : En → R (Option Int) := fun ρ => bd (f ρ) asI
def dCut : D → Option Int → Option Int → R D
  | .lst ds, lo, hi => .ok (.lst (cutD ds lo hi))
  | .scr ds, lo, hi => .ok (.lst ((cutD ds lo hi).map .int))
  | .tup ds, lo, hi => grd (!(decide (HT.sIx ds.length 0 lo = 0) && decide (HT.sIx ds.length ds.length hi = ds.length))) (.ok (.tup (cutD ds lo hi)))
  | .str z, lo, hi => grd (small z.length) (.ok (.str (cutS z lo hi)))
  | _, _, _ => .bad
def slc (f : En → R D) (fl fh : En → R (Option Int)) : En → R D := fun ρ => bd (f ρ) fun d => bd (fl ρ) fun l => bd (fh ρ) fun h => dCut d l h
theorem p_none : PartOk C X none pNone := part_none
theorem p_some (ha : PE X a (tO C f)) : PartOk C X (some a) (pSome f) := part_some ha
theorem SlR.or {r r' : V → Option Int → Option Int → Hp → VK → Prop} (h : SlR X r) (h' : SlR X r') : SlR X (fun x lo hi H Q => r x lo hi H Q ∨ r' x lo hi H Q) := by
  intro pins s σ H x v vl vu lo hi sl Q I rx hs pl pu q
  rcases q with q | q
  · exact h pins s σ H x v vl vu lo hi sl Q I rx hs pl pu q
  · exact h' pins s σ H x v vl vu lo hi sl Q I rx hs pl pu q
theorem d_slice {lo hi : Option Expr} {fl fh : En → R (Option Int)} {p2 : Pos} (hC : X.K = C.K.fr) (ha : PE X a (tR C f)) (hl : PartOk C X lo fl) (hh : PartOk C X hi fh) :
    PE X (.Subscript a (.Slice lo hi none p2) pos) (tO C (slc f fl fh)) := by
  obtain ⟨tl, pl, hl⟩ := hl
  obtain ⟨th, ph, hh⟩ := hh
  refine (pe_slice (hC ▸ SlR.or sl_list (SlR.or sl_tup sl_str)) ha pl ph).mono ?_
  rintro σ H Q ⟨ρ, F, rl, q⟩
  refine ⟨ρ, F, rl, q.fst fun d v F1 H1 _ q x1 s1 p1 => ?_⟩
  refine hl σ ρ F1 H1 _ _ Q _ (rl.grow x1 s1) (q.later x1) fun l F2 H2 _ q x2 s2 => ?_
  refine hh σ ρ F2 H2 _ _ Q _ ((rl.grow x1 s1).grow x2 s2) q fun h F3 H3 _ q x3 s3 => ?_
  have x13 := (x1.trans x2).trans x3
  have p3 := p1.mono (x2.f.trans x3.f) (x2.h.trans x3.h)
  unfold dCut at q
  split at q
  · obtain ⟨p, vs, rfl, h1, r⟩ := p3
    exact .inl ⟨p, vs, rfl, SqL.of h1, fun z hz => fin_lst q s3 x13.h (r.cut _ _) hz⟩
  · obtain ⟨p, rfl, h1⟩ := p3
    refine .inl ⟨p, _, rfl, h1, fun z hz => fin_lst q s3 x13.h ?_ hz⟩
    rw [show cutV (List.map V.int _) _ _ = _ from cutD_map V.int _ _ _]
    exact Reps.of_ints _
  · obtain ⟨p, vs, rfl, h1, r⟩ := p3
    obtain ⟨z, q⟩ := grd_out q
    refine .inr (.inl ⟨p, vs, rfl, SqT.of h1, fun y => ?_, fun z hz => fin_tup q s3 (r.cut _ _) hz⟩)
    rw [r.length] at y
    rw [decide_eq_true y.1, decide_eq_true y.2] at z
    cases z
  · cases p3
    obtain ⟨z, q⟩ := grd_out q
    exact .inr (.inr ⟨_, rfl, of_decide_eq_true z, fin_flat q s3 rfl⟩)
  · exact q.elim
end
end DL
namespace DL
open PySem PySem.Spec PyProof.Rows L2
section
variable {X : Cx} {C : Cd} {e a b c : Expr} {f g k : En → R D} {pos p : Pos}
abbrev Views (K : Kx) (F H : Hp) : List D → List V → Prop := Paired (View K F H)
theorem Views.mono {K : Kx} {F F' H H' : Hp} (f : Same F F') (h : Same H H') {ds : List D} {vs : List V} (w : Views K F H ds vs) : Views K F' H' ds vs := Paired.mapP w fun _ _ r => r.mono f h
theorem Views.one {K : Kx} {F H : Hp} {d : D} {vs : List V} (w : Views K F H [d] vs) : ∃ v, vs = [v] ∧ View K F H d v := by
  cases w with
  | cons r t => cases t; exact ⟨_, rfl, r⟩
theorem Views.two {K : Kx} {F H : Hp} {d e : D} {vs : List V} (w : Views K F H [d, e] vs) : ∃ v u, vs = [v, u] ∧ View K F H d v ∧ View K F H e u := by
  cases w with
  | cons r t =>
    obtain ⟨u, rfl, q⟩ := Views.one t
    exact ⟨_, u, rfl, r, q⟩
def OutV (C : Cd) (σ : L2.St) (F H : Hp) (x : R (List D)) (Q : List V → Hp → Prop) : Prop := match x with
  | .ok d => ∀ v F' H', Ext F H F' H' → Same F' H' → Views C.K F' H' d v → Q v H'
  | .err c => ∀ F' H', Ext F H F' H' → Same F' H' → C.XW c σ H'
  | .bad => False
def tV (C : Cd) (f : En → R (List D)) : TA := fun σ H Q => ∃ ρ F, Rel C ρ σ F H ∧ OutV C σ F H (f ρ) Q
theorem OutV.later {σ : L2.St} {F H F1 H1 : Hp} {x : R (List D)} {Q : List V → Hp → Prop} (o : OutV C σ F H x Q) (e : Ext F H F1 H1) : OutV C σ F1 H1 x Q := by
  cases x with
  | ok d => exact fun v F' H' x s w => o v F' H' (e.trans x) s w
  | err c => exact fun F' H' x s => o F' H' (e.trans x) s
  | bad => exact o
theorem w_nil : PA X [] (tV C aNil) := pa_nil.mono fun σ H Q ⟨ρ, F, r, q⟩ => q [] F H (Ext.refl _ _) r.sub .nil
theorem w_cons {es : List Expr} {fs : En → R (List D)} (ha : PE X e (tR C f)) (hr : PA X es (tV C fs)) (hs : starEach (e :: es) X.env = (false, eval e X.env) :: starEach es X.env := by rfl) : PA X (e :: es) (tV C (aCons f fs)) :=
  (pa_cons ha hr hs).mono fun σ H Q ⟨ρ, F, r, q⟩ => by
    refine ⟨ρ, F, r, ?_⟩
    unfold aCons at q
    cases hf : f ρ with
    | bad => rw [hf] at q; exact q
    | err c => rw [hf] at q; exact q
    | ok d =>
      rw [hf] at q
      intro v F1 H1 x1 s1 w1
      refine ⟨ρ, F1, r.grow x1 s1, ?_⟩
      have q := OutV.later q x1
      rw [bd_ok] at q
      cases hg : fs ρ with
      | bad => rw [hg] at q; exact q
      | err c => rw [hg] at q; exact q
      | ok ds =>
        rw [hg] at q
        exact fun vs F2 H2 x2 s2 w2 => q (v :: vs) F2 H2 x2 s2 (.cons (w1.mono x2.f x2.h) w2)
def OpL (C : Cd) (r : List V → Hp → VK → Prop) (w : List D → R D) : Prop :=
  ∀ σ F H Q ds vs, Out C σ F H (fun F' H' => New C.K H F' H') (w ds) Q → Same F H → Views C.K F H ds vs → r vs H Q
theorem many {fs : En → R (List D)} {r : List V → Hp → VK → Prop} {w : List D → R D} (hr : OpL C r w) : ∀ σ H Q, tO C (fun ρ => bd (fs ρ) w) σ H Q → tV C fs σ H fun xs H1 => r xs H1 Q := by
  rintro σ H Q ⟨ρ, F, rl, q⟩
  refine ⟨ρ, F, rl, ?_⟩
  cases hf : fs ρ with
  | bad => simp only [hf, bd_bad] at q; exact q
  | err c => simp only [hf, bd_err] at q; exact q
  | ok ds =>
    simp only [hf, bd_ok] at q
    intro v F1 H1 x1 s1 p1
    exact hr σ F1 H1 Q ds v ((Out.later q x1).newer x1.h) s1 p1
theorem d_callB {id : String} {x : Str} {es : List Expr} {fs : En → R (List D)} {r : List V → Hp → VK → Prop} {w : List D → R D} (hc : CallR X (.builtin id) r) (hr : OpL C r w) (hm : X.mg x = none) (hv : bootBuiltins x = some (.builtin id)) (ha : PA X (e :: es) (tV C fs))
    (hg : Gl X x := by rfl) (hn : x ≠ "__name__" := by decide) (hdb : (x == ("__debug__" : Str)) = false := by decide) (he : starEach (e :: es) X.env = (false, eval e X.env) :: starEach es X.env := by rfl) (hpl : (backTo pos (starEach es X.env)).any (·.1) = false := by rfl) :
    PE X (.Call (.Name x p) (e :: es) [] pos) (tO C (nop fs w)) := (pe_callB hc hg hm hv ha hn hdb he hpl).mono (many hr)
theorem d_callTy {T : String} {x : Str} {es : List Expr} {fs : En → R (List D)} {r : List V → Hp → VK → Prop} {w : List D → R D} (hc : CallR X (.type T) r) (hr : OpL C r w) (hm : X.mg x = none) (hv : bootBuiltins x = some (.type T)) (ha : PA X (e :: es) (tV C fs))
    (hg : Gl X x := by rfl) (hn : x ≠ "__name__" := by decide) (hdb : (x == ("__debug__" : Str)) = false := by decide) (he : starEach (e :: es) X.env = (false, eval e X.env) :: starEach es X.env := by rfl) (hpl : (backTo pos (starEach es X.env)).any (·.1) = false := by rfl) :
    PE X (.Call (.Name x p) (e :: es) [] pos) (tO C (nop fs w)) := (pe_callTy hc hg hm hv ha hn hdb he hpl).mono (many hr)
theorem CallR.or {u : Value} {r r' : List V → Hp → VK → Prop} (h : CallR X u r) (h' : CallR X u r') : CallR X u (fun xs H Q => r xs H Q ∨ r' xs H Q) := by
  intro pins s σ H xs us Q I rx q
  rcases q with q | q
  · exact h pins s σ H xs us Q I rx q
  · exact h' pins s σ H xs us Q I rx q
def dLen : List D → R D
  | [.lst ds] => .ok (.int ds.length)
  | [.tup ds] => .ok (.int ds.length)
  | [.scr ds] => .ok (.int ds.length)
  | [.str z] => grd (small z.length) (.ok (.int z.length))
  | [.dK kvs] => .ok (.int kvs.length)
  | [.rows ds] => .ok (.int ds.length)
  | _ => .bad
theorem RepK.length {K : Kx} {F : Hp} : ∀ {ds : List (Key × D)} {vs : List (Key × V)}, RepK K F ds vs → vs.length = ds.length
  | _, _, .nil => rfl
  | _, _, .cons _ t => congrArg (· + 1) (RepK.length t)
theorem len_ok : OpL C (fun xs H Q => (∃ x n, xs = [x] ∧ LenV C.K x H n ∧ Q (.int n) H) ∨ ∃ p kvs, xs = [.ref p] ∧ Rd H p (.dK kvs) ∧ Q (.int (kvs.length : Nat)) H) dLen := by
  intro σ F H Q ds vs o s w
  unfold dLen at o
  split at o
  · obtain ⟨v, rfl, p, vs, rfl, h, r⟩ := w.one
    exact .inl ⟨_, _, rfl, .inl ⟨vs, SqL.of h, r.length.symm⟩, fin_flat o s rfl⟩
  · obtain ⟨v, rfl, p, vs, rfl, h, r⟩ := w.one
    exact .inl ⟨_, _, rfl, .inr ⟨vs, SqT.of h, r.length.symm⟩, fin_flat o s rfl⟩
  · obtain ⟨v, rfl, p, rfl, h⟩ := w.one
    exact .inl ⟨_, _, rfl, .inl ⟨_, h, (List.length_map _).symm⟩, fin_flat o s rfl⟩
  · obtain ⟨z, o⟩ := grd_out o
    obtain ⟨v, rfl, h⟩ := w.one
    cases h
    exact .inl ⟨_, _, rfl, ⟨of_decide_eq_true z, rfl⟩, fin_flat o s rfl⟩
  · obtain ⟨v, rfl, p, vs, rfl, h, r⟩ := w.one
    refine .inr ⟨p, vs, rfl, h, ?_⟩
    rw [r.length]
    exact fin_flat o s rfl
  · obtain ⟨v, rfl, p, vs, rfl, h, r⟩ := w.one
    exact .inl ⟨_, _, rfl, .inl ⟨vs, SqL.of h, by rcases r with r | r <;> exact r.length.symm⟩, fin_flat o s rfl⟩
  · exact o.elim
end
end DL
namespace DL
open PySem PySem.Spec PyProof.Rows L2
inductive Fl where
  | next (ρ : En) | ret (o : Bool) (d : D) | brk (ρ : En) | cont (ρ : En)
def RetP (C : Cd) (F H : Hp) (o : Bool) (d : D) (v : V) : Prop := if o = true then New C.K C.H0 F H d v else Rep C.K F d v
def feet (H : Hp) : List Addr → List D → List Addr
  | a :: as, d :: ds => foot H a d ++ feet H as ds
  | _, _ => []
def OwnAll (K : Kx) (F H H0 : Hp) (as : List Addr) (es : List D) : Prop :=
  as.length = es.length ∧ (feet H as es).Nodup ∧ (∀ b ∈ feet H as es, F b = none ∧ H0 b = none) ∧ ∀ (k : Nat) (a : Addr) (e : D), as[k]? = some a → es[k]? = some e → Own K F H a e
def RetV (C : Cd) (F H : Hp) (o : Bool) (d : D) (v : V) : Prop := match C.io with
  | [] => RetP C F H o d v
  | as => o = false ∧ ∃ d0 es, d = .tup (d0 :: es) ∧ Rep C.K F d0 v ∧ OwnAll C.K F H C.H0 as es
theorem RetV.of {C : Cd} {F H : Hp} {o : Bool} {d : D} {v : V} (h : C.io = []) (w : RetP C F H o d v) : RetV C F H o d v := by
  unfold RetV; rw [h]; exact w
theorem RetV.ofE {C : Cd} {F H : Hp} {d : D} {v : V} (h : C.io = []) (w : Rep C.K F d v) : RetV C F H false d v := .of h (by unfold RetP; rw [if_neg Bool.false_ne_true]; exact w)
theorem RetV.ofO {C : Cd} {F H : Hp} {d : D} {v : V} (h : C.io = []) (w : New C.K C.H0 F H d v) : RetV C F H true d v := .of h (by unfold RetP; rw [if_pos rfl]; exact w)
def Post (C : Cd) (T : Ends) (B : Hp) : R Fl → Prop
  | .ok (.next ρ) => ∀ σ F H, Same B F → Rel C ρ σ F H → T.nx σ H
  | .ok (.brk ρ) => ∀ σ F H, Same B F → Rel C ρ σ F H → T.bk σ H
  | .ok (.cont ρ) => ∀ σ F H, Same B F → Rel C ρ σ F H → T.ct σ H
  | .ok (.ret o d) => ∀ v F H, Ext C.F0 C.H0 F H → Same F H → RetV C F H o d v → T.rt v H
  | .err c => ∀ ρ σ F H, Rel C ρ σ F H → C.XW c σ H
  | .bad => False
theorem Post.up {C : Cd} {T : Ends} {B B' : Hp} {x : R Fl} (q : Post C T B x) (s : Same B B') : Post C T B' x := by
  cases x with
  | bad => exact q
  | err c => exact q
  | ok r =>
    cases r with
    | next ρ => exact fun σ F H z => q σ F H (s.trans z)
    | brk ρ => exact fun σ F H z => q σ F H (s.trans z)
    | cont ρ => exact fun σ F H z => q σ F H (s.trans z)
    | ret o d => exact q
def tS (C : Cd) (g : En → R Fl) : TS := fun T σ H => ∃ ρ F, Rel C ρ σ F H ∧ Post C T F (g ρ)
section
variable {X : Cx} {C : Cd} {e a b c : Expr} {f g k : En → R D} {pos p : Pos} {st : Stmt} {rest : List Stmt} {s1 s2 : En → R Fl}
theorem Rel.err {ρ : En} {σ : L2.St} {F H F' H' : Hp} {T : Ends} {c : Str} {B : Hp} (r : Rel C ρ σ F H) (q : Post C T B (.err c)) (x : Ext F H F' H') (s : Same F' H') : C.XW c σ H' := q ρ σ F' H' (r.grow x s)
theorem out_of {σ : L2.St} {ρ : En} {F H : Hp} {W : Hp → Hp → D → V → Prop} {x : R D} {w : D → R Fl} {T : Ends} {Q : VK} (r : Rel C ρ σ F H) (q : Post C T F (bd x w))
    (h : ∀ d v F' H', x = .ok d → Post C T F' (w d) → Ext F H F' H' → Same F' H' → Rel C ρ σ F' H' → W F' H' d v → Q v H') : Out C σ F H W x Q := by
  cases x with
  | bad => exact q
  | err c => exact fun F' H' x s => r.err q x s
  | ok d => exact fun v F' H' x s w => h d v F' H' rfl (Post.up q x.f) x s (r.grow x s) w
theorem outT_of {σ : L2.St} {ρ : En} {F H : Hp} {x : R Bool} {w : Bool → R Fl} {T : Ends} {Q : Bool → Hp → Prop} (r : Rel C ρ σ F H) (q : Post C T F (bd x w))
    (h : ∀ d F' H', x = .ok d → Post C T F' (w d) → Same F F' → Rel C ρ σ F' H' → Q d H') : OutT C σ F H x Q := by
  cases x with
  | bad => exact q
  | err c => exact fun F' H' x s => r.err q x s
  | ok d => exact fun F' H' x s => h d F' H' rfl (Post.up q x.f) x.f (r.grow x s)
def sSkip : En → R Fl := fun ρ => .ok (.next ρ)
def sSeq (s t : En → R Fl) : En → R Fl := fun ρ => bd (s ρ) fun r => match r with
  | .next ρ' => t ρ'
  | r => .ok r
theorem ss_nil : PSs X [] (tS C sSkip) := pss_nil.mono fun T σ H ⟨ρ, F, r, q⟩ => q σ F H (Same.refl _) r
theorem post_seq {T : Ends} {B : Hp} {x : R Fl} {t : En → R Fl} (q : Post C T B (bd x fun r => match r with | .next ρ' => t ρ' | r => .ok r)) : Post C { T with nx := tS C t T } B x := by
  cases x with
  | bad => exact q
  | err c => exact q
  | ok r =>
    cases r with
    | next ρ => exact fun σ F H s r => ⟨ρ, F, r, Post.up q s⟩
    | ret o d => exact q
    | brk ρ => exact q
    | cont ρ => exact q
theorem ss_cons (h1 : PS X st (tS C s1)) (h2 : PSs X rest (tS C s2)) : PSs X (st :: rest) (tS C (sSeq s1 s2)) := (pss_cons h1 h2).mono fun T σ H ⟨ρ, F, r, q⟩ => ⟨ρ, F, r, post_seq q⟩
theorem ss_one (h1 : PS X st (tS C s1)) : PSs X [st] (tS C s1) := pss_one h1
def sStl (is : List Nat) (s : En → R Fl) : En → R Fl := fun ρ => s (settle ρ is)
theorem s_settle (is : List Nat) (h : PS X st (tS C s1)) : PS X st (tS C (sStl is s1)) := h.mono fun T σ H ⟨ρ, F, r, q⟩ => by
  obtain ⟨F', sf, r'⟩ := r.settle is
  exact ⟨_, F', r', Post.up q sf⟩
def sBrk : En → R Fl := fun ρ => .ok (.brk ρ)
def sCont : En → R Fl := fun ρ => .ok (.cont ρ)
def sIf (t : En → R Bool) (s1 s2 : En → R Fl) : En → R Fl := fun ρ => bd (t ρ) fun c => if c = true then s1 ρ else s2 ρ
theorem s_if {t : En → R Bool} {bs cs : List Stmt} (hc : PT X c (tT C t)) (ha : PSs X bs (tS C s1)) (hb : PSs X cs (tS C s2)) : PS X (.If c bs cs pos) (tS C (sIf t s1 s2)) :=
  (ps_if hc ha hb).mono fun T σ H ⟨ρ, F, r, q⟩ => ⟨ρ, F, r, outT_of r q fun d F' H' _ q _ r => by
    cases d with
    | true => rw [if_pos rfl] at q ⊢; exact ⟨ρ, F', r, q⟩
    | false => rw [if_neg Bool.false_ne_true] at q ⊢; exact ⟨ρ, F', r, q⟩⟩
def sRet (f : En → R D) : En → R Fl := fun ρ => bd (f ρ) fun d => .ok (.ret false d)
def sRetO (f : En → R D) : En → R Fl := fun ρ => bd (f ρ) fun d => .ok (.ret true d)
theorem Rel.new {ρ : En} {σ : L2.St} {F H : Hp} {H1 F' H' : Hp} {d : D} {v : V} (r : Rel C ρ σ F H) (s : Same H H1) (w : New C.K H F' H' d v) : New C.K C.H0 F' H' d v := w.later r.ext.h
theorem s_ret (he : PE X e (tE C f)) (hio : C.io = [] := by rfl) : PS X (.Return (some e) pos) (tS C (sRet f)) := (ps_ret he).mono fun T σ H ⟨ρ, F, r, q⟩ => ⟨ρ, F, r, out_of r q fun d v F' H' _ q x s r w => q v F' H' r.ext s (.ofE hio w)⟩
theorem s_retO (he : PE X e (tO C f)) (hio : C.io = [] := by rfl) : PS X (.Return (some e) pos) (tS C (sRetO f)) := (ps_ret he).mono fun T σ H ⟨ρ, F, r, q⟩ => ⟨ρ, F, r, out_of r q fun d v F' H' _ q x s r' w => q v F' H' r'.ext s (.ofO hio (w.later r.ext.h))⟩
def rdO (i : Nat) : En → R D := fun ρ => match ρ[i]? with
  | some (some (true, d)) => .ok d
  | some (some (false, d)) => if isC d = true then .bad else .ok d
  | _ => .bad
theorem s_retN {i : Nat} (he : PE X e (tVar i)) (hio : C.io = [] := by rfl) : PS X (.Return (some e) pos) (tS C (sRetO (rdO i))) := (ps_ret he).mono fun T σ H ⟨ρ, F, r, q⟩ => by
  unfold sRetO rdO at q
  split at q
  · rename_i d h
    obtain ⟨v, hv, n, nd, o⟩ := r.ownF i d h
    refine ⟨_, hv, q _ F H r.ext r.sub ?_⟩
    refine .ofO hio ?_
    exact .mk (fun b hb => ⟨(n b hb).2, (n b hb).1⟩) nd o
  · rename_i d h
    obtain ⟨v, hv, w⟩ := r.slot i d h
    split at q
    · exact q.elim
    · rename_i hd
      refine ⟨_, hv, q _ F H r.ext r.sub ?_⟩
      refine .ofO hio ?_
      exact New.of_rep (by simpa using hd) w
  · exact q.elim
def sRetNone : En → R Fl := fun _ => .ok (.ret false .non)
def stE (i : Nat) (d : D) (ρ : En) : R Fl := .ok (.next (ρ.set i (some (false, d))))
def stO (i : Nat) (d : D) (ρ : En) : R Fl := .ok (.next (ρ.set i (some (isC d, d))))
def sSet (i : Nat) (f : En → R D) : En → R Fl := fun ρ => bd (f ρ) fun d => stE i d ρ
def sSetO (i : Nat) (f : En → R D) : En → R Fl := fun ρ => bd (f ρ) fun d => stO i d ρ
theorem Rel.setN {ρ : En} {σ : L2.St} {F H H1 : Hp} {i : Nat} {d : D} {v : V} (r : Rel C ρ σ F H) (h1 : ∀ (j : Nat) (e : D) (b c : Addr), ρ[j]? = some (some (true, e)) → σ[j]? = some (some (V.ref b)) → c ∈ foot H b e → ∃ u, H1 c = some u) (h0 : ∀ a, H1 a = none → C.H0 a = none) (w : New C.K H1 F H d v) (hl : C.ln i = none) :
    Rel C (ρ.set i (some (isC d, d))) (σ.set i (some v)) F H := by
  cases hc : isC d with
  | true =>
    obtain ⟨a, rfl, n, nd, o⟩ := w.own hc
    exact r.setO hl (fun b hb => ⟨(n b hb).2, h0 b (n b hb).1⟩) nd o fun j e b c hj hs h5 h6 => by
      obtain ⟨u, hu⟩ := h1 j e b c hj hs h6
      rw [(n c h5).1] at hu
      cases hu
  | false => exact r.set (w.isRep hc) hl
theorem Rel.old {ρ : En} {σ : L2.St} {F H H' : Hp} (r : Rel C ρ σ F H) (s : Same H H') : ∀ (j : Nat) (e : D) (b c : Addr), ρ[j]? = some (some (true, e)) → σ[j]? = some (some (V.ref b)) → c ∈ foot H' b e → ∃ u, H c = some u := fun j e b c hj hs hc => by
  obtain ⟨a', q, _, _, o⟩ := r.ownF j e hj
  rw [hs] at q
  cases q
  rw [foot_grow s o] at hc
  exact o.foot c hc
theorem s_set {i : Nat} {x : Str} {pos' : Pos} (he : PE X e (tE C f)) (hN : X.N.Nodup) (hi : X.N[i]? = some x := by rfl) (hx : Loc X.env.scope x := by first | exact .inl rfl | exact .inr rfl) (hs : swapsWith e (some (.Name x pos')) pos.line X.env = pure false := by rfl)
    (hf : X.fn x = true ∨ X.env.scope.names.lookup x = some .local := by first | exact .inl rfl | exact .inr rfl | assumption) (hl : C.ln i = none := by rfl) : PS X (.Assign [.Name x pos'] e pos) (tS C (sSet i f)) :=
  (ps_set hN hi hx he hs hf).mono fun T σ H ⟨ρ, F, r, q⟩ => ⟨ρ, F, r, out_of r q fun d v F' H' _ q x s r w => q _ F' H' (Same.refl _) (r.set w hl)⟩
theorem s_setO {i : Nat} {x : Str} {pos' : Pos} (he : PE X e (tO C f)) (hN : X.N.Nodup) (hi : X.N[i]? = some x := by rfl) (hx : Loc X.env.scope x := by first | exact .inl rfl | exact .inr rfl) (hs : swapsWith e (some (.Name x pos')) pos.line X.env = pure false := by rfl)
    (hf : X.fn x = true ∨ X.env.scope.names.lookup x = some .local := by first | exact .inl rfl | exact .inr rfl | assumption) (hl : C.ln i = none := by rfl) : PS X (.Assign [.Name x pos'] e pos) (tS C (sSetO i f)) :=
  (ps_set hN hi hx he hs hf).mono fun T σ H ⟨ρ, F, r, q⟩ => ⟨ρ, F, r, out_of r q fun d v F' H' _ q x s r' w => q _ F' H' (Same.refl _) (r'.setN (r.old x.h) (fun a h => r.ext.h.free h) w hl)⟩
theorem wipe_set {i : Nat} {x : Option V} : ∀ {σ : L2.St} {own : List Nat}, i ∈ own → wipe (σ.set i x) own = wipe σ own
  | σ, v :: own, h => by
    unfold wipe
    by_cases e : i = v
    · subst e
      by_cases h2 : i ∈ own
      · rw [wipe_set h2]
      · have aux : ∀ (own : List Nat) (σ : L2.St), i ∉ own → wipe (σ.set i x) own = (wipe σ own).set i x := by
          intro own
          induction own with
          | nil => intro σ _; rfl
          | cons w own ih =>
            intro σ hn
            unfold wipe
            rw [ih σ fun z => hn (List.mem_cons_of_mem _ z), List.set_comm _ _ (fun z => hn (by rw [z]; exact List.mem_cons_self))]
        rw [aux own σ h2, List.set_set]
    · have h2 : i ∈ own := by
        rcases List.mem_cons.mp h with z | z
        · exact absurd z e
        · exact z
      rw [wipe_set h2]
theorem wipe_wipe : ∀ (own more : List Nat) (σ : L2.St), (∀ i ∈ more, i ∈ own) → wipe (wipe σ more) own = wipe σ own
  | own, [], σ, _ => rfl
  | own, i :: more, σ, h => by
    show wipe ((wipe σ more).set i none) own = _
    rw [wipe_set (h i List.mem_cons_self), wipe_wipe own more σ fun j hj => h j (List.mem_cons_of_mem _ hj)]
def tG (C : Cd) (vs : List Nat) (g : D → En → Option En) : TG := fun v σ H Q => ∃ ρ F d, Rel C ρ σ F H ∧ Rep C.K F d v ∧ match g d ρ with
  | some ρ' => ∀ σ', wipe σ' vs = wipe σ vs → Rel C ρ' σ' F H → Q σ' H
  | none => False
def tGs (C : Cd) (vs : List Nat) (g : List D → En → Option En) : TGs := fun ws σ H Q => ∃ ρ F ds, Rel C ρ σ F H ∧ Reps C.K F ds ws ∧ match g ds ρ with
  | some ρ' => ∀ σ', wipe σ' vs = wipe σ vs → Rel C ρ' σ' F H → Q σ' H
  | none => False
theorem _root_.L2.PG.mono {X : Cx} {e : Expr} {t t' : TG} (h : PG X e t) (m : ∀ v σ H Q, t' v σ H Q → t v σ H Q) : PG X e t' := ⟨fun pins s σ H v u Q I r q => h.run pins s σ H v u Q I r (m v σ H Q q)⟩
theorem _root_.L2.PGs.mono {X : Cx} {e : List Expr} {t t' : TGs} (h : PGs X e t) (m : ∀ v σ H Q, t' v σ H Q → t v σ H Q) : PGs X e t' := ⟨fun pins s σ H v u Q I r q => h.run pins s σ H v u Q I r (m v σ H Q q)⟩
def gSet (i : Nat) : D → En → Option En := fun d ρ => some (ρ.set i (some (false, d)))
theorem g_name {i : Nat} {x : Str} {own : List Nat} (hN : X.N.Nodup) (hi : X.N[i]? = some x := by rfl) (ho : i ∈ own := by decide) (hx : Loc X.env.scope x := by first | exact .inl rfl | exact .inr rfl) (hf : X.fn x = true ∨ X.env.scope.names.lookup x = some .local := by first | exact .inl rfl | exact .inr rfl | assumption) (hl : C.ln i = none := by rfl) :
    PG X (.Name x pos) (tG C own (gSet i)) := (pg_name hN hi hx hf).mono fun v σ H Q ⟨ρ, F, d, r, w, q⟩ => q _ (wipe_set ho) (r.set w hl)
def gsNil : List D → En → Option En := fun ds ρ => match ds with | [] => some ρ | _ => none
def gsCons (g : D → En → Option En) (gs : List D → En → Option En) : List D → En → Option En := fun ds ρ => match ds with | d :: ds => (g d ρ).bind (gs ds) | [] => none
theorem gs_nil {own : List Nat} : PGs X [] (tGs C own gsNil) := pgs_nil.mono fun v σ H Q ⟨ρ, F, ds, r, w, q⟩ => by
  cases ds with
  | nil => cases w; exact ⟨rfl, q σ rfl r⟩
  | cons d ds => exact q.elim
theorem gs_cons {own : List Nat} {es : List Expr} {gg : D → En → Option En} {gs : List D → En → Option En} (h1 : PG X e (tG C own gg)) (h2 : PGs X es (tGs C own gs)) (hs : (assignEach (e :: es) X.env).map (·.2) = assign e X.env :: (assignEach es X.env).map (·.2) := by rfl) :
    PGs X (e :: es) (tGs C own (gsCons gg gs)) := (pgs_cons h1 h2 hs).mono fun v σ H Q ⟨ρ, F, ds, r, w, q⟩ => by
  cases w with
  | nil => exact q.elim
  | @cons d v ds vs w ws =>
    refine ⟨v, vs, rfl, ρ, F, d, r, w, ?_⟩
    have q' : match (gg d ρ).bind (gs ds) with | some ρ' => ∀ σ', wipe σ' own = wipe σ own → Rel C ρ' σ' F H → Q σ' H | none => False := q
    cases hg : gg d ρ with
    | none => rw [hg] at q'; exact q'
    | some ρ1 =>
      rw [hg] at q'
      refine fun σ1 e1 r1 => ⟨ρ1, F, ds, r1, ws, ?_⟩
      have q2 : match gs ds ρ1 with | some ρ' => ∀ σ', wipe σ' own = wipe σ own → Rel C ρ' σ' F H → Q σ' H | none => False := q'
      cases hh : gs ds ρ1 with
      | none => rw [hh] at q2; exact q2
      | some ρ2 => rw [hh] at q2; exact fun σ2 e2 r2 => q2 σ2 (e2.trans e1) r2
def gTupD (n : Nat) (gs : List D → En → Option En) : D → En → Option En := fun d ρ => match d with
  | .tup ds => if ds.length = n then gs ds ρ else none
  | _ => none
theorem g_tup {own : List Nat} {es : List Expr} {kk n : Nat} {gs : List D → En → Option En} (hc : X.calm = true) (h : PGs X es (tGs C own gs)) (hn : (assignEach es X.env).length = n := by rfl) (hst : (assignEach es X.env).findIdx? (·.1) = none := by rfl) :
    PG X (.Tuple es kk pos) (tG C own (gTupD n gs)) := (pg_tup hc h hn hst).mono fun v σ H Q ⟨ρ, F, d, r, w, q⟩ => by
  unfold gTupD at q
  cases w with
  | @tup a vs ds ha ws =>
    by_cases hd : ds.length = n
    · simp only [hd, if_true] at q
      exact ⟨a, vs, rfl, SqT.of (r.sub _ _ ha), by rw [ws.length]; exact hd, ρ, F, ds, r, ws, q⟩
    · simp only [hd, if_false] at q
  | _ => exact q.elim
def gLstD (n : Nat) (gs : List D → En → Option En) : D → En → Option En := fun d ρ => match d with
  | .lst ds => if ds.length = n then gs ds ρ else none
  | _ => none
theorem g_lst {own : List Nat} {es : List Expr} {kk n : Nat} {gs : List D → En → Option En} (hc : X.calm = true) (h : PGs X es (tGs C own gs)) (hn : (assignEach es X.env).length = n := by rfl) (hst : (assignEach es X.env).findIdx? (·.1) = none := by rfl) :
    PG X (.Tuple es kk pos) (tG C own (gLstD n gs)) := (pg_unl hc h hn hst).mono fun v σ H Q ⟨ρ, F, d, r, w, q⟩ => by
  unfold gLstD at q
  cases w with
  | @lst a vs ds ha ws =>
    by_cases hd : ds.length = n
    · simp only [hd, if_true] at q
      exact ⟨a, vs, rfl, SqL.of (r.sub _ _ ha), by rw [ws.length]; exact hd, ρ, F, ds, r, ws, q⟩
    · simp only [hd, if_false] at q
  | _ => exact q.elim
def sUnp (f : En → R D) (g : D → En → Option En) : En → R Fl := fun ρ => bd (f ρ) fun d => match g d ρ with
  | some ρ' => .ok (.next ρ')
  | none => .bad
theorem s_unp {gg : D → En → Option En} (he : PE X e (tE C f)) {own : List Nat} (hg : PG X a (tG C own gg)) (hs : swapsWithSole [a] e pos.line X.env = pure false := by rfl) (hw : swappedStores [a] e X.env = pure none := by rfl)
    (h1 : (assignEach [a] X.env).map (·.2) = [assign a X.env] := by rfl) : PS X (.Assign [a] e pos) (tS C (sUnp f gg)) :=
  (ps_asg he hg hs hw h1).mono fun T σ H ⟨ρ, F, r, q⟩ => ⟨ρ, F, r, out_of r q fun d v F' H' _ q x s r w => by
    refine ⟨ρ, F', d, r, w, ?_⟩
    cases hg : gg d ρ with
    | none => rw [hg] at q; exact q.elim
    | some ρ1 => rw [hg] at q; exact fun σ1 _ r1 => q σ1 F' H' (Same.refl _) r1⟩
end
end DL
namespace DL
open PySem PySem.Spec PyProof.Rows L2
def IterOk (K : Kx) (J : It) (B F : Hp) (ds : List D) : Prop := ∀ i F2 H2, Same B H2 → Same F F2 → Same F2 H2 →
  (i < ds.length → J.go i H2 ∧ ∀ x H3, J.yld i H2 x H3 → ∃ F3 d, ds[i]? = some d ∧ Ext F2 H2 F3 H3 ∧ Same F3 H3 ∧ Rep K F3 d x) ∧ (i = ds.length → J.stop i H2)
theorem IterOk.base {K : Kx} {J : It} {B B' F : Hp} {ds : List D} (h : IterOk K J B F ds) (s : Same B B') : IterOk K J B' F ds := fun i F2 H2 b => h i F2 H2 (s.trans b)
def jn (A B : Hp) : Hp := fun a => match A a with
  | some o => some o
  | none => B a
theorem jn_l {A B : Hp} : Same A (jn A B) := fun a o h => by unfold jn; rw [h]
theorem jn_in {A B H : Hp} (h1 : Same A H) (h2 : Same B H) : Same (jn A B) H := fun a o h => by
  unfold jn at h
  cases e : A a with
  | none => rw [e] at h; exact h2 _ _ h
  | some u => rw [e] at h; cases h; exact h1 _ _ e
def OutI (C : Cd) (st : Bool) (σ : L2.St) (F H : Hp) (x : R (List D)) (Q : It → Hp → Prop) : Prop := match x with
  | .ok ds => ∀ J F' H', Ext F H F' H' → Same F' H' → IterOk C.K J (if st = true then jn F' C.H0 else H') F' ds → Q J H'
  | .err c => ∀ F' H', Ext F H F' H' → Same F' H' → C.XW c σ H'
  | .bad => False
def tI (C : Cd) (st : Bool) (f : En → R (List D)) : TI := fun σ H Q => ∃ ρ F, Rel C ρ σ F H ∧ OutI C st σ F H (f ρ) Q
theorem _root_.L2.PI.mono {X : Cx} {tg e : Expr} {t t' : TI} (h : PI X tg e t) (m : ∀ σ H Q, t' σ H Q → t σ H Q) : PI X tg e t' := ⟨fun pins s σ H Q I q => h.run pins s σ H Q I (m σ H Q q)⟩
theorem _root_.L2.PI.or {X : Cx} {tg e : Expr} {t t' : TI} (h : PI X tg e t) (h' : PI X tg e t') : PI X tg e (fun σ H Q => t σ H Q ∨ t' σ H Q) := ⟨fun pins s σ H Q I q => by
  rcases q with q | q
  · exact h.run pins s σ H Q I q
  · exact h'.run pins s σ H Q I q⟩
section
variable {X : Cx} {C : Cd} {e a b c tg : Expr} {f g k : En → R D} {pos p : Pos} {st : Stmt} {rest : List Stmt} {s1 s2 : En → R Fl} {K : Kx}
theorem OutI.later {st : Bool} {σ : L2.St} {F H F1 H1 : Hp} {x : R (List D)} {Q : It → Hp → Prop} (o : OutI C st σ F H x Q) (e : Ext F H F1 H1) : OutI C st σ F1 H1 x Q := by
  cases x with
  | ok d => exact fun J F' H' x s w => o J F' H' (e.trans x) s w
  | err c => exact fun F' H' x s => o F' H' (e.trans x) s
  | bad => exact o
theorem iter_list {B F : Hp} {l : Addr} {vs : List V} {ds : List D} (h : SqL K B l vs) (r : Reps K F ds vs) : IterOk K (Itl K l) B F ds := fun i F2 H2 b f s => by
  have q := b.seq h
  refine ⟨fun hi => ?_, fun hi => ⟨vs, q, by rw [r.length]; omega⟩⟩
  obtain ⟨v, hv, w⟩ := r.get (List.getElem?_eq_getElem hi)
  refine ⟨⟨vs, v, q, hv⟩, fun x H3 y => ?_⟩
  obtain ⟨rfl, y⟩ := y
  have e := (y vs q).symm.trans hv
  cases e
  exact ⟨F2, _, List.getElem?_eq_getElem hi, Ext.refl _ _, s, w.mono f⟩
theorem iter_tup {B F : Hp} {l : Addr} {vs : List V} {ds : List D} (h : SqT K B l vs) (r : Reps K F ds vs) : IterOk K (Itt K l) B F ds := fun i F2 H2 b f s => by
  have q := Same.seqT b h
  refine ⟨fun hi => ?_, fun hi => ⟨vs, q, by rw [r.length]; omega⟩⟩
  obtain ⟨v, hv, w⟩ := r.get (List.getElem?_eq_getElem hi)
  refine ⟨⟨vs, v, q, hv⟩, fun x H3 y => ?_⟩
  obtain ⟨rfl, y⟩ := y
  have e := (y vs q).symm.trans hv
  cases e
  exact ⟨F2, _, List.getElem?_eq_getElem hi, Ext.refl _ _, s, w.mono f⟩
theorem iter_range {B F : Hp} {lo : Int} {n : Nat} : IterOk K (Itr lo n) B F ((List.range n).map fun i => D.int (lo + (i : Nat))) := fun i F2 H2 b f s => by
  refine ⟨fun hi => ?_, fun hi => ?_⟩
  · rw [List.length_map, List.length_range] at hi
    refine ⟨hi, fun x H3 y => ?_⟩
    obtain ⟨rfl, rfl⟩ := y
    refine ⟨F2, .int (lo + i), ?_, Ext.refl _ _, s, .int _⟩
    rw [List.getElem?_map, List.getElem?_range hi]
    rfl
  · rw [List.length_map, List.length_range] at hi
    exact Nat.le_of_eq hi.symm
def signs (z : Str) : List D := z.cps.toList.map fun c => D.str ⟨#[c]⟩
theorem iter_str {B F : Hp} {z : Str} : IterOk K (Its z) B F (signs z) := fun i F2 H2 b f s => by
  have hl : (signs z).length = z.cps.size := by unfold signs; rw [List.length_map, Array.length_toList]
  refine ⟨fun hi => ?_, fun hi => ?_⟩
  · rw [hl] at hi
    refine ⟨hi, fun x H3 y => ?_⟩
    obtain ⟨rfl, c, hc, rfl⟩ := y
    refine ⟨F2, .str ⟨#[c]⟩, ?_, Ext.refl _ _, s, .str _⟩
    unfold signs
    rw [List.getElem?_map, Array.getElem?_toList, hc]
    rfl
  · rw [hl] at hi
    exact Nat.le_of_eq hi.symm
def itD : D → R (List D)
  | .lst ds => .ok ds
  | .tup ds => .ok ds
  | .scr ns => .ok (ns.map .int)
  | .str z => .ok (signs z)
  | _ => .bad
def itr (f : En → R D) : En → R (List D) := fun ρ => bd (f ρ) itD
def irg (f : En → R (List D)) (w : List D → R (List D)) : En → R (List D) := fun ρ => bd (f ρ) w
theorem i_seqE (hC : X.K = C.K.fr) (ha : PE X e (tE C f)) : PI X tg e (tI C true (itr f)) :=
  (PI.or (pi_list ha) (PI.or (pi_tup ha) (pi_str ha))).mono fun σ H Q ⟨ρ, F, r, q⟩ => by
    unfold itr at q
    rw [hC]
    cases hf : f ρ with
    | bad => simp only [hf, bd_bad] at q; exact q.elim
    | err c => simp only [hf, bd_err] at q; exact .inl ⟨ρ, F, r, by rw [hf]; exact q⟩
    | ok d =>
      simp only [hf, bd_ok] at q
      cases d with
      | lst ds =>
        refine .inl ⟨ρ, F, r, ?_⟩
        rw [hf]
        intro v F' H' x s w
        cases w with
        | lst ha rr => exact ⟨_, rfl, ⟨_, SqL.of (s _ _ ha)⟩, q _ F' H' x s (iter_list (SqL.of (by rw [if_pos rfl]; exact jn_l _ _ ha)) rr)⟩
      | scr ds =>
        refine .inl ⟨ρ, F, r, ?_⟩
        rw [hf]
        intro v F' H' x s w
        cases w with
        | scr ha => exact ⟨_, rfl, ⟨_, s.seq ha⟩, q _ F' H' x s (iter_list (by rw [if_pos rfl]; exact jn_l.seq ha) (Reps.of_ints _))⟩
      | tup ds =>
        refine .inr (.inl ⟨ρ, F, r, ?_⟩)
        rw [hf]
        intro v F' H' x s w
        cases w with
        | tup ha rr => exact ⟨_, rfl, ⟨_, SqT.of (s _ _ ha)⟩, q _ F' H' x s (iter_tup (SqT.of (by rw [if_pos rfl]; exact jn_l _ _ ha)) rr)⟩
      | str z =>
        refine .inr (.inr ⟨ρ, F, r, ?_⟩)
        rw [hf]
        intro v F' H' x s w
        cases w
        exact ⟨z, rfl, q _ F' H' x s iter_str⟩
      | _ => exact q.elim
theorem i_seqR (hC : X.K = C.K.fr) (ha : PE X e (tR C f)) : PI X tg e (tI C false (itr f)) :=
  (PI.or (pi_list ha) (PI.or (pi_tup ha) (pi_str ha))).mono fun σ H Q ⟨ρ, F, r, q⟩ => by
    unfold itr at q
    rw [hC]
    cases hf : f ρ with
    | bad => simp only [hf, bd_bad] at q; exact q.elim
    | err c => simp only [hf, bd_err] at q; exact .inl ⟨ρ, F, r, by rw [hf]; exact q⟩
    | ok d =>
      simp only [hf, bd_ok] at q
      cases d with
      | lst ds =>
        refine .inl ⟨ρ, F, r, ?_⟩
        rw [hf]
        intro v F' H' x s w
        obtain ⟨l, vs, rfl, ha, rr⟩ := w
        exact ⟨_, rfl, ⟨_, SqL.of ha⟩, q _ F' H' x s (iter_list (SqL.of (by simpa using ha)) rr)⟩
      | scr ds =>
        refine .inl ⟨ρ, F, r, ?_⟩
        rw [hf]
        intro v F' H' x s w
        obtain ⟨l, rfl, ha⟩ := w
        exact ⟨_, rfl, ⟨_, ha⟩, q _ F' H' x s (iter_list (by simpa using ha) (Reps.of_ints _))⟩
      | tup ds =>
        refine .inr (.inl ⟨ρ, F, r, ?_⟩)
        rw [hf]
        intro v F' H' x s w
        obtain ⟨l, vs, rfl, ha, rr⟩ := w
        exact ⟨_, rfl, ⟨_, SqT.of ha⟩, q _ F' H' x s (iter_tup (SqT.of (by simpa using ha)) rr)⟩
      | str z =>
        refine .inr (.inr ⟨ρ, F, r, ?_⟩)
        rw [hf]
        intro v F' H' x s w
        cases w
        exact ⟨z, rfl, q _ F' H' x s iter_str⟩
      | _ => exact q.elim
def inR (i : Int) : Bool := decide (-(2 ^ 62) ≤ i) && decide (i < 2 ^ 62)
theorem inR_of {i : Int} (h : inR i = true) : -(2 ^ 62) ≤ i ∧ i < 2 ^ 62 := by
  unfold inR at h
  rw [Bool.and_eq_true] at h
  exact ⟨of_decide_eq_true h.1, of_decide_eq_true h.2⟩
def rng1 : List D → R (List D)
  | [.int j] => grd (inR j) (.ok ((List.range j.toNat).map fun (i : Nat) => D.int (0 + (i : Int))))
  | _ => .bad
def rng2 : List D → R (List D)
  | [.int i, .int j] => grd (inR i && inR j) (.ok ((List.range (j - i).toNat).map fun (k : Nat) => D.int (i + (k : Int))))
  | _ => .bad
theorem outV_of {st : Bool} {σ : L2.St} {F H : Hp} {x : R (List D)} {w : List D → R (List D)} {Q : It → Hp → Prop} {Q' : List V → Hp → Prop} (q : OutI C st σ F H (bd x w) Q)
    (h : ∀ ds vs F' H', OutI C st σ F' H' (w ds) Q → Ext F H F' H' → Same F' H' → Views C.K F' H' ds vs → Q' vs H') : OutV C σ F H x Q' := by
  cases x with
  | bad => exact q
  | err c => exact q
  | ok ds => exact fun vs F' H' x s w => h ds vs F' H' (OutI.later q x) x s w
theorem grdI {st : Bool} {σ : L2.St} {F H : Hp} {Q : It → Hp → Prop} {c : Bool} {x : R (List D)} (o : OutI C st σ F H (grd c x) Q) : c = true ∧ OutI C st σ F H x Q := by
  cases c with
  | true => exact ⟨rfl, o⟩
  | false => exact o.elim
theorem i_range1 {fs : En → R (List D)} (hm : X.mg "range" = none) (ha : PA X [a] (tV C fs)) (hg : Gl X "range" := by rfl) (hs : starEach [a] X.env = [(false, eval a X.env)] := by rfl) :
    PI X tg (.Call (.Name "range" p) [a] [] pos) (tI C true (irg fs rng1)) := (pi_range1 hg hm ha hs).mono fun σ H Q ⟨ρ, F, r, q⟩ => ⟨ρ, F, r, outV_of q fun ds vs F' H' o x s w => by
      unfold rng1 at o
      split at o
      · obtain ⟨z, o⟩ := grdI o
        obtain ⟨v, rfl, w1⟩ := Views.one w
        obtain rfl : v = V.int _ := w1
        obtain ⟨h1, h2⟩ := inR_of z
        exact ⟨_, rfl, h1, h2, o _ F' H' (Ext.refl _ _) s iter_range⟩
      · exact o.elim⟩
theorem i_range2 {fs : En → R (List D)} (hm : X.mg "range" = none) (ha : PA X [a, b] (tV C fs)) (hg : Gl X "range" := by rfl) (hs : starEach [a, b] X.env = [(false, eval a X.env), (false, eval b X.env)] := by rfl) (hs2 : starEach [b] X.env = [(false, eval b X.env)] := by rfl) :
    PI X tg (.Call (.Name "range" p) [a, b] [] pos) (tI C true (irg fs rng2)) := (pi_range2 hg hm ha hs hs2).mono fun σ H Q ⟨ρ, F, r, q⟩ => ⟨ρ, F, r, outV_of q fun ds vs F' H' o x s w => by
      unfold rng2 at o
      split at o
      · obtain ⟨z, o⟩ := grdI o
        rw [Bool.and_eq_true] at z
        obtain ⟨v, u, rfl, w1, w2⟩ := Views.two w
        obtain rfl : v = V.int _ := w1
        obtain rfl : u = V.int _ := w2
        obtain ⟨h1, h2⟩ := inR_of z.1
        obtain ⟨h3, h4⟩ := inR_of z.2
        exact ⟨_, _, rfl, ⟨h1, h2, h3, h4⟩, o _ F' H' (Ext.refl _ _) s iter_range⟩
      · exact o.elim⟩
def loopD (g : D → En → Option En) (gb : En → R Fl) : List D → En → R Fl
  | [], ρ => .ok (.next ρ)
  | d :: ds, ρ => match g d ρ with
    | none => .bad
    | some ρ1 => bd (gb ρ1) fun r => match r with
      | .next ρ' => loopD g gb ds ρ'
      | .cont ρ' => loopD g gb ds ρ'
      | .brk ρ' => .ok (.next ρ')
      | .ret o d => .ok (.ret o d)
def sFor (f : En → R (List D)) (g : D → En → Option En) (gb : En → R Fl) : En → R Fl := fun ρ => bd (f ρ) fun ds => loopD g gb ds ρ
theorem s_for {iter : Expr} {body : List Stmt} {fs : En → R (List D)} {gg : D → En → Option En} {gb : En → R Fl} {own : List Nat} (hc : X.calm = true) (hi : PI X tg iter (tI C true fs)) (hg : PG X tg (tG C own gg)) (hb : PSs X body (tS C gb))
    (hp : PassesOwn (model X.prog X.w) X.A X.env X.xe) (hs : ∀ x, foldedSetIterable iter X.env x = pure x := by intro _; rfl) : PS X (.For tg iter body [] pos) (tS C (sFor fs gg gb)) :=
  (ps_for hp hc hi hg hb hs).mono fun T σ H ⟨ρ, F, r, q⟩ => by
    refine ⟨ρ, F, r, ?_⟩
    have q' : Post C T F (bd (fs ρ) fun ds => loopD gg gb ds ρ) := q
    cases hf : fs ρ with
    | bad => rw [hf] at q'; exact q'
    | err c => rw [hf] at q'; exact fun F' H' x s => r.err q' x s
    | ok ds =>
      rw [hf, bd_ok] at q'
      intro J F1 H1 x1 s1 it
      rw [if_pos rfl] at it
      refine ⟨fun i m σ H => m = ds.length - i ∧ i ≤ ds.length ∧ ∃ ρ F, Rel C ρ σ F H ∧ Same F1 F ∧ Post C T F1 (loopD gg gb (ds.drop i) ρ), ⟨_, rfl, Nat.zero_le _, ρ, F1, r.grow x1 s1, Same.refl _, Post.up q' x1.f⟩, ?_⟩
      rintro i m σ H ⟨rfl, hi, ρ, F, r, sf, q⟩
      obtain ⟨it1, it2⟩ := it i F H (jn_in (sf.trans r.sub) r.ext.h) sf r.sub
      by_cases hlt : i < ds.length
      · obtain ⟨go, y⟩ := it1 hlt
        have e : ds.drop i = ds[i] :: ds.drop (i + 1) := List.drop_eq_getElem_cons hlt
        rw [e] at q
        refine .inr ⟨go, fun σ' H' => ∃ ρ F, Rel C ρ σ' F H' ∧ Same F1 F ∧ Post C T F1 (loopD gg gb (ds.drop (i + 1)) ρ), fun σ' H' p2 => ⟨_, by omega, rfl, hlt, p2⟩, fun v H' yy => ?_⟩
        obtain ⟨F3, d, hd, x3, s3, w3⟩ := y v H' yy
        rw [List.getElem?_eq_getElem hlt] at hd
        cases hd
        refine ⟨ρ, F3, ds[i], r.grow x3 s3, w3, ?_⟩
        unfold loopD at q
        cases hgg : gg ds[i] ρ with
        | none => rw [hgg] at q; exact q
        | some ρ1 =>
          rw [hgg] at q
          have q2 : Post C T F1 (bd (gb ρ1) fun r => match r with
            | .next ρ' => loopD gg gb (ds.drop (i + 1)) ρ'
            | .cont ρ' => loopD gg gb (ds.drop (i + 1)) ρ'
            | .brk ρ' => .ok (.next ρ')
            | .ret o d => .ok (.ret o d)) := q
          intro σ2 _ r2
          refine ⟨ρ1, F3, r2, ?_⟩
          have s13 : Same F1 F3 := sf.trans x3.f
          cases hb : gb ρ1 with
          | bad => rw [hb] at q2; exact q2
          | err c => rw [hb] at q2; exact q2
          | ok fl =>
            rw [hb] at q2
            cases fl with
            | next ρ' => exact fun σ' F' H' s' r' => ⟨ρ', F', r', s13.trans s', q2⟩
            | cont ρ' => exact fun σ' F' H' s' r' => ⟨ρ', F', r', s13.trans s', q2⟩
            | brk ρ' => exact fun σ' F' H' s' r' => q2 σ' F' H' (s13.trans s') r'
            | ret o d => exact q2
      · have e : i = ds.length := by omega
        subst e
        rw [List.drop_length] at q
        exact .inl ⟨it2 rfl, q σ F H sf r⟩
def Cd.nox (C : Cd) : Cd := { C with XW := fun _ _ _ => False }
theorem Rel.nox {ρ : En} {σ : L2.St} {F H : Hp} (r : Rel C ρ σ F H) : Rel C.nox ρ σ F H := ⟨r.ext, r.sub, r.len, r.slot, r.ownF, r.apartF, r.lend, r.wok⟩
def wipeR (ρ : En) : List Nat → En
  | [] => ρ
  | v :: vs => (wipeR ρ vs).set v none
theorem Rel.wipe {ρ : En} {σ : L2.St} {F H : Hp} (r : Rel C ρ σ F H) : ∀ own : List Nat, (own.all fun v => (C.ln v).isNone) = true → Rel C (wipeR ρ own) (L2.wipe σ own) F H
  | [], _ => r
  | v :: own, h => by
    rw [List.all_cons, Bool.and_eq_true] at h
    exact (Rel.wipe r own h.2).forget v none (by simpa using h.1)
def lcStep (g : D → En → Option En) (t : En → R Bool) (f : En → R D) (ρ : En) (d : D) : R (Option D) := match g d ρ with
  | none => .bad
  | some ρ1 => match t ρ1 with
    | .ok true => match f ρ1 with
      | .ok z => .ok (some z)
      | _ => .bad
    | .ok false => .ok none
    | _ => .bad
def lcGo (g : D → En → Option En) (t : En → R Bool) (f : En → R D) (ρ : En) : List D → R (List D)
  | [] => .ok []
  | d :: ds => bd (lcStep g t f ρ d) fun o => bd (lcGo g t f ρ ds) fun zs => .ok (match o with | some z => z :: zs | none => zs)
def lcD (own : List Nat) (fi : En → R (List D)) (g : D → En → Option En) (t : En → R Bool) (f : En → R D) : En → R D := fun ρ => bd (fi ρ) fun ds =>
  grd (decide (ds.length < sizeLine)) (bd (lcGo g t f (wipeR ρ own) ds) fun zs => .ok (.lst zs))
theorem Rel.other {ρ : En} {σ : L2.St} {F H : Hp} {p : Addr} {o : HO} (r : Rel C ρ σ F H) (nf : F p = none) (n0 : C.H0 p = none) (ap : ∀ (j : Nat) (e : D) (b : Addr), ρ[j]? = some (some (true, e)) → σ[j]? = some (some (.ref b)) → p ∉ foot H b e) : Rel C ρ σ F (upd H p o) where
  ext := ⟨r.ext.f, fun b x h => by rw [upd_ne (ne_of_none h n0)]; exact r.ext.h b x h, r.ext.n⟩
  sub := same_upd2 r.sub nf
  len := r.len
  slot := r.slot
  ownF := fun i d e => by
    obtain ⟨a, q, n, nd, ow⟩ := r.ownF i d e
    have hp := ap i d a e q
    have hf : foot (upd H p o) a d = foot H a d := foot_same ow fun b hb => upd_ne fun (z : b = p) => hp (z ▸ hb)
    rw [← hf] at n nd
    refine ⟨a, q, n, nd, ow.at (Same.refl _) fun b hb u hu => ?_⟩
    rw [upd_ne (fun (z : b = p) => hp (z ▸ hb))]
    exact hu
  apartF := fun i j d e a b c h1 h2 h3 h4 h5 h6 => by
    have hp := ap i d a h1 h3
    have hp' := ap j e b h2 h4
    obtain ⟨a1, q1, _, _, w1⟩ := r.ownF i d h1
    rw [h3] at q1; cases q1
    obtain ⟨b1, q2, _, _, w2⟩ := r.ownF j e h2
    rw [h4] at q2; cases q2
    rw [foot_same w1 fun c hc => upd_ne fun (z : c = p) => hp (z ▸ hc)] at h5
    rw [foot_same w2 fun c hc => upd_ne fun (z : c = p) => hp' (z ▸ hc)] at h6
    exact r.apartF i j d e a b c h1 h2 h3 h4 h5 h6
  wok := r.wok
  lend := r.lend
theorem lcStep_err {gg : D → En → Option En} {t : En → R Bool} {ρ : En} {d : D} {c : Str} : lcStep gg t f ρ d ≠ .err c := by
  unfold lcStep
  intro h
  split at h
  · cases h
  · split at h
    · split at h <;> cases h
    · cases h
    · cases h
theorem lcGo_err {gg : D → En → Option En} {t : En → R Bool} {ρ : En} {c : Str} : ∀ {ds : List D}, lcGo gg t f ρ ds ≠ .err c
  | [], h => by cases h
  | d :: ds, h => by
    unfold lcGo at h
    cases h1 : lcStep gg t f ρ d with
    | bad => rw [h1] at h; cases h
    | err c => exact lcStep_err h1
    | ok o =>
      rw [h1, bd_ok] at h
      cases h2 : lcGo gg t f ρ ds with
      | bad => rw [h2] at h; cases h
      | err c => exact lcGo_err h2
      | ok zs => rw [h2] at h; cases h
theorem lcGo_cons {gg : D → En → Option En} {t : En → R Bool} {ρ : En} {d : D} {ds zs : List D} (h : lcGo gg t f ρ (d :: ds) = .ok zs) : ∃ o ws, lcStep gg t f ρ d = .ok o ∧ lcGo gg t f ρ ds = .ok ws ∧ zs = (match o with | some z => z :: ws | none => ws) := by
  unfold lcGo at h
  cases h1 : lcStep gg t f ρ d with
  | bad => rw [h1] at h; cases h
  | err c => rw [h1] at h; cases h
  | ok o =>
    rw [h1, bd_ok] at h
    cases h2 : lcGo gg t f ρ ds with
    | bad => rw [h2] at h; cases h
    | err c => rw [h2] at h; cases h
    | ok ws => rw [h2] at h; cases h; exact ⟨o, ws, rfl, rfl, rfl⟩
theorem lc_ok {st : Bool} {fi : En → R (List D)} {gg : D → En → Option En} {t : En → R Bool} {own : List Nat} (hln : (own.all fun v => (C.ln v).isNone) = true) : ∀ σ H Q, tO C (lcD own fi gg t f) σ H Q → tLc (tI C st fi) (tG C.nox own gg) (tT C.nox t) (tE C.nox f) own σ H Q := by
  rintro σ H Q ⟨ρ, F, r, q⟩
  refine ⟨ρ, F, r, ?_⟩
  unfold lcD at q
  cases hfi : fi ρ with
  | bad => rw [hfi] at q; exact q
  | err c => rw [hfi] at q; exact q
  | ok ds =>
    rw [hfi, bd_ok] at q
    intro J F1 H1 x1 s1 it
    replace it : IterOk C.K J H1 F1 ds := by
      cases st with
      | true => rw [if_pos rfl] at it; exact it.base (jn_in s1 (r.ext.h.trans x1.h))
      | false => rw [if_neg Bool.false_ne_true] at it; exact it
    obtain ⟨z, q⟩ := grd_out q
    have z := of_decide_eq_true z
    intro D hD
    cases hgo : lcGo gg t f (wipeR ρ own) ds with
    | bad => rw [hgo] at q; exact q.elim
    | err c => exact absurd hgo lcGo_err
    | ok all =>
      rw [hgo, bd_ok] at q
      have q := Out.later q x1
      have r1 := r.grow x1 s1
      have d0 : C.H0 D = none := r1.ext.h.free hD
      have fd : F1 D = none := s1.free hD
      have ap : ∀ H', Same H1 H' → ∀ (j : Nat) (e : DL.D) (b : Addr), ρ[j]? = some (some (true, e)) → σ[j]? = some (some (.ref b)) → D ∉ foot H' b e := fun H' s' j e b h1 h2 h3 => by
        obtain ⟨a, q1, _, _, o⟩ := r1.ownF j e h1
        rw [h2] at q1
        cases q1
        rw [foot_grow s' o] at h3
        obtain ⟨u, hu⟩ := o.foot D h3
        rw [hD] at hu
        cases hu
      refine ⟨fun i m H => m = ds.length - i ∧ i ≤ ds.length ∧ ∃ F2 acc zs ws, Rel C ρ σ F2 H ∧ Ext F1 H1 F2 H ∧ F2 D = none ∧ H D = some (.lst acc) ∧ Reps C.K F2 zs acc ∧ zs.length ≤ i ∧ lcGo gg t f (wipeR ρ own) (ds.drop i) = .ok ws ∧ all = zs ++ ws,
        ⟨_, rfl, Nat.zero_le _, F1, [], [], all, r1.other fd d0 (ap H1 (Same.refl _)), Ext.heap (same_upd hD), fd, upd_same, .nil, Nat.zero_le _, hgo, rfl⟩, ?_⟩
      rintro i m H2 ⟨rfl, hi, F2, acc, zs, ws, r2, x2, f2, h2, rz, lz, hw, ha⟩
      obtain ⟨it1, it2⟩ := it i F2 H2 x2.h x2.f r2.sub
      by_cases hlt : i < ds.length
      · obtain ⟨go, y⟩ := it1 hlt
        have e : ds.drop i = ds[i] :: ds.drop (i + 1) := List.drop_eq_getElem_cons hlt
        rw [e] at hw
        obtain ⟨o, ws', hs, hw', hz⟩ := lcGo_cons hw
        refine .inr ⟨go, fun H => ∃ F2 acc zs ws, Rel C ρ σ F2 H ∧ Ext F1 H1 F2 H ∧ F2 D = none ∧ H D = some (.lst acc) ∧ Reps C.K F2 zs acc ∧ zs.length ≤ i + 1 ∧ lcGo gg t f (wipeR ρ own) (ds.drop (i + 1)) = .ok ws ∧ all = zs ++ ws,
          fun H' p => ⟨_, by omega, rfl, hlt, p⟩, fun v H3 yy => ?_⟩
        obtain ⟨F3, d, hd, x3, s3, w3⟩ := y v H3 yy
        rw [List.getElem?_eq_getElem hlt] at hd
        cases hd
        have r3 := r2.grow x3 s3
        refine ⟨wipeR ρ own, F3, ds[i], (r3.nox).wipe own hln, w3, ?_⟩
        unfold lcStep at hs
        cases hgg : gg ds[i] (wipeR ρ own) with
        | none => rw [hgg] at hs; cases hs
        | some ρ1 =>
          rw [hgg] at hs
          intro σ4 e4 r4
          refine ⟨e4.trans (wipe_wipe own own σ fun _ h => h), ρ1, F3, r4, ?_⟩
          dsimp only at hs
          cases ht : t ρ1 with
          | bad => rw [ht] at hs; cases hs
          | err c => rw [ht] at hs; cases hs
          | ok b =>
            rw [ht] at hs
            intro F5 H5 x5 s5
            have x35 := x3.trans x5
            have hD5 : H5 D = some (.lst acc) := x35.h _ _ h2
            have fD5 : F5 D = none := x35.keepN h2 f2
            cases b with
            | false =>
              rw [if_neg Bool.false_ne_true]
              cases hs
              exact ⟨F5, acc, zs, ws', (r3.grow x5 s5), x2.trans x35, fD5, hD5, rz.mono x35.f, by omega, hw', by rw [ha, hz]⟩
            | true =>
              rw [if_pos rfl]
              refine ⟨ρ1, F5, r4.grow x5 s5, ?_⟩
              dsimp only at hs
              cases hf : f ρ1 with
              | bad => rw [hf] at hs; cases hs
              | err c => rw [hf] at hs; cases hs
              | ok zz =>
                rw [hf] at hs
                cases hs
                intro yv F6 H6 x6 s6 w6
                have x26 := x35.trans x6
                have hD6 : H6 D = some (.lst acc) := x26.h _ _ h2
                have fD6 : F6 D = none := x26.keepN h2 f2
                refine ⟨acc, hD6, by rw [rz.length]; omega, F6, acc ++ [yv], zs ++ [zz], ws', ((r3.grow x5 s5).grow x6 s6).other fD6 d0 (ap H6 (x2.trans x26).h), ?_, fD6, upd_same, (rz.mono x26.f).append (.cons w6 .nil), by rw [List.length_append]; exact Nat.succ_le_succ lz, hw', ?_⟩
                · have x16 := x2.trans x26
                  exact ⟨x16.f, fun b u h => by rw [upd_ne (ne_of_none h hD)]; exact x16.h b u h, x16.n⟩
                · rw [ha, hz, List.append_assoc]; rfl
      · have e : i = ds.length := by omega
        subst e
        rw [List.drop_length] at hw
        cases hw
        rw [List.append_nil] at ha
        subst ha
        refine .inl ⟨it2 rfl, q (.ref D) F2 H2 x2 r2.sub ⟨D, rfl, x1.h.free hD, f2, acc, h2, rz⟩⟩
theorem d_lc {st : Bool} {elt iter : Expr} {ifs : List Expr} {scope : Scope} {own : List (Str × Nat)} {fi : En → R (List D)} {gg : D → En → Option En} {t : En → R Bool} (hc : X.calm = true) (hN : X.N.Nodup) (hi : PI X tg iter (tI C st fi)) (ok : BlkOk X.N X.env.scope scope own)
    (hg : ∀ (s : Shared) (H : Hp) (A : Addr) (cl : List (Str × Addr)) (fp : List Addr), PG (X.blk s H scope (compEnvC scope cl A X.env) fp) tg (tG C.nox (own.map (·.2)) gg)) (ht : ∀ (s : Shared) (H : Hp) (A : Addr) (cl : List (Str × Addr)) (fp : List Addr), PTs (X.blk s H scope (compEnvC scope cl A X.env) fp) ifs (tT C.nox t))
    (he : ∀ (s : Shared) (H : Hp) (A : Addr) (cl : List (Str × Addr)) (fp : List Addr), PE (X.blk s H scope (compEnvC scope cl A X.env) fp) elt (tE C.nox f)) (hs : ∀ x, foldedSetIterable iter X.env x = pure x := by intro _; rfl) (hw : ((own.map (·.2)).all fun v => (C.ln v).isNone) = true := by rfl) :
    PE X (.ListComp elt [⟨tg, iter, ifs, 0⟩] scope pos) (tO C (lcD (own.map (·.2)) fi gg t f)) := (pe_lc hc hN hi ok hg ht he hs).mono (lc_ok hw)
theorem s_setLc {i : Nat} {y : Str} {py : Pos} {spos : Pos} {st : Bool} {elt iter : Expr} {ifs : List Expr} {scope : Scope} {own : List (Str × Nat)} {fi : En → R (List D)} {gg : D → En → Option En} {t : En → R Bool} (hc : X.calm = true) (hN : X.N.Nodup) (hi : PI X tg iter (tI C st fi)) (ok : BlkOk X.N X.env.scope scope own)
    (hg : ∀ (s : Shared) (H : Hp) (A : Addr) (cl : List (Str × Addr)) (fp : List Addr), PG (X.blk s H scope (compEnvC scope cl A X.env) fp) tg (tG C.nox (own.map (·.2)) gg)) (ht : ∀ (s : Shared) (H : Hp) (A : Addr) (cl : List (Str × Addr)) (fp : List Addr), PTs (X.blk s H scope (compEnvC scope cl A X.env) fp) ifs (tT C.nox t))
    (he : ∀ (s : Shared) (H : Hp) (A : Addr) (cl : List (Str × Addr)) (fp : List Addr), PE (X.blk s H scope (compEnvC scope cl A X.env) fp) elt (tE C.nox f))
    (hsw : swapsWith (.ListComp elt [⟨tg, iter, ifs, 0⟩] scope pos) (some (.Name y py)) spos.line X.env = pure true) (hy : X.N[i]? = some y := by rfl) (hyl : X.env.scope.names.lookup y = some .local := by rfl) (hs : ∀ x, foldedSetIterable iter X.env x = pure x := by intro _; rfl) (hw : ((own.map (·.2)).all fun v => (C.ln v).isNone) = true := by rfl) (hl : C.ln i = none := by rfl) :
    PS X (.Assign [.Name y py] (.ListComp elt [⟨tg, iter, ifs, 0⟩] scope pos) spos) (tS C (sSetO i (lcD (own.map (·.2)) fi gg t f))) :=
  (ps_setLc hc hN hy hyl hsw hi ok hg ht he hs).mono fun T σ H ⟨ρ, F, r, q⟩ => lc_ok hw σ H _ ⟨ρ, F, r, out_of r q fun d v F' H' _ q x s r' w => q _ F' H' (Same.refl _) (r'.setN (r.old x.h) (fun a h => r.ext.h.free h) w hl)⟩
def tYesD : En → R Bool := fun _ => .ok true
theorem ts_nil {C : Cd} : PTs X [] (tT C tYesD) := ⟨fun pins s σ H Q I h => pts_nil.run pins s σ H Q I (by
  obtain ⟨ρ, F, r, q⟩ := h
  exact q F H (Ext.refl _ _) r.sub)⟩
theorem ts_one {C : Cd} {t : En → R Bool} (h : PT X c (tT C t)) : PTs X [c] (tT C t) := pts_one h
end
end DL
namespace DL
open PySem PySem.Spec PyProof.Rows L2
section
variable {X : Cx} {C : Cd} {e a b c tg : Expr} {f g k : En → R D} {pos p : Pos} {st : Stmt} {rest : List Stmt} {s1 s2 : En → R Fl} {K : Kx} {F H : Hp}
def lkD {κ : Type} [DecidableEq κ] (kds : List (κ × D)) (q : κ) : Option D := (kds.find? fun kv => decide (kv.1 = q)).map (·.2)
def putD {κ : Type} [DecidableEq κ] (kds : List (κ × D)) (q : κ) (v : D) : List (κ × D) :=
  if (kds.any fun kv => decide (kv.1 = q)) = true then kds.map (fun kv => if kv.1 = q then (kv.1, v) else kv) else kds ++ [(q, v)]
theorem RepK.look {q : Key} : ∀ {kds : List (Key × D)} {kvs : List (Key × V)}, RepK K F kds kvs → (∃ d v, lkD kds q = some d ∧ valV kvs q = some v ∧ Rep K F d v) ∨ (lkD kds q = none ∧ valV kvs q = none)
  | _, _, .nil => .inr ⟨rfl, rfl⟩
  | _, _, .cons (k := k) (d := d) (v := v) (ds := ds) (vs := vs) r t => by
    by_cases h : k = q
    · refine .inl ⟨d, v, ?_, ?_, r⟩
      · unfold lkD; rw [List.find?_cons_of_pos (by simpa using h)]; rfl
      · unfold valV; rw [List.find?_cons_of_pos (by simpa using h)]; rfl
    · have e1 : lkD ((k, d) :: ds) q = lkD ds q := by unfold lkD; rw [List.find?_cons_of_neg (by simpa using h)]
      have e2 : valV ((k, v) :: vs) q = valV vs q := by unfold valV; rw [List.find?_cons_of_neg (by simpa using h)]
      rw [e1, e2]
      exact RepK.look t
theorem RepT.look {q : List Key} : ∀ {kds : List (List Key × D)} {kvs : List (List Key × V)}, RepT K F kds kvs → (∃ d v, lkD kds q = some d ∧ valV kvs q = some v ∧ Rep K F d v) ∨ (lkD kds q = none ∧ valV kvs q = none)
  | _, _, .nil => .inr ⟨rfl, rfl⟩
  | _, _, .cons (k := k) (d := d) (v := v) (ds := ds) (vs := vs) r t => by
    by_cases h : k = q
    · refine .inl ⟨d, v, ?_, ?_, r⟩
      · unfold lkD; rw [List.find?_cons_of_pos (by simpa using h)]; rfl
      · unfold valV; rw [List.find?_cons_of_pos (by simpa using h)]; rfl
    · have e1 : lkD ((k, d) :: ds) q = lkD ds q := by unfold lkD; rw [List.find?_cons_of_neg (by simpa using h)]
      have e2 : valV ((k, v) :: vs) q = valV vs q := by unfold valV; rw [List.find?_cons_of_neg (by simpa using h)]
      rw [e1, e2]
      exact RepT.look t
theorem RepK.any {q : Key} : ∀ {kds : List (Key × D)} {kvs : List (Key × V)}, RepK K F kds kvs → (kds.any fun kv => decide (kv.1 = q)) = (kvs.any fun kv => decide (kv.1 = q))
  | _, _, .nil => rfl
  | _, _, .cons r t => by rw [List.any_cons, List.any_cons, RepK.any t]
theorem RepT.any {q : List Key} : ∀ {kds : List (List Key × D)} {kvs : List (List Key × V)}, RepT K F kds kvs → (kds.any fun kv => decide (kv.1 = q)) = (kvs.any fun kv => decide (kv.1 = q))
  | _, _, .nil => rfl
  | _, _, .cons r t => by rw [List.any_cons, List.any_cons, RepT.any t]
theorem RepK.app : ∀ {kds kes : List (Key × D)} {kvs kws : List (Key × V)}, RepK K F kds kvs → RepK K F kes kws → RepK K F (kds ++ kes) (kvs ++ kws)
  | _, _, _, _, .nil, s => s
  | _, _, _, _, .cons r t, s => .cons r (RepK.app t s)
theorem RepT.app : ∀ {kds kes : List (List Key × D)} {kvs kws : List (List Key × V)}, RepT K F kds kvs → RepT K F kes kws → RepT K F (kds ++ kes) (kvs ++ kws)
  | _, _, _, _, .nil, s => s
  | _, _, _, _, .cons r t, s => .cons r (RepT.app t s)
theorem RepK.map {q : Key} {d : D} {v : V} (w : Rep K F d v) : ∀ {kds : List (Key × D)} {kvs : List (Key × V)}, RepK K F kds kvs → RepK K F (kds.map fun kv => if kv.1 = q then (kv.1, d) else kv) (kvs.map fun kv => if kv.1 = q then (kv.1, v) else kv)
  | _, _, .nil => .nil
  | _, _, .cons (k := k) r t => by
    rw [List.map_cons, List.map_cons]
    by_cases h : k = q
    · simp only [h, if_true]; exact .cons w (RepK.map w t)
    · simp only [h, if_false]; exact .cons r (RepK.map w t)
theorem RepT.map {q : List Key} {d : D} {v : V} (w : Rep K F d v) : ∀ {kds : List (List Key × D)} {kvs : List (List Key × V)}, RepT K F kds kvs → RepT K F (kds.map fun kv => if kv.1 = q then (kv.1, d) else kv) (kvs.map fun kv => if kv.1 = q then (kv.1, v) else kv)
  | _, _, .nil => .nil
  | _, _, .cons (k := k) r t => by
    rw [List.map_cons, List.map_cons]
    by_cases h : k = q
    · simp only [h, if_true]; exact .cons w (RepT.map w t)
    · simp only [h, if_false]; exact .cons r (RepT.map w t)
theorem RepK.put {q : Key} {d : D} {v : V} (w : Rep K F d v) {kds : List (Key × D)} {kvs : List (Key × V)} (r : RepK K F kds kvs) : RepK K F (putD kds q d) (putK kvs q v) := by
  unfold putD putK
  rw [r.any]
  split
  · exact RepK.map w r
  · exact r.app (.cons w .nil)
theorem RepT.put {q : List Key} {d : D} {v : V} (w : Rep K F d v) {kds : List (List Key × D)} {kvs : List (List Key × V)} (r : RepT K F kds kvs) : RepT K F (putD kds q d) (putK kvs q v) := by
  unfold putD putK
  rw [r.any]
  split
  · exact RepT.map w r
  · exact r.app (.cons w .nil)
theorem RepT.length : ∀ {ds : List (List Key × D)} {vs : List (List Key × V)}, RepT K F ds vs → vs.length = ds.length
  | _, _, .nil => rfl
  | _, _, .cons _ t => congrArg (· + 1) (RepT.length t)
def keyD : D → Option Key
  | .int i => some (.inl i)
  | .str x => some (.inr x)
  | _ => none
theorem View.key {d : D} {v : V} {q : Key} (w : View K F H d v) (h : keyD d = some q) : v = kV q := by
  cases d with
  | int i => cases h; exact w
  | str i => cases h; exact w
  | _ => cases h
theorem Rep.key {d : D} {v : V} {q : Key} (w : Rep K F d v) (h : keyD d = some q) : v = kV q := by
  cases w with
  | int i => cases h; rfl
  | str i => cases h; rfl
  | _ => cases h
def keysD : List D → Option (List Key)
  | [] => some []
  | d :: ds => (keyD d).bind fun q => (keysD ds).map (q :: ·)
theorem Reps.keys : ∀ {ds : List D} {vs : List V} {qs : List Key}, Reps K F ds vs → keysD ds = some qs → vs = qs.map kV
  | _, _, _, .nil, h => by cases h; rfl
  | _, _, _, .cons (d := d) (ds := ds) r t, h => by
    unfold keysD at h
    cases h1 : keyD d with
    | none => rw [h1] at h; cases h
    | some q =>
      rw [h1] at h
      cases h2 : keysD ds with
      | none => rw [h2] at h; cases h
      | some qs => rw [h2] at h; cases h; rw [r.key h1, Reps.keys t h2]; rfl
def keyT : D → Option (List Key)
  | .tup ds => keysD ds
  | _ => none
theorem View.keyT {d : D} {v : V} {q : List Key} (w : View K F H d v) (h : DL.keyT d = some q) : ∃ b, v = .ref b ∧ H b = some (.tup (q.map kV)) := by
  cases d with
  | tup ds =>
    obtain ⟨b, vs, rfl, h1, r⟩ := w
    refine ⟨b, rfl, ?_⟩
    rw [h1, Reps.keys r h]
  | _ => cases h
def dGet? : D → D → Option (Option D)
  | .dK kds, q => (keyD q).map (lkD kds)
  | .dT kds, q => (keyT q).map (lkD kds)
  | _, _ => none
theorem get_ok {d q : D} {x y : V} {o : Option D} (h : dGet? d q = some o) (w1 : View K F H d x) (w2 : View K F H q y) : ∃ a ov, x = .ref a ∧ DGet H a y ov ∧ ((∃ z v, o = some z ∧ ov = some v ∧ Rep K F z v) ∨ (o = none ∧ ov = none)) := by
  cases d with
  | dK kds =>
    obtain ⟨a, kvs, rfl, hr, r⟩ := w1
    have h' : (keyD q).map (lkD kds) = some o := h
    cases hk : keyD q with
    | none => rw [hk] at h'; cases h'
    | some kk =>
      rw [hk] at h'
      cases h'
      refine ⟨a, valV kvs kk, rfl, .inl ⟨kvs, kk, hr, w2.key hk, rfl⟩, ?_⟩
      rcases RepK.look (q := kk) r with ⟨z, v, e1, e2, rr⟩ | ⟨e1, e2⟩
      · exact .inl ⟨z, v, e1, e2, rr⟩
      · exact .inr ⟨e1, e2⟩
  | dT kds =>
    obtain ⟨a, kvs, rfl, hr, r⟩ := w1
    have h' : (keyT q).map (lkD kds) = some o := h
    cases hk : keyT q with
    | none => rw [hk] at h'; cases h'
    | some kk =>
      rw [hk] at h'
      cases h'
      obtain ⟨bb, e, hb⟩ := w2.keyT hk
      refine ⟨a, valV kvs kk, rfl, .inr ⟨kvs, kk, bb, hr, e, hb, rfl⟩, ?_⟩
      rcases RepT.look (q := kk) r with ⟨z, v, e1, e2, rr⟩ | ⟨e1, e2⟩
      · exact .inl ⟨z, v, e1, e2, rr⟩
      · exact .inr ⟨e1, e2⟩
  | _ => cases h
def isFlat : D → Bool
  | .non => true
  | .bl _ => true
  | .int _ => true
  | .str _ => true
  | _ => false
def eqF : D → D → Bool
  | .non, .non => true
  | .bl a, .bl b => a == b
  | .bl a, .int b => (if a then 1 else 0) == b
  | .int a, .bl b => a == (if b then 1 else 0)
  | .int a, .int b => a == b
  | .str a, .str b => a == b
  | _, _ => false
theorem Rep.flatV {d : D} {v : V} (w : Rep K F d v) (h : isFlat d = true) : L2.flatV v = true := by
  cases w <;> first | rfl | cases h
theorem View.rep {d : D} {v : V} (w : View K F H d v) (h : isFlat d = true) : Rep K F d v := by
  cases d with
  | non => cases w; exact .non
  | bl b => cases w; exact .bl b
  | int b => cases w; exact .int b
  | str b => cases w; exact .str b
  | _ => cases h
theorem Rep.eqF {d e : D} {v u : V} (w : Rep K F d v) (w' : Rep K F e u) (h : isFlat d = true) (h' : isFlat e = true) : DL.eqF d e = eqV v u := by
  cases w <;> first | (cases h; done) | (cases w' <;> first | (cases h'; done) | rfl)
theorem Reps.flats : ∀ {ds : List D} {vs : List V}, Reps K F ds vs → ds.all isFlat = true → vs.all L2.flatV = true
  | _, _, .nil, _ => rfl
  | _, _, .cons r t, h => by
    rw [List.all_cons, Bool.and_eq_true] at h ⊢
    exact ⟨r.flatV h.1, Reps.flats t h.2⟩
theorem Reps.inF {x : D} {v : V} (w : Rep K F x v) (hx : isFlat x = true) : ∀ {ds : List D} {vs : List V}, Reps K F ds vs → ds.all isFlat = true → (ds.any fun y => DL.eqF y x) = inV v vs
  | _, _, .nil, _ => rfl
  | _, _, .cons r t, h => by
    rw [List.all_cons, Bool.and_eq_true] at h
    unfold inV
    rw [List.any_cons, List.any_cons, r.eqF w h.1 hx, Reps.inF w hx t h.2]
    rfl
def inSeq (neg : Bool) (x : D) (ds : List D) : R D := if (isFlat x && ds.all isFlat) = true then .ok (.bl (xorB neg (ds.any fun y => eqF y x))) else match py x, pys ds with
  | some p, some ps => grd (SeqAt.shaped p && SeqAt.shaped (.list ps)) (.ok (.bl (xorB neg (ps.any fun z => PyData.eqv z p))))
  | _, _ => .bad
def inTup (neg : Bool) (x : D) (ds : List D) : R D := grd (isFlat x && ds.all isFlat) (.ok (.bl (xorB neg (ds.any fun y => eqF y x))))
def inStr (neg : Bool) (x z : Str) : R D := match x.cps.toList with
  | [c] => .ok (.bl (xorB neg (decide (c ∈ z.cps.toList))))
  | _ => .ok (.bl (xorB neg (!(Builtin.Str.occurrences z x 0 z.length 1).isEmpty)))
def dIn (neg : Bool) (x : D) : D → R D
  | .lst ds => inSeq neg x ds
  | .scr ns => inSeq neg x (ns.map .int)
  | .tup ds => inTup neg x ds
  | .str z => match x with | .str y => inStr neg y z | _ => .bad
  | .dK kds => match dGet? (.dK kds) x with | some o => .ok (.bl (xorB neg o.isSome)) | none => .bad
  | .dT kds => match dGet? (.dT kds) x with | some o => .ok (.bl (xorB neg o.isSome)) | none => .bad
  | _ => .bad
def rInAll (K : PySem.W.Frag) (neg : Bool) : R2 := fun x y H Q => rIn K neg x y H Q ∨ (∃ d ds, Dp K H x d ∧ Dp K H y (.list ds) ∧ SeqAt.shaped d = true ∧ SeqAt.shaped (.list ds) = true ∧ Q (.bl (xorB neg (ds.any fun z => PyData.eqv z d))) H) ∨
  (∃ (c : Nat) (z : Str), x = .str ⟨#[c]⟩ ∧ y = .str z ∧ Q (.bl (xorB neg (decide (c ∈ z.cps.toList)))) H) ∨ (∃ i j, x = .str i ∧ y = .str j ∧ Q (.bl (xorB neg (!(Builtin.Str.occurrences j i 0 j.length 1).isEmpty))) H) ∨
  (∃ a o, y = .ref a ∧ DGet H a x o ∧ Q (.bl (xorB neg o.isSome)) H)
theorem op_inAll (hu : X.A.units + 65 < cLine) : OpR X (compareOp .In) (rInAll X.K false) := by
  refine OpR.or op_in_seq (OpR.or (op_inD hu) (OpR.or op_in_sign (OpR.or op_in_str ?_)))
  intro pins s σ H x y v u Q I rx ry h
  obtain ⟨a, o, rfl, g, q⟩ := h
  cases ry
  exact d_in (by omega) I g rx fun s' I' => ⟨.bl _, H, I', rfl, q⟩
theorem op_notInAll (hu : X.A.units + 65 < cLine) : OpR X (compareOp .NotIn) (rInAll X.K true) := by
  refine OpR.or op_notIn_seq (OpR.or (op_notInD hu) (OpR.or op_notIn_sign (OpR.or op_notin_str ?_)))
  intro pins s σ H x y v u Q I rx ry h
  obtain ⟨a, o, rfl, g, q⟩ := h
  cases ry
  exact d_notIn (by omega) I g rx fun s' I' => ⟨.bl _, H, I', rfl, q⟩
theorem xor_if (neg b : Bool) : (if neg = true then !b else b) = xorB neg b := by cases neg <;> rfl
theorem in_ok (neg : Bool) : Op2 C (rInAll C.K neg) (dIn neg) := by
  intro σ F H Q d e x y o s w1 w2
  have seq : ∀ (p : Addr) (ds : List D) (vs : List V), y = .ref p → SqL C.K H p vs → Reps C.K F ds vs → Out C σ F H (fun F' H' => New C.K H F' H') (inSeq neg d ds) Q → (∀ ps, pys ds = some ps → Dp C.K H y (.list ps)) → rInAll C.K neg x y H Q := by
    intro p ds vs ey hq r o hdp
    unfold inSeq at o
    split at o
    · rename_i hf
      rw [Bool.and_eq_true] at hf
      refine .inl ⟨p, vs, ey, .inl hq, (w1.rep hf.1).flatV hf.1, r.flats hf.2, ?_⟩
      rw [xor_if, ← Reps.inF (w1.rep hf.1) hf.1 r hf.2]
      exact fin_flat o s rfl
    · split at o
      · rename_i pp ps hp hps
        obtain ⟨z, o⟩ := grd_out o
        rw [Bool.and_eq_true] at z
        exact .inr (.inl ⟨pp, ps, w1.dp s hp, hdp ps hps, z.1, z.2, fin_flat o s rfl⟩)
      · exact o.elim
  cases e with
  | lst ds =>
    obtain ⟨p, vs, ey, hq, r⟩ := w2
    exact seq p ds vs ey (SqL.of hq) r o fun ps hps => by rw [ey]; exact .lst (SqL.of hq) (Reps.dp s r hps)
  | scr ns =>
    obtain ⟨p, ey, hq⟩ := w2
    refine seq p _ _ ey hq (Reps.of_ints ns) o fun ps hps => ?_
    have : ∀ ns : List Int, pys (ns.map D.int) = some (ns.map PyData.int) := fun ns => by
      induction ns with
      | nil => rfl
      | cons n ns ih => simp only [List.map_cons]; unfold pys; rw [ih]; rfl
    rw [this] at hps
    cases hps
    rw [ey]
    exact .lst hq (dp_ints ns)
  | tup ds =>
    obtain ⟨p, vs, ey, hq, r⟩ := w2
    obtain ⟨hf, o⟩ := grd_out o
    rw [Bool.and_eq_true] at hf
    refine .inl ⟨p, vs, ey, .inr (SqT.of hq), (w1.rep hf.1).flatV hf.1, r.flats hf.2, ?_⟩
    rw [xor_if, ← Reps.inF (w1.rep hf.1) hf.1 r hf.2]
    exact fin_flat o s rfl
  | str z =>
    cases d with
    | str i =>
      obtain rfl : x = .str i := w1
      obtain rfl : y = .str z := w2
      have o' : Out C σ F H (fun F' H' => New C.K H F' H') (inStr neg i z) Q := o
      unfold inStr at o'
      split at o'
      · rename_i c hc
        refine .inr (.inr (.inl ⟨c, z, ?_, rfl, fin_flat o' s rfl⟩))
        rw [show i = ⟨#[c]⟩ by
          cases i with
          | mk cps =>
            congr 1
            exact Array.ext' hc]
      · exact .inr (.inr (.inr (.inl ⟨i, z, rfl, rfl, fin_flat o' s rfl⟩)))
    | _ => exact o.elim
  | dK kds =>
    have o' : Out C σ F H (fun F' H' => New C.K H F' H') (match dGet? (.dK kds) d with | some o => .ok (.bl (xorB neg o.isSome)) | none => .bad) Q := o
    cases hg : dGet? (.dK kds) d with
    | none => rw [hg] at o'; exact o'.elim
    | some oo =>
      rw [hg] at o'
      obtain ⟨a, ov, ey, g, hh⟩ := get_ok hg w2 w1
      refine .inr (.inr (.inr (.inr ⟨a, ov, ey, g, ?_⟩)))
      have e : ov.isSome = oo.isSome := by
        rcases hh with ⟨_, _, rfl, rfl, _⟩ | ⟨rfl, rfl⟩ <;> rfl
      rw [e]
      exact fin_flat o' s rfl
  | dT kds =>
    have o' : Out C σ F H (fun F' H' => New C.K H F' H') (match dGet? (.dT kds) d with | some o => .ok (.bl (xorB neg o.isSome)) | none => .bad) Q := o
    cases hg : dGet? (.dT kds) d with
    | none => rw [hg] at o'; exact o'.elim
    | some oo =>
      rw [hg] at o'
      obtain ⟨a, ov, ey, g, hh⟩ := get_ok hg w2 w1
      refine .inr (.inr (.inr (.inr ⟨a, ov, ey, g, ?_⟩)))
      have e : ov.isSome = oo.isSome := by
        rcases hh with ⟨_, _, rfl, rfl, _⟩ | ⟨rfl, rfl⟩ <;> rfl
      rw [e]
      exact fin_flat o' s rfl
  | _ => exact o.elim
def dIxA (d q : D) : R D := match dGet? d q with
  | some (some z) => .ok z
  | some none => .bad
  | none => dIx d q
theorem d_ixA (hC : X.K = C.K.fr) (hu : X.A.units + 1 < cLine) (ha : PE X a (tR C f)) (hb : PE X b (tR C g)) (hs : PlainIx b := by exact fun _ _ => rfl) : PE X (.Subscript a b pos) (tE C (bop f g dIxA)) :=
  (PE.or (pe_ix (hC ▸ ix_seq) ha hb hs) (pe_dget hu ha hb hs)).mono (by
    rintro σ H Q ⟨ρ, F, rl, q⟩
    unfold bop at q
    cases hf : f ρ with
    | bad => simp only [hf, bd_bad] at q; exact q.elim
    | err c => simp only [hf, bd_err] at q; exact .inl ⟨ρ, F, rl, by rw [hf]; exact q⟩
    | ok d =>
      simp only [hf, bd_ok] at q
      cases hg : g ρ with
      | bad => simp only [hg, bd_bad] at q; exact q.elim
      | err c =>
        simp only [hg, bd_err] at q
        refine .inl ⟨ρ, F, rl, ?_⟩
        rw [hf]
        exact fun v F1 H1 x1 s1 w1 => ⟨ρ, F1, rl.grow x1 s1, by rw [hg]; exact Out.later q x1⟩
      | ok z =>
        simp only [hg, bd_ok] at q
        cases hq : dGet? d z with
        | none =>
          unfold dIxA at q
          rw [hq] at q
          refine .inl ⟨ρ, F, rl, ?_⟩
          rw [hf]
          intro v F1 H1 x1 s1 w1
          refine ⟨ρ, F1, rl.grow x1 s1, ?_⟩
          rw [hg]
          intro y F2 H2 x2 s2 w2
          exact ix_ok (Out.later (Out.later q x1) x2) s2 (w1.mono x2.f x2.h) w2
        | some oo =>
          unfold dIxA at q
          rw [hq] at q
          cases oo with
          | none => exact q.elim
          | some zz =>
            refine .inr ⟨ρ, F, rl, ?_⟩
            rw [hf]
            intro v F1 H1 x1 s1 w1
            refine ⟨ρ, F1, rl.grow x1 s1, ?_⟩
            rw [hg]
            intro y F2 H2 x2 s2 w2
            obtain ⟨aa, ov, e1, gg, hh⟩ := get_ok hq (w1.mono x2.f x2.h) w2
            rcases hh with ⟨z', v', e2, rfl, rr⟩ | ⟨e2, _⟩
            · cases e2
              exact ⟨aa, v', e1, gg, q v' F2 H2 (x1.trans x2) s2 rr⟩
            · cases e2)
end
end DL
namespace DL
open PySem PySem.Spec PyProof.Rows L2
section
variable {X : Cx} {C : Cd} {e a b c tg : Expr} {f g k : En → R D} {pos p apos cpos : Pos} {st : Stmt} {rest : List Stmt} {s1 s2 : En → R Fl} {K : Kx} {F H : Hp}
theorem d_dictK : PE X (.Dict [] [] pos) (tO C (cst (.dK []))) := pe_dnewK.mono fun σ H Q ⟨ρ, F, r, q⟩ => fun p hp => fin_dK q r.sub (Same.refl _) .nil hp
def dGet2 (d q x : D) : R D := match dGet? d q with
  | some o => .ok (o.getD x)
  | none => .bad
def isDD : D → Bool
  | .dK _ => true
  | .dT _ => true
  | _ => false
def sDrop (f : En → R D) : En → R Fl := fun ρ => bd (f ρ) fun _ => .ok (.next ρ)
def sAppend (i : Nat) (f : En → R D) : En → R Fl := fun ρ => match ρ[i]? with
  | some (some (true, .lst ds)) => bd (f ρ) fun z => grd (decide (ds.length < sizeLine)) (.ok (.next (ρ.set i (some (true, .lst (ds ++ [z]))))))
  | _ => .bad
theorem grd_post {T : Ends} {B : Hp} {c : Bool} {x : R Fl} (q : Post C T B (grd c x)) : c = true ∧ Post C T B x := by
  cases c with
  | true => exact ⟨rfl, q⟩
  | false => exact q.elim
theorem s_append {i : Nat} (ho : PE X a (tVar i)) (he : PE X e (tE C f))
    (hbase : attributeBase a "append" X.env (eval a X.env) = eval a X.env := by rfl)
    (hfew : ((backTo cpos (starEach [e] X.env)).all (fun x => !x.1) && (backToKw cpos (keywordEach [] X.env)).all (fun x => x.1.isSome)
      && decide (([e] : List Expr).length + ([] : List Keyword).length + (if ([] : List Keyword).isEmpty then 0 else 1) < 30)) = true := by rfl)
    (hline : (apos.endLine == cpos.line) = true := by rfl) (hs : starEach [e] X.env = (false, eval e X.env) :: starEach [] X.env := by rfl) (hplain : (backTo cpos (starEach [] X.env)).any (·.1) = false := by rfl)
    (hsw : swapsWith (.Call (.Attribute a "append" apos) [e] [] cpos) none pos.line X.env = pure false := by rfl) : PS X (.Expr (.Call (.Attribute a "append" apos) [e] [] cpos) pos) (tS C (sAppend i f)) :=
  (ps_expr (pe_bm PySem.F.plainAttrs_list PySem.F.slot_list_append PySem.F.type_list_append mt_append ho (pa_cons he pa_nil hs) hbase hfew hline hs hplain) hsw).mono fun T σ H ⟨ρ, F, r, q⟩ => by
    unfold sAppend at q
    split at q
    · rename_i ds hd
      obtain ⟨l, hl, n, n0, vs, h1, r1⟩ := r.own i _ hd
      refine ⟨_, hl, .inl ⟨rfl, _, SqL.of h1⟩, ρ, F, r, out_of r q fun z v F' H' _ q x s r' w => ?_⟩
      obtain ⟨hlen, q⟩ := grd_post q
      refine ⟨l, vs, v, rfl, rfl, x.h _ _ h1, by rw [r1.length]; exact of_decide_eq_true hlen, ?_⟩
      exact q σ F' _ (Same.refl _) (r'.write hd hl ⟨_, upd_same, (r1.mono x.f).append (.cons w .nil)⟩)
    · exact q.elim
def sExtend (i : Nat) (f : En → R D) : En → R Fl := fun ρ => match ρ[i]? with
  | some (some (true, .lst ds)) => bd (f ρ) fun z => match z with | .lst es => grd (small (ds.length + es.length)) (.ok (.next (ρ.set i (some (true, .lst (ds ++ es)))))) | _ => .bad
  | _ => .bad
def sOwn0 (i : Nat) (w : List D → List D) : En → R Fl := fun ρ => match ρ[i]? with
  | some (some (true, .lst ds)) => .ok (.next (ρ.set i (some (true, .lst (w ds)))))
  | _ => .bad
def putA (d q v : D) : R D := match d with
  | .lst ds => match q with
    | .int j => match ixN ds.length j with | some n => .ok (.lst (ds.set n v)) | none => .bad
    | _ => .bad
  | .dK kds => match keyD q with | some kk => grd (decide (kds.length < sizeLine)) (.ok (.dK (putD kds kk v))) | none => .bad
  | .dT kds => match keyT q with | some kk => grd (decide (kds.length < sizeLine)) (.ok (.dT (putD kds kk v))) | none => .bad
  | _ => .bad
def sPut (i : Nat) (f g : En → R D) : En → R Fl := fun ρ => match ρ[i]? with
  | some (some (true, d)) => bd (f ρ) fun v => bd (g ρ) fun q => bd (putA d q v) fun d' => .ok (.next (ρ.set i (some (true, d'))))
  | _ => .bad
theorem _root_.L2.PS.or {X : Cx} {e : Stmt} {t t' : TS} (h : PS X e t) (h' : PS X e t') : PS X e (fun T σ H => t T σ H ∨ t' T σ H) := ⟨fun pins s σ H D I q => by
  rcases q with q | q
  · exact h.run pins s σ H D I q
  · exact h'.run pins s σ H D I q⟩
theorem s_put {i : Nat} {pos' : Pos} (hu : X.A.units + 1 < cLine) (ho : PE X a (tVar i)) (hv : PE X e (tE C f)) (hi : PE X b (tR C g)) (hs : swapsWith e (some (.Subscript a b pos')) pos.line X.env = pure false := by rfl)
    (ha : ∀ v, assign (.Subscript a b pos') X.env v = (do
      let ov ← holding [v] (eval a X.env)
      let iv ← holding [v, ov] (eval b X.env)
      standAt pos'
      holding [v, ov, iv] (setItem ov iv v)
      release [v, ov, iv] []) := by intro _; rfl)
    (hs' : swapsWithSole [.Subscript a b pos'] e pos.line X.env = pure false := by rfl) (hw : swappedStores [.Subscript a b pos'] e X.env = pure none := by rfl)
    (h1 : (assignEach [.Subscript a b pos'] X.env).map (·.2) = [assign (.Subscript a b pos') X.env] := by rfl) : PS X (.Assign [.Subscript a b pos'] e pos) (tS C (sPut i f g)) :=
  (PS.or (ps_dput hu ho hi hv hs) (ps_asg hv (pg_sub ho hi set_list ha) hs' hw h1)).mono fun T σ H ⟨ρ, F, r, q⟩ => by
    unfold sPut at q
    split at q
    · rename_i d hd
      obtain ⟨l, hl, n, n0, o⟩ := r.own i d hd
      cases d with
      | lst ds =>
        refine .inr ⟨ρ, F, r, out_of r q fun v xv F1 H1 _ q x1 s1 r1 w1 => ?_⟩
        refine ⟨_, hl, ρ, F1, r1, out_of r1 q fun z xz F2 H2 _ q x2 s2 r2 w2 => ?_⟩
        obtain ⟨vs, h1, rr⟩ := o
        cases z with
        | int jj =>
          have q' : Post C T F2 (bd (match ixN ds.length jj with | some n => .ok (.lst (ds.set n v)) | none => .bad) fun d' => .ok (.next (ρ.set i (some (true, d'))))) := q
          cases hx : ixN ds.length jj with
          | none => rw [hx] at q'; exact q'.elim
          | some m =>
            rw [hx] at q'
            have x12 := x1.trans x2
            obtain rfl : xz = .int jj := w2
            refine ⟨l, vs, jj, m, rfl, rfl, x12.h _ _ h1, by rw [rr.length]; exact hx, ?_⟩
            exact q' σ F2 _ (Same.refl _) (r2.write hd hl ⟨_, upd_same, (rr.mono x12.f).set (w1.mono x2.f) _⟩)
        | _ => exact q.elim
      | dK kds =>
        refine .inl ⟨ρ, F, r, out_of r q fun v xv F1 H1 _ q x1 s1 r1 w1 => ?_⟩
        refine ⟨_, hl, ρ, F1, r1, out_of r1 q fun z xz F2 H2 _ q x2 s2 r2 w2 => ?_⟩
        obtain ⟨vs, h1, rr⟩ := o
        have q' : Post C T F2 (bd (match keyD z with | some kk => grd (decide (kds.length < sizeLine)) (.ok (.dK (putD kds kk v))) | none => .bad) fun d' => .ok (.next (ρ.set i (some (true, d'))))) := q
        cases hx : keyD z with
        | none => rw [hx] at q'; exact q'.elim
        | some kk =>
          rw [hx] at q'
          have x12 := x1.trans x2
          cases hlen : decide (kds.length < sizeLine) with
          | false => simp only [hlen, grd_f, bd_bad] at q'; exact q'.elim
          | true =>
            simp only [hlen, grd_t, bd_ok] at q'
            refine ⟨l, _, rfl, .inl ⟨vs, kk, x12.h _ _ h1, w2.key hx, by rw [rr.length]; exact of_decide_eq_true hlen, rfl⟩, ?_⟩
            exact q' σ F2 _ (Same.refl _) (r2.write hd hl ⟨_, upd_same, (rr.mono x12.f).put (w1.mono x2.f)⟩)
      | dT kds =>
        refine .inl ⟨ρ, F, r, out_of r q fun v xv F1 H1 _ q x1 s1 r1 w1 => ?_⟩
        refine ⟨_, hl, ρ, F1, r1, out_of r1 q fun z xz F2 H2 _ q x2 s2 r2 w2 => ?_⟩
        obtain ⟨vs, h1, rr⟩ := o
        have q' : Post C T F2 (bd (match keyT z with | some kk => grd (decide (kds.length < sizeLine)) (.ok (.dT (putD kds kk v))) | none => .bad) fun d' => .ok (.next (ρ.set i (some (true, d'))))) := q
        cases hx : keyT z with
        | none => rw [hx] at q'; exact q'.elim
        | some kk =>
          rw [hx] at q'
          have x12 := x1.trans x2
          cases hlen : decide (kds.length < sizeLine) with
          | false => simp only [hlen, grd_f, bd_bad] at q'; exact q'.elim
          | true =>
            simp only [hlen, grd_t, bd_ok] at q'
            obtain ⟨bb, e, hb⟩ := w2.keyT hx
            refine ⟨l, _, rfl, .inr ⟨vs, kk, bb, x12.h _ _ h1, e, hb, by rw [rr.length]; exact of_decide_eq_true hlen, rfl⟩, ?_⟩
            exact q' σ F2 _ (Same.refl _) (r2.write hd hl ⟨_, upd_same, (rr.mono x12.f).put (w1.mono x2.f)⟩)
      | rows rs =>
        refine .inl ⟨ρ, F, r, out_of r q fun v xv F1 H1 _ q x1 s1 r1 w1 => ?_⟩
        exact ⟨_, hl, ρ, F1, r1, out_of r1 q fun z xz F2 H2 _ q x2 s2 r2 w2 => q.elim⟩
      | deep d =>
        refine .inl ⟨ρ, F, r, out_of r q fun v xv F1 H1 _ q x1 s1 r1 w1 => ?_⟩
        exact ⟨_, hl, ρ, F1, r1, out_of r1 q fun z xz F2 H2 _ q x2 s2 r2 w2 => q.elim⟩
      | _ => exact o.elim
    · exact q.elim
def kyD : Key → D
  | .inl i => .int i
  | .inr z => .str z
theorem RepK.keys : ∀ {kds : List (Key × D)} {kvs : List (Key × V)}, RepK K F kds kvs → Reps K F (kds.map fun kv => kyD kv.1) (kvs.map fun kv => kV kv.1)
  | _, _, .nil => .nil
  | _, _, .cons (k := .inl i) _ t => .cons (.int i) (RepK.keys t)
  | _, _, .cons (k := .inr i) _ t => .cons (.str i) (RepK.keys t)
def dList : List D → R D
  | [.lst ds] => .ok (.lst ds)
  | [.tup ds] => .ok (.lst ds)
  | [.scr ns] => .ok (.lst (ns.map .int))
  | [.dK kvs] => .ok (.lst (kvs.map fun kv => kyD kv.1))
  | _ => .bad
theorem list_ok : OpL C (fun xs H Q => (∃ p ys, xs = [.ref p] ∧ (SqL C.K H p ys ∨ SqT C.K H p ys) ∧ ∀ l, H l = none → Q (.ref l) (upd H l (.lst ys))) ∨ ∃ (a : Addr) (kvs : List (Key × V)), xs = [.ref a] ∧ Rd H a (.dK kvs) ∧ ∀ p, H p = none → Q (.ref p) (upd H p (.lst (kvs.map fun kv => kV kv.1)))) dList := by
  intro σ F H Q ds vs o s w
  unfold dList at o
  split at o
  · obtain ⟨v, rfl, p, vs, rfl, h, r⟩ := w.one
    exact .inl ⟨p, vs, rfl, .inl (SqL.of h), fun l hl => fin_lst o s (Same.refl _) r hl⟩
  · obtain ⟨v, rfl, p, vs, rfl, h, r⟩ := w.one
    exact .inl ⟨p, vs, rfl, .inr (SqT.of h), fun l hl => fin_lst o s (Same.refl _) r hl⟩
  · obtain ⟨v, rfl, p, rfl, h⟩ := w.one
    exact .inl ⟨p, _, rfl, .inl h, fun l hl => fin_lst o s (Same.refl _) (Reps.of_ints _) hl⟩
  · obtain ⟨v, rfl, p, vs, rfl, h, r⟩ := w.one
    exact .inr ⟨p, vs, rfl, h, fun l hl => fin_lst o s (Same.refl _) (RepK.keys r) hl⟩
  · exact o.elim
def dTuple : List D → R D
  | [.lst ds] => .ok (.tup ds)
  | [.scr ns] => .ok (.tup (ns.map .int))
  | _ => .bad
theorem tuple_ok : OpL C (fun xs H Q => ∃ a ys, xs = [.ref a] ∧ ((SqL C.K H a ys ∧ ∀ l, H l = none → Q (.ref l) (upd H l (.tup ys))) ∨ (SqT C.K H a ys ∧ Q (.ref a) H))) dTuple := by
  intro σ F H Q ds vs o s w
  unfold dTuple at o
  split at o
  · obtain ⟨v, rfl, p, vs, rfl, h, r⟩ := w.one
    exact ⟨p, vs, rfl, .inl ⟨SqL.of h, fun l hl => fin_tup o s r hl⟩⟩
  · obtain ⟨v, rfl, p, rfl, h⟩ := w.one
    exact ⟨p, _, rfl, .inl ⟨h, fun l hl => fin_tup o s (Reps.of_ints _) hl⟩⟩
  · exact o.elim
def asInts : List D → Option (List Int)
  | [] => some []
  | .int i :: ds => (asInts ds).map (i :: ·)
  | _ :: _ => none
theorem asInts_map : ∀ ns : List Int, asInts (ns.map .int) = some ns
  | [] => rfl
  | n :: ns => by simp only [List.map_cons]; unfold asInts; rw [asInts_map ns]; rfl
theorem Reps.asInts : ∀ {ds : List D} {vs : List V} {ns : List Int}, Reps K F ds vs → DL.asInts ds = some ns → vs = ns.map V.int
  | _, _, _, .nil, h => by cases h; rfl
  | _, _, _, .cons (ds := ds) (.int i) t, h => by
    unfold DL.asInts at h
    cases h2 : DL.asInts ds with
    | none => rw [h2] at h; cases h
    | some ns => rw [h2] at h; cases h; rw [Reps.asInts t h2]; rfl
  | _, _, _, .cons .non t, h => by cases h
  | _, _, _, .cons (.bl _) t, h => by cases h
  | _, _, _, .cons (.str _) t, h => by cases h
  | _, _, _, .cons (.lst _ _) t, h => by cases h
  | _, _, _, .cons (.scr _) t, h => by cases h
  | _, _, _, .cons (.tup _ _) t, h => by cases h
  | _, _, _, .cons (.dK _ _) t, h => by cases h
  | _, _, _, .cons (.dT _ _) t, h => by cases h
  | _, _, _, .cons (.ref _) t, h => by cases h
def srt (ns : List Int) : List Int := ns.mergeSort (fun a b => decide (a ≤ b))
theorem srt_perm (ns : List Int) : (srt ns).Perm ns := List.mergeSort_perm _ _
theorem srt_sorted (ns : List Int) : (srt ns).Pairwise (· ≤ ·) := by
  have h := List.pairwise_mergeSort (le := fun a b : Int => decide (a ≤ b)) (fun a b c h1 h2 => by
    simp only [decide_eq_true_eq] at *
    omega) (fun a b => by
    simp only [Bool.or_eq_true, decide_eq_true_eq]
    omega) ns
  exact h.imp fun h => by simpa using h
theorem srt_of {ns ms : List Int} (p : ms.Perm ns) (s : ms.Pairwise (· ≤ ·)) : ms = srt ns := PySem.W.ksm_same (p.trans (srt_perm ns).symm) s (srt_sorted ns)
def asStrs : List D → Option (List Str)
  | [] => some []
  | .str i :: ds => (asStrs ds).map (i :: ·)
  | _ :: _ => none
theorem Reps.asStrs : ∀ {ds : List D} {vs : List V} {ns : List Str}, Reps K F ds vs → DL.asStrs ds = some ns → vs = ns.map V.str
  | _, _, _, .nil, h => by cases h; rfl
  | _, _, _, .cons (ds := ds) (.str i) t, h => by
    unfold DL.asStrs at h
    cases h2 : DL.asStrs ds with
    | none => rw [h2] at h; cases h
    | some ns => rw [h2] at h; cases h; rw [Reps.asStrs t h2]; rfl
  | _, _, _, .cons .non t, h => by cases h
  | _, _, _, .cons (.bl _) t, h => by cases h
  | _, _, _, .cons (.int _) t, h => by cases h
  | _, _, _, .cons (.lst _ _) t, h => by cases h
  | _, _, _, .cons (.scr _) t, h => by cases h
  | _, _, _, .cons (.tup _ _) t, h => by cases h
  | _, _, _, .cons (.dK _ _) t, h => by cases h
  | _, _, _, .cons (.dT _ _) t, h => by cases h
  | _, _, _, .cons (.ref _) t, h => by cases h
def leT (a b : Str) : Bool := decide (a.cps.toList ≤ b.cps.toList)
def srtT (ns : List Str) : List Str := ns.mergeSort leT
theorem srtT_perm (ns : List Str) : (srtT ns).Perm ns := List.mergeSort_perm _ _
theorem leT_trans (a b c : Str) (h1 : leT a b = true) (h2 : leT b c = true) : leT a c = true := by
  unfold leT at *
  exact decide_eq_true (List.le_trans (of_decide_eq_true h1) (of_decide_eq_true h2))
theorem leT_total (a b : Str) : (leT a b || leT b a) = true := by
  unfold leT
  rcases List.le_total a.cps.toList b.cps.toList with h | h
  · rw [decide_eq_true h]; rfl
  · rw [decide_eq_true h, Bool.or_true]
theorem leT_anti (a b : Str) (h1 : leT a b = true) (h2 : leT b a = true) : a = b := by
  unfold leT at *
  have := List.le_antisymm (of_decide_eq_true h1) (of_decide_eq_true h2)
  obtain ⟨⟨a⟩⟩ := a
  obtain ⟨⟨b⟩⟩ := b
  cases this
  rfl
theorem srtT_sorted (ns : List Str) : (srtT ns).Pairwise fun a b => leT a b = true := List.pairwise_mergeSort leT_trans leT_total ns
theorem srtT_of {ns ms : List Str} (p : ms.Perm ns) (s : ms.Pairwise fun a b => leT a b = true) : ms = srtT ns :=
  (p.trans (srtT_perm ns).symm).eq_of_pairwise (fun a b _ _ h1 h2 => leT_anti a b h1 h2) s (srtT_sorted ns)
theorem leT_lt {a b : Str} (h : ltCps b.cps.toList a.cps.toList = false) : leT a b = true := by
  unfold leT
  rw [ltCps_eq] at h
  exact decide_eq_true (of_decide_eq_false h)
theorem risingS_pw : ∀ (p : Str) (l : List Str), risingS p l = true → (p :: l).Pairwise fun a b => leT a b = true
  | p, [], _ => List.pairwise_singleton _ _
  | p, x :: r, h => by
    unfold risingS at h
    rw [Bool.and_eq_true] at h
    have h1 := leT_lt (a := p) (b := x) (by simpa using h.1)
    have h2 := risingS_pw x r h.2
    refine List.pairwise_cons.mpr ⟨fun y hy => ?_, h2⟩
    rcases List.mem_cons.mp hy with rfl | hy
    · exact h1
    · exact leT_trans _ _ _ h1 ((List.pairwise_cons.mp h2).1 y hy)
theorem sortedS_pw : ∀ (l : List Str), sortedS l = true → l.Pairwise fun a b => leT a b = true
  | [], _ => .nil
  | x :: r, h => risingS_pw x r h
def dSorted : List D → R D
  | [.lst ds] => match asInts ds with | some ns => .ok (.lst ((srt ns).map .int)) | none => match asStrs ds with | some ss => grd (decide (ss.length < 64)) (.ok (.lst ((srtT ss).map .str))) | none => .bad
  | [.tup ds] => .bad
  | [.scr ns] => .ok (.lst ((srt ns).map .int))
  | [.dK kvs] => match asInts (kvs.map fun kv => kyD kv.1) with | some ns => grd (decide (ns.length < 64)) (.ok (.lst ((srt ns).map .int))) | none => .bad
  | _ => .bad
theorem keys_ints : ∀ {kds : List (Key × D)} {kvs : List (Key × V)} {ns : List Int}, RepK K F kds kvs → asInts (kds.map fun kv => kyD kv.1) = some ns → kvs.map (·.1) = ns.map Sum.inl
  | _, _, _, .nil, h => by cases h; rfl
  | _, _, ns, .cons (k := .inl i) (ds := kds) _ t, h => by
    have h : (asInts (kds.map fun kv => kyD kv.1)).map (i :: ·) = some ns := h
    cases hq : asInts (kds.map fun kv => kyD kv.1) with
    | none => rw [hq] at h; cases h
    | some ms =>
      rw [hq] at h
      cases h
      rw [List.map_cons, keys_ints t hq]; rfl
  | _, _, _, .cons (k := .inr i) _ t, h => by cases h
theorem sorted_ok : OpL C (fun vs H Q => (rSortedI C.K vs H Q ∨ rSortedS C.K vs H Q) ∨ ∃ (a : Addr) (kvs : List (Key × V)) (ks : List Int), vs = [.ref a] ∧ Rd H a (.dK kvs) ∧ kvs.map (·.1) = ks.map Sum.inl ∧ ks.length < 64 ∧
    ∀ (ys : List Int) (p : Addr), ys.Perm ks → ys.Pairwise (· ≤ ·) → H p = none → Q (.ref p) (upd H p (.lst (ys.map V.int)))) dSorted := by
  intro σ F H Q ds vs o s w
  unfold dSorted at o
  split at o
  · rename_i ds
    obtain ⟨v, rfl, p, vs, rfl, h, r⟩ := w.one
    split at o
    · rename_i ns hn
      refine .inl (.inl ⟨p, ns, rfl, by rw [← Reps.asInts r hn]; exact SqL.of h, fun ns' l hp hs hl => ?_⟩)
      rw [srt_of hp hs]
      exact fin_lst o s (Same.refl _) (Reps.of_ints _) hl
    · split at o
      · rename_i ss hn
        obtain ⟨z, o⟩ := grd_out o
        refine .inl (.inr ⟨p, ss, rfl, by rw [← Reps.asStrs r hn]; exact SqL.of h, of_decide_eq_true z, fun ns' l hp hs hl => ?_⟩)
        rw [srtT_of hp (sortedS_pw _ hs)]
        exact fin_lst o s (Same.refl _) (Reps.of_strs _) hl
      · exact o.elim
  · exact o.elim
  · obtain ⟨v, rfl, p, rfl, h⟩ := w.one
    refine .inl (.inl ⟨p, _, rfl, h, fun ns' l hp hs hl => ?_⟩)
    rw [srt_of hp hs]
    exact fin_lst o s (Same.refl _) (Reps.of_ints _) hl
  · obtain ⟨v, rfl, p, vs, rfl, h, r⟩ := w.one
    split at o
    · rename_i ns hn
      obtain ⟨z, o⟩ := grd_out o
      refine .inr ⟨p, vs, ns, rfl, h, keys_ints r hn, of_decide_eq_true z, fun ys l hp hs hl => ?_⟩
      rw [srt_of hp hs]
      exact fin_lst o s (Same.refl _) (Reps.of_ints _) hl
    · exact o.elim
  · exact o.elim
end
end DL
namespace DL
open PySem PySem.Spec PyProof.Rows L2
section
variable {X : Cx} {C : Cd} {e a b c tg : Expr} {f g k : En → R D} {pos p apos cpos : Pos} {st : Stmt} {rest : List Stmt} {s1 s2 : En → R Fl} {K : Kx} {F H : Hp}
def tyN : D → String
  | .non => "NoneType"
  | .bl _ => "bool"
  | .int _ => "int"
  | .str _ => "str"
  | .lst _ => "list"
  | .tup _ => "tuple"
  | .dK _ => "dict"
  | .rows _ => "list"
  | _ => ""
def isB (T : String) (d : D) : Bool := tyN d == T || (T == "int" && tyN d == "bool")
def isiD (T : String) : D → R D
  | .dT _ => .bad
  | .scr _ => .bad
  | .ref _ => .bad
  | .exn _ => .bad
  | .deep _ => .bad
  | .obj _ => .bad
  | .junk _ => .bad
  | d => .ok (.bl (isB T d))
def kitAll (T : String) : Bool := ["NoneType", "bool", "int", "str", "list", "tuple", "dict"].all fun n => kitB n T == some (n == T || (T == "int" && n == "bool"))
theorem kitAll_of {T : String} (h : kitAll T = true) {n : String} (hn : n ∈ ["NoneType", "bool", "int", "str", "list", "tuple", "dict"]) : PySem.W.kitOne K (.type n) (.type T) = some (n == T || (T == "int" && n == "bool")) := by
  have := List.all_eq_true.mp h n hn
  exact kit_ty (by simpa using this)
theorem View.ty {d : D} {x : V} (w : View K F H d x) (h : tyN d ≠ "") : TyX K H x (.type (tyN d)) := by
  cases d with
  | non => cases w; exact .base .non
  | bl b => cases w; exact .base (.bl _)
  | int b => cases w; exact .base (.int _)
  | str b => cases w; exact .base (.str _)
  | lst ds => obtain ⟨p, vs, rfl, h, _⟩ := w; exact .base (.lst h)
  | tup ds => obtain ⟨p, vs, rfl, h, _⟩ := w; exact .base (.tup h)
  | dK ds =>
    obtain ⟨p, vs, rfl, h, _⟩ := w
    rcases h with h | ⟨o, h⟩
    · exact .base (.dK h)
    · exact .fDict h
  | rows ds => obtain ⟨p, vs, rfl, h, _⟩ := w; exact .base (.lst h)
  | _ => exact absurd rfl h
theorem d_isi {n : String} (hC : X.K = C.K.fr) (ha : PE X a (tR C f)) (hb : PE X b (tC (.ty n))) (hk : kitAll n = true) (hm : X.mg "isinstance" = none) (hg : Gl X "isinstance" := by rfl)
    (hs2 : starEach [b] X.env = (false, eval b X.env) :: starEach [] X.env := by rfl)
    (he : starEach [a, b] X.env = (false, eval a X.env) :: starEach [b] X.env := by rfl) (hpl : (backTo pos (starEach [b] X.env)).any (·.1) = false := by rfl) :
    PE X (.Call (.Name "isinstance" p) [a, b] [] pos) (tO C (uop f (isiD n))) :=
  (pe_callB call_isi hg hm (by decide +kernel) (pa_cons ha (pa_cons hb pa_nil hs2) he) (by decide) (by decide) he hpl).mono (by
    rintro σ H Q ⟨ρ, F, rl, q⟩
    refine ⟨ρ, F, rl, q.fst fun d v F1 H1 _ q x1 s1 w1 => ?_⟩
    have q := Out.later q x1
    rw [hC]
    have fin : isiD n d = .ok (.bl (isB n d)) → tyN d ∈ ["NoneType", "bool", "int", "str", "list", "tuple", "dict"] → rIsi C.K [v, .ty n] H1 Q := fun e hd => by
      rw [e] at q
      refine ⟨v, .ty n, _, _, _, rfl, .ty n, w1.ty (fun z => by rw [z] at hd; revert hd; decide), kitAll_of hk hd, fin_flat q s1 rfl⟩
    cases d with
    | non => exact fin rfl (by decide)
    | bl b => exact fin rfl (by show "bool" ∈ _; decide)
    | int b => exact fin rfl (by show "int" ∈ _; decide)
    | str b => exact fin rfl (by show "str" ∈ _; decide)
    | lst b => exact fin rfl (by show "list" ∈ _; decide)
    | tup b => exact fin rfl (by show "tuple" ∈ _; decide)
    | dK b => exact fin rfl (by show "dict" ∈ _; decide)
    | rows b => exact fin rfl (by show "list" ∈ _; decide)
    | _ => exact q.elim)
abbrev Den := List D → R (Bool × D)
def spD (K : PySem.W.Frag) (cls : Str → Addr) (n : Nat) (den : Den) : Sp := fun vs H Q E => vs.length = n ∧ ∃ (as : List Addr) (F : Hp) (ds : List D), Same F H ∧ Reps ⟨K, as⟩ F ds vs ∧ match den ds with
  | .ok (o, d) => ∀ v F' H', Ext F H F' H' → Same F' H' → (if o = true then New ⟨K, as⟩ H F' H' d v else Rep ⟨K, as⟩ F' d v) → Q v H'
  | .err c => ∀ F' H', Ext F H F' H' → Same F' H' → E (.ref (cls c)) none H'
  | .bad => False
def args (N : Nat) (ds : List D) : En := ds.map (fun d => some (false, d)) ++ List.replicate (N - ds.length) none
def endD : R Fl → R (Bool × D)
  | .ok (.next _) => .ok (false, .non)
  | .ok (.ret o d) => .ok (o, d)
  | .ok _ => .bad
  | .err c => .err c
  | .bad => .bad
def bodyD (n N : Nat) (g : En → R Fl) : Den := fun ds => if ds.length = n then endD (g (args N ds)) else .bad
def noE {α : Type} : R α → R α
  | .err _ => .bad
  | x => x
def bodyN (n N : Nat) (g : En → R Fl) : Den := fun ds => if ds.length = n then endD (noE (g (args N ds))) else .bad
theorem bodyN_len {n N : Nat} {g : En → R Fl} : ∀ ds, bodyN n N g ds ≠ .bad → ds.length = n := fun ds h => by
  unfold bodyN at h
  split at h
  · assumption
  · exact absurd rfl h
theorem args_rel {K : Kx} {F H : Hp} {N : List Str} {ds : List D} {vs : List V} {XW : Str → L2.St → Hp → Prop} (s : Same F H) (r : Reps K F ds vs) : Rel ⟨K, F, H, XW, fun _ => none, [], []⟩ (args N.length ds) (L2.start N vs) F H where
  wok := .nil
  lend := fun _ _ _ h => nomatch h
  ext := Ext.refl _ _
  sub := s
  len := by
    unfold args L2.start
    simp only [List.length_append, List.length_map, List.length_replicate, r.length]
  slot := fun i d h => by
    unfold args at h
    unfold L2.start
    by_cases hi : i < ds.length
    · rw [List.getElem?_append_left (by rw [List.length_map]; exact hi), List.getElem?_map] at h
      cases hd : ds[i]? with
      | none => rw [hd] at h; cases h
      | some d' =>
        rw [hd] at h
        cases h
        obtain ⟨v, hv, w⟩ := r.get hd
        refine ⟨v, ?_, w⟩
        rw [List.getElem?_append_left (by rw [List.length_map, r.length]; exact hi), List.getElem?_map, hv]
        rfl
    · rw [List.getElem?_append_right (by rw [List.length_map]; omega), List.getElem?_replicate] at h
      split at h <;> cases h
  ownF := fun i d h => by
    unfold args at h
    by_cases hi : i < ds.length
    · rw [List.getElem?_append_left (by rw [List.length_map]; exact hi), List.getElem?_map] at h
      cases hd : ds[i]? with
      | none => rw [hd] at h; cases h
      | some d' => rw [hd] at h; cases h
    · rw [List.getElem?_append_right (by rw [List.length_map]; omega), List.getElem?_replicate] at h
      split at h <;> cases h
  apartF := fun i j d e a b c h => by
    unfold args at h
    by_cases hi : i < ds.length
    · rw [List.getElem?_append_left (by rw [List.length_map]; exact hi), List.getElem?_map] at h
      cases hd : ds[i]? with
      | none => rw [hd] at h; cases h
      | some d' => rw [hd] at h; cases h
    · rw [List.getElem?_append_right (by rw [List.length_map]; omega), List.getElem?_replicate] at h
      split at h <;> cases h
theorem ok_def {K : PySem.W.Frag} {P : Program} {w : World} {mg : Str → Option Value} {base : Heap} {x qual : Str} {fs : Stmt} {fa : Addr} {fd : FuncData} {N ps : List Str} {k : Nat} {cls : Str → Addr} {g : En → R Fl} (Fn : Fun K x qual fs fa fd) (S : FnScope N ps (defScope fs))
    (hb : ∀ (cdv : Value) (A : Around) (outer : List Env) (s : Shared) (H : Hp) (E : XK) (F0 : Hp) (as : List Addr), Room k (A.deeper (envOfC qual (defScope fs) s.heap.objs.size fa cdv)) → PSs (cxOf CX0 P w K mg base N qual (defScope fs) fa cdv A outer s H E).nox (defBody fs) (tS ⟨⟨K, as⟩, F0, H, fun _ _ _ => False, fun _ => none, [], []⟩ g)) :
    FnOk P w K mg base CX0 (k + 1) fa fd ps (spD K cls ps.length (bodyN ps.length N.length g)) := by
  refine Fn.ok S (fun vs H Q E h => h.1) (fun cdv A outer s H vs Q E hr h => ?_)
  obtain ⟨hl, as, F, ds, sf, r, q⟩ := h
  refine ⟨_, hb cdv A outer s H E F as hr, args N.length ds, F, args_rel sf r, ?_⟩
  unfold bodyN at q
  rw [if_pos (by rw [← r.length]; exact hl)] at q
  cases hgg : g (args N.length ds) with
  | bad => rw [hgg] at q; exact q.elim
  | err c => rw [hgg] at q; exact q.elim
  | ok fl =>
    rw [hgg] at q
    cases fl with
    | next ρ' => exact fun σ' F' H' s' r' => q .non F' H' r'.ext r'.sub .non
    | ret o d => exact fun v F' H' x s' w => q v F' H' x s' (RetV.of rfl w)
    | brk ρ' => exact q.elim
    | cont ρ' => exact q.elim
theorem ok_bad {K : PySem.W.Frag} {P : Program} {w : World} {mg : Str → Option Value} {base : Heap} {fa : Addr} {fd : FuncData} {ps : List Str} {k n : Nat} {cls : Str → Addr} {CX : CXT} (h : ps.length = n) : FnOk P w K mg base CX k fa fd ps (spD K cls n (fun _ => .bad)) :=
  ⟨fun vs H Q E h' => h'.1.trans h.symm, fun A outer s H args us vs Q E _ _ _ _ h' => by
    obtain ⟨_, _, _, _, _, _, q⟩ := h'
    exact q.elim⟩
def callE (den : Den) (ds : List D) : R D := bd (den ds) fun z => .ok z.2
def callO (den : Den) (ds : List D) : R D := bd (den ds) fun z => grd (z.1 || !isC z.2) (.ok z.2)
section
variable {kk : Nat} {fa : Addr} {fd : FuncData} {ps : List Str} {x : Str} {es : List Expr} {fs : En → R (List D)} {cls : Str → Addr} {n : Nat} {den : Den} {CX : CXT} {E : XK}
theorem callE_ok (hXW : ∀ c σ H, C.XW c σ H → E (.ref (cls c)) none H) (hn : ∀ ds, den ds ≠ .bad → ds.length = n) : ∀ σ H Q, tE C (fun ρ => bd (fs ρ) (callE den)) σ H Q → tCall (spD C.K.fr cls n den) [] E (tA C fs) σ H Q := by
  rintro σ H Q ⟨ρ, F, r, q⟩
  refine out_args r q fun ds vs F' H' hd q x s rp => ?_
  unfold callE at q
  have hnb : den ds ≠ .bad := fun z => by rw [z] at q; exact q
  refine ⟨by rw [List.append_nil, rp.length]; exact hn ds hnb, C.K.as, F', ds, s, by rw [List.append_nil]; exact rp, ?_⟩
  cases hden : den ds with
  | bad => exact hnb hden
  | err c => rw [hden] at q; exact fun F2 H2 x2 s2 => hXW c σ H2 (q F2 H2 x2 s2)
  | ok z =>
    rw [hden] at q
    obtain ⟨o, d⟩ := z
    intro v F2 H2 x2 s2 w
    cases o with
    | false => exact q v F2 H2 x2 s2 (by simpa using w)
    | true =>
      have w' : New C.K H' F2 H2 d v := by simpa using w
      obtain ⟨F3, x3, _, s3, w3⟩ := w'.rep s2 x2
      exact q v F3 H2 x3 s3 w3
theorem callO_ok (hXW : ∀ c σ H, C.XW c σ H → E (.ref (cls c)) none H) (hn : ∀ ds, den ds ≠ .bad → ds.length = n) : ∀ σ H Q, tO C (fun ρ => bd (fs ρ) (callO den)) σ H Q → tCall (spD C.K.fr cls n den) [] E (tA C fs) σ H Q := by
  rintro σ H Q ⟨ρ, F, r, q⟩
  refine out_args r q fun ds vs F' H' hd q x s rp => ?_
  unfold callO at q
  have hnb : den ds ≠ .bad := fun z => by rw [z] at q; exact q
  refine ⟨by rw [List.append_nil, rp.length]; exact hn ds hnb, C.K.as, F', ds, s, by rw [List.append_nil]; exact rp, ?_⟩
  cases hden : den ds with
  | bad => exact hnb hden
  | err c => rw [hden] at q; exact fun F2 H2 x2 s2 => hXW c σ H2 (q F2 H2 x2 s2)
  | ok z =>
    rw [hden] at q
    obtain ⟨o, d⟩ := z
    intro v F2 H2 x2 s2 w
    have q' : Out C σ F' H' (fun F' H' => New C.K H F' H') (grd (o || !isC d) (.ok d)) Q := q
    obtain ⟨ho, q2⟩ := grd_out q'
    cases o with
    | false => exact q2 v F2 H2 x2 s2 (New.of_rep (by simpa using ho) (by simpa using w))
    | true => exact q2 v F2 H2 x2 s2 (New.later x.h (by simpa using w))
theorem d_callE (Fo : FnOk X.prog X.w X.K X.mg X.base CX kk fa fd ps (spD C.K.fr cls n den)) (hn : ∀ ds, den ds ≠ .bad → ds.length = n) (hr : Room kk X.A) (hm : X.mg x = some (.ref fa)) (hk : PySem.W.keepIn X.K (.ref fa) = true) (hb : Binds X.K fd ps []) (hx : Passes CX X E) (hXW : ∀ c σ H, C.XW c σ H → E (.ref (cls c)) none H)
    (ha : PA X (e :: es) (tA C fs)) (hg : Gl X x := by rfl) (hdb : (x == ("__debug__" : Str)) = false := by decide) (he : starEach (e :: es) X.env = (false, eval e X.env) :: starEach es X.env := by rfl) (hpl : (backTo pos (starEach es X.env)).any (·.1) = false := by rfl) :
    PE X (.Call (.Name x p) (e :: es) [] pos) (tE C (nop fs (callE den))) := (pe_call Fo hr hg hm hk hb .nil hx ha hdb he hpl).mono (callE_ok hXW hn)
theorem d_callO (Fo : FnOk X.prog X.w X.K X.mg X.base CX kk fa fd ps (spD C.K.fr cls n den)) (hn : ∀ ds, den ds ≠ .bad → ds.length = n) (hr : Room kk X.A) (hm : X.mg x = some (.ref fa)) (hk : PySem.W.keepIn X.K (.ref fa) = true) (hb : Binds X.K fd ps []) (hx : Passes CX X E) (hXW : ∀ c σ H, C.XW c σ H → E (.ref (cls c)) none H)
    (ha : PA X (e :: es) (tA C fs)) (hg : Gl X x := by rfl) (hdb : (x == ("__debug__" : Str)) = false := by decide) (he : starEach (e :: es) X.env = (false, eval e X.env) :: starEach es X.env := by rfl) (hpl : (backTo pos (starEach es X.env)).any (·.1) = false := by rfl) :
    PE X (.Call (.Name x p) (e :: es) [] pos) (tO C (nop fs (callO den))) := (pe_call Fo hr hg hm hk hb .nil hx ha hdb he hpl).mono (callO_ok hXW hn)
end
def spLaw (K : PySem.W.Frag) : Sp := fun vs H Q _ => ∃ (a : Addr) (ns : List Int), vs = [.ref a] ∧ SqL K H a (ns.map V.int) ∧ ns.length ≤ 63 ∧ ∀ H', Q (.bl true) H'
theorem law_end {K : PySem.W.Frag} {P : Program} {w : World} {mg : Str → Option Value} {base : Heap} {kk : Nat} {fa : Addr} {fd : FuncData} {cls : Str → Addr} {den : Den} (Fo : FnOk P w K mg base CX0 kk fa fd ["script"] (spD K cls 1 den))
    (h : ∀ ns : List Int, ns.length ≤ 63 → ∃ o, den [.scr ns] = .ok (o, .bl true)) : FnOk P w K mg base CX0 kk fa fd ["script"] (spLaw K) := Fo.imp fun vs H Q E hs => by
  obtain ⟨a, ns, rfl, hS, hl, q⟩ := hs
  obtain ⟨o, ho⟩ := h ns hl
  refine ⟨rfl, [], fun b => if b = a then H a else none, [.scr ns], fun b u e => ?_, .cons (.scr ?_) .nil, ?_⟩
  · dsimp only at e
    split at e
    · rename_i hb; rw [hb]; exact e
    · cases e
  · rcases hS with (h1 | ⟨ob, h1⟩) | h1
    · exact .inl (.inl (by simp only [if_true]; exact h1))
    · exact .inl (.inr ⟨ob, by simp only [if_true]; exact h1⟩)
    · exact .inr h1
  · rw [ho]
    intro v F' H' x s w
    have e : v = .bl true := by
      split at w
      · unfold New at w
        have w' : Rep ⟨K, []⟩ F' (.bl true) v := w
        cases w'; rfl
      · cases w; rfl
    rw [e]
    exact q H'
end
end DL
namespace DL
open PySem PySem.Spec PyProof.Rows L2
def lnOf (n : Nat) (ds : List D) (vs : List V) (i : Nat) : Option (D × V) := if i < n then (match ds[i]? with | some d => some (d, vs.getD i .non) | none => none) else none
def addrAt (vs : List V) (i : Nat) : Addr := match vs[i]? with
  | some (.ref a) => a
  | _ => 0
def lnM (n : Nat) (io : List Nat) (ds : List D) (vs : List V) (i : Nat) : Option (D × V) := if i ∈ io then some (.ref (addrAt vs i), .ref (addrAt vs i)) else lnOf n ds vs i
def ioAs (io : List Nat) (vs : List V) : List Addr := io.map (addrAt vs)
def LnAt (C : Cd) (ds : List D) (i : Nat) : Prop := ∀ d, ds[i]? = some d → ∃ v, C.ln i = some (d, v)
theorem lnOf_at {n i : Nat} {ds : List D} {vs : List V} {d : D} (hi : i < n) (h : ds[i]? = some d) : lnOf n ds vs i = some (d, vs.getD i .non) := by
  unfold lnOf; rw [if_pos hi, h]
theorem lnAt_of {C : Cd} {n i : Nat} {ds : List D} {vs : List V} (hc : C.ln = lnOf n ds vs) (hi : i < n) : LnAt C ds i := fun d h => ⟨_, by rw [hc]; exact lnOf_at hi h⟩
theorem lnAt_M {C : Cd} {n i : Nat} {io : List Nat} {ds : List D} {vs : List V} (hc : C.ln = lnM n io ds vs) (hi : i < n) (hn : i ∉ io) : LnAt C ds i := fun d h => ⟨_, by rw [hc]; unfold lnM; rw [if_neg hn]; exact lnOf_at hi h⟩
def lnW (n : Nat) (ev : List Nat) (ds : List D) (vs : List V) (i : Nat) : Option (D × V) := if i ∈ ev then none else lnOf n ds vs i
theorem lnAt_W {C : Cd} {n i : Nat} {ev : List Nat} {ds : List D} {vs : List V} (hc : C.ln = lnW n ev ds vs) (hi : i < n) (hn : i ∉ ev) : LnAt C ds i := fun d h => ⟨_, by rw [hc]; unfold lnW; rw [if_neg hn]; exact lnOf_at hi h⟩
theorem Views.length {K : Kx} {F H : Hp} : ∀ {ds : List D} {vs : List V}, Views K F H ds vs → vs.length = ds.length
  | _, _, .nil => rfl
  | _, _, .cons _ t => congrArg (· + 1) (Views.length t)
theorem Views.get {K : Kx} {F H : Hp} : ∀ {ds : List D} {vs : List V} {i : Nat} {d : D}, Views K F H ds vs → ds[i]? = some d → ∃ v, vs[i]? = some v ∧ View K F H d v
  | _, _, 0, _, .cons r _, h => by cases h; exact ⟨_, rfl, r⟩
  | _, _, i + 1, _, .cons _ t, h => Views.get (i := i) t h
def spV (K : PySem.W.Frag) (cls : Str → Addr) (n : Nat) (den : Den) : Sp := fun vs H Q E => vs.length = n ∧ ∃ (as : List Addr) (F : Hp) (ds : List D), Same F H ∧ Views ⟨K, as⟩ F H ds vs ∧ match den ds with
  | .ok (o, d) => ∀ v F' H', Ext F H F' H' → Same F' H' → (if o = true then New ⟨K, as⟩ H F' H' d v else Rep ⟨K, as⟩ F' d v) → Q v H'
  | .err c => ∀ F' H', Ext F H F' H' → Same F' H' → E (.ref (cls c)) none H'
  | .bad => False
def bodyV (n N : Nat) (g : List D → En → R Fl) : Den := fun ds => if ds.length = n then endD (noE (g ds (List.replicate (n + (N - n)) none))) else .bad
theorem bodyV_len {n N : Nat} {g : List D → En → R Fl} : ∀ ds, bodyV n N g ds ≠ .bad → ds.length = n := fun ds h => by
  unfold bodyV at h
  split at h
  · assumption
  · exact absurd rfl h
theorem views_rel {K : Kx} {F H : Hp} {N : List Str} {n : Nat} {ds : List D} {vs : List V} {XW : Str → L2.St → Hp → Prop} (s : Same F H) (r : Views K F H ds vs) (hn : vs.length = n) : Rel ⟨K, F, H, XW, lnOf n ds vs, [], []⟩ (List.replicate (n + (N.length - n)) none) (L2.start N vs) F H where
  ext := Ext.refl _ _
  sub := s
  len := by
    unfold L2.start
    simp only [List.length_append, List.length_map, List.length_replicate, hn]
  slot := fun i d h => by
    rw [List.getElem?_replicate] at h
    split at h <;> cases h
  ownF := fun i d h => by
    rw [List.getElem?_replicate] at h
    split at h <;> cases h
  apartF := fun i j d e a b c h => by
    rw [List.getElem?_replicate] at h
    split at h <;> cases h
  wok := .nil
  lend := fun i d v h => by
    have h : lnOf n ds vs i = some (d, v) := h
    unfold lnOf at h
    split at h
    · cases hd : ds[i]? with
      | none => rw [hd] at h; cases h
      | some d' =>
        rw [hd] at h
        obtain ⟨v', hv, w⟩ := r.get hd
        have e : vs.getD i .non = v' := by rw [List.getD_eq_getElem?_getD, hv]; rfl
        have h2 : some (d', vs.getD i .non) = some (d, v) := h
        rw [e] at h2
        cases h2
        refine ⟨?_, w⟩
        unfold L2.start
        have hi : i < vs.length := (List.getElem?_eq_some_iff.mp hv).1
        rw [List.getElem?_append_left (by rw [List.length_map]; exact hi), List.getElem?_map, hv]
        rfl
    · cases h
theorem ok_defV {K : PySem.W.Frag} {P : Program} {w : World} {mg : Str → Option Value} {base : Heap} {x qual : Str} {fs : Stmt} {fa : Addr} {fd : FuncData} {N ps : List Str} {k : Nat} {cls : Str → Addr} {g : List D → En → R Fl} (Fn : Fun K x qual fs fa fd) (S : FnScope N ps (defScope fs))
    (hb : ∀ (ds : List D) (vs : List V) (cdv : Value) (A : Around) (outer : List Env) (s : Shared) (H : Hp) (E : XK) (F0 : Hp) (as : List Addr), Room k (A.deeper (envOfC qual (defScope fs) s.heap.objs.size fa cdv)) → PSs (cxOf CX0 P w K mg base N qual (defScope fs) fa cdv A outer s H E).nox (defBody fs) (tS ⟨⟨K, as⟩, F0, H, fun _ _ _ => False, lnOf ps.length ds vs, [], []⟩ (g ds))) :
    FnOk P w K mg base CX0 (k + 1) fa fd ps (spV K cls ps.length (bodyV ps.length N.length g)) := by
  refine Fn.ok S (fun vs H Q E h => h.1) (fun cdv A outer s H vs Q E hr h => ?_)
  obtain ⟨hl, as, F, ds, sf, r, q⟩ := h
  refine ⟨_, hb ds vs cdv A outer s H E F as hr, List.replicate (ps.length + (N.length - ps.length)) none, F, views_rel sf r hl, ?_⟩
  unfold bodyV at q
  rw [if_pos (by rw [← r.length]; exact hl)] at q
  cases hgg : g ds (List.replicate (ps.length + (N.length - ps.length)) none) with
  | bad => rw [hgg] at q; exact q.elim
  | err c => rw [hgg] at q; exact q.elim
  | ok fl =>
    rw [hgg] at q
    cases fl with
    | next ρ' => exact fun σ' F' H' s' r' => q .non F' H' r'.ext r'.sub .non
    | ret o d => exact fun v F' H' x s' w => q v F' H' x s' (RetV.of rfl w)
    | brk ρ' => exact q.elim
    | cont ρ' => exact q.elim
section
variable {X : Cx} {C : Cd} {e : Expr} {es : List Expr} {fs : En → R (List D)} {pos p : Pos} {kk n : Nat} {fa : Addr} {fd : FuncData} {ps : List Str} {x : Str} {cls : Str → Addr} {den : Den} {CX : CXT} {E : XK}
def rdL (ds : List D) (i : Nat) : En → R D := fun _ => match ds[i]? with
  | some d => .ok d
  | none => .bad
def flatB (d : D) : Bool := (flatD d).isSome
def rdF (ds : List D) (i : Nat) : En → R D := fun _ => match ds[i]? with
  | some d => grd (flatB d) (.ok d)
  | none => .bad
theorem v_L {i : Nat} {ds : List D} (h : PE X e (tVar i)) (hc : LnAt C ds i := by first | exact lnAt_of rfl (by decide) | exact lnAt_M rfl (by decide) (by decide) | exact lnAt_W rfl (by decide) (by decide)) : PE X e (tR C (rdL ds i)) := h.mono fun σ H Q ⟨ρ, F, r, q⟩ => by
  unfold rdL at q
  cases hd : ds[i]? with
  | none => rw [hd] at q; exact q.elim
  | some d =>
    rw [hd] at q
    obtain ⟨v, hl⟩ := hc d hd
    obtain ⟨hv, w⟩ := r.lend i d v hl
    exact ⟨_, hv, q _ F H (Ext.refl _ _) r.sub (w.mono r.ext.f r.ext.h)⟩
theorem View.flat {K : Kx} {F H : Hp} {d : D} {v : V} (h : flatB d = true) (w : View K F H d v) : Rep K F d v := by
  cases d with
  | non => cases w; exact .non
  | bl b => cases w; exact .bl b
  | int b => cases w; exact .int b
  | str b => cases w; exact .str b
  | _ => cases h
theorem out_argsV {σ : L2.St} {ρ : En} {F H : Hp} {w : List D → R D} {W : Hp → Hp → D → V → Prop} {Q : VK} {Q' : List V → Hp → Prop} (r : Rel C ρ σ F H) (q : Out C σ F H W (bd (fs ρ) w) Q)
    (h : ∀ ds vs F' H', fs ρ = .ok ds → Out C σ F' H' W (w ds) Q → Ext F H F' H' → Same F' H' → Views C.K F' H' ds vs → Q' vs H') : tV C fs σ H Q' := by
  refine ⟨ρ, F, r, ?_⟩
  cases hf : fs ρ with
  | bad => rw [hf] at q; exact q
  | err c => rw [hf] at q; exact q
  | ok ds =>
    rw [hf] at q
    exact fun vs F1 H1 x1 s1 w1 => h ds vs F1 H1 hf (Out.later q x1) x1 s1 w1
theorem callEV_ok (hXW : ∀ c σ H, C.XW c σ H → E (.ref (cls c)) none H) (hn : ∀ ds, den ds ≠ .bad → ds.length = n) : ∀ σ H Q, tE C (fun ρ => bd (fs ρ) (callE den)) σ H Q → tCall (spV C.K.fr cls n den) [] E (tV C fs) σ H Q := by
  rintro σ H Q ⟨ρ, F, r, q⟩
  refine out_argsV r q fun ds vs F' H' hd q x s rp => ?_
  unfold callE at q
  have hnb : den ds ≠ .bad := fun z => by rw [z] at q; exact q
  refine ⟨by rw [List.append_nil, rp.length]; exact hn ds hnb, C.K.as, F', ds, s, by rw [List.append_nil]; exact rp, ?_⟩
  cases hden : den ds with
  | bad => exact hnb hden
  | err c => rw [hden] at q; exact fun F2 H2 x2 s2 => hXW c σ H2 (q F2 H2 x2 s2)
  | ok z =>
    rw [hden] at q
    obtain ⟨o, d⟩ := z
    intro v F2 H2 x2 s2 w
    cases o with
    | false => exact q v F2 H2 x2 s2 (by simpa using w)
    | true =>
      have w' : New C.K H' F2 H2 d v := by simpa using w
      obtain ⟨F3, x3, _, s3, w3⟩ := w'.rep s2 x2
      exact q v F3 H2 x3 s3 w3
theorem d_callEV (Fo : FnOk X.prog X.w X.K X.mg X.base CX kk fa fd ps (spV C.K.fr cls n den)) (hn : ∀ ds, den ds ≠ .bad → ds.length = n) (hr : Room kk X.A) (hm : X.mg x = some (.ref fa)) (hk : PySem.W.keepIn X.K (.ref fa) = true) (hb : Binds X.K fd ps []) (hx : Passes CX X E) (hXW : ∀ c σ H, C.XW c σ H → E (.ref (cls c)) none H)
    (ha : PA X (e :: es) (tV C fs)) (hg : Gl X x := by rfl) (hdb : (x == ("__debug__" : Str)) = false := by decide) (he : starEach (e :: es) X.env = (false, eval e X.env) :: starEach es X.env := by rfl) (hpl : (backTo pos (starEach es X.env)).any (·.1) = false := by rfl) :
    PE X (.Call (.Name x p) (e :: es) [] pos) (tE C (nop fs (callE den))) := (pe_call Fo hr hg hm hk hb .nil hx ha hdb he hpl).mono (callEV_ok hXW hn)
end
end DL
namespace DL
open PySem PySem.Spec PyProof.Rows L2
def tst (f : En → R D) : En → R Bool := fun ρ => bd (f ρ) asB
section
variable {X : Cx} {C : Cd} {e a b c tg : Expr} {f g k : En → R D} {pos p apos cpos : Pos} {st : Stmt} {rest : List Stmt} {s1 s2 : En → R Fl} {K : Kx} {F H : Hp} {kk : Nat}
def flatO (d : D) : R D := grd (!isC d) (.ok d)
theorem o_of_e (h : PE X e (tE C f)) : PE X e (tO C (uop f flatO)) := h.mono fun σ H Q ⟨ρ, F, r, q⟩ => ⟨ρ, F, r, q.fst fun d v F' H' _ q x s w => by
  obtain ⟨z, q⟩ := grd_out q
  exact q v F' H' x s (New.of_rep (by simpa using z) w)⟩
theorem eu (hr : Room kk X.A) : X.A.units + 64 < cLine := hr.units
theorem eu65 (hr : Room kk X.A) : X.A.units + 65 < cLine := by have := hr.un; omega
theorem eu1 (hr : Room kk X.A) : X.A.units + 1 < cLine := by have := hr.un; omega
theorem d_eq (hC : X.K = C.K.fr) (hr : Room kk X.A) (ha : PE X a (tR C f)) (hb : PE X b (tR C g)) : PE X (.Compare a [.Eq] [b] pos) (tO C (bop f g (dEq false))) := d_cmp (OpR.or op_eq (hC ▸ op_eqD (eu hr))) rEq_ok (nomark _) ha hb
theorem d_lt (ha : PE X a (tR C f)) (hb : PE X b (tR C g)) : PE X (.Compare a [.Lt] [b] pos) (tO C (bop f g dLt)) := d_cmp (OpR.or op_lt op_lt_str) rLt_ok (nomark _) ha hb
theorem d_gt (ha : PE X a (tR C f)) (hb : PE X b (tR C g)) : PE X (.Compare a [.Gt] [b] pos) (tO C (bop f g dGt)) := d_cmp (OpR.or op_gt op_gt_str) rGt_ok (nomark _) ha hb
theorem d_in (hC : X.K = C.K.fr) (hr : Room kk X.A) (ha : PE X a (tR C f)) (hb : PE X b (tR C g)) (hm : behindInMarks .In b = false := by rfl) : PE X (.Compare a [.In] [b] pos) (tO C (bop f g (dIn false))) := d_cmp (hC ▸ op_inAll (eu65 hr)) (in_ok false) hm ha hb
theorem dt_eq (hC : X.K = C.K.fr) (hr : Room kk X.A) (ha : PE X a (tR C f)) (hb : PE X b (tR C g)) : PT X (.Compare a [.Eq] [b] pos) (tT C (tst (bop f g (dEq false)))) := dt_cmp (OpR.or op_eq (hC ▸ op_eqD (eu hr))) rEq_ok (nomark _) ha hb
theorem dt_ne (hC : X.K = C.K.fr) (hr : Room kk X.A) (ha : PE X a (tR C f)) (hb : PE X b (tR C g)) : PT X (.Compare a [.NotEq] [b] pos) (tT C (tst (bop f g (dEq true)))) := dt_cmp (OpR.or op_ne (hC ▸ op_neD (eu hr))) rNe_ok (nomark _) ha hb
theorem dt_lt (ha : PE X a (tR C f)) (hb : PE X b (tR C g)) : PT X (.Compare a [.Lt] [b] pos) (tT C (tst (bop f g dLt))) := dt_cmp (OpR.or op_lt op_lt_str) rLt_ok (nomark _) ha hb
theorem dt_le (ha : PE X a (tR C f)) (hb : PE X b (tR C g)) : PT X (.Compare a [.LtE] [b] pos) (tT C (tst (bop f g dLe))) := dt_cmp (OpR.or op_le op_le_str) rLe_ok (nomark _) ha hb
theorem dt_gt (ha : PE X a (tR C f)) (hb : PE X b (tR C g)) : PT X (.Compare a [.Gt] [b] pos) (tT C (tst (bop f g dGt))) := dt_cmp (OpR.or op_gt op_gt_str) rGt_ok (nomark _) ha hb
theorem dt_ge (ha : PE X a (tR C f)) (hb : PE X b (tR C g)) : PT X (.Compare a [.GtE] [b] pos) (tT C (tst (bop f g dGe))) := dt_cmp (OpR.or op_ge op_ge_str) rGe_ok (nomark _) ha hb
theorem dt_in (hC : X.K = C.K.fr) (hr : Room kk X.A) (ha : PE X a (tR C f)) (hb : PE X b (tR C g)) (hm : behindInMarks .In b = false := by rfl) : PT X (.Compare a [.In] [b] pos) (tT C (tst (bop f g (dIn false)))) := dt_cmp (hC ▸ op_inAll (eu65 hr)) (in_ok false) hm ha hb
theorem dt_notin (hC : X.K = C.K.fr) (hr : Room kk X.A) (ha : PE X a (tR C f)) (hb : PE X b (tR C g)) (hm : behindInMarks .NotIn b = false := by rfl) : PT X (.Compare a [.NotIn] [b] pos) (tT C (tst (bop f g (dIn true)))) := dt_cmp (hC ▸ op_notInAll (eu65 hr)) (in_ok true) hm ha hb
theorem dt_val (ha : PE X a (tO C f)) (he : ∀ whole, isTrue a X.env whole = (do let v ← whole; standAt a.pos; holding [v] (truthy v)) := by intro _; rfl) : PT X a (tT C (tst f)) := dt_truth ha he
theorem _root_.L2.PG.or {X : Cx} {e : Expr} {t t' : TG} (h : PG X e t) (h' : PG X e t') : PG X e (fun v σ H Q => t v σ H Q ∨ t' v σ H Q) := ⟨fun pins s σ H v u Q I r q => by
  rcases q with q | q
  · exact h.run pins s σ H v u Q I r q
  · exact h'.run pins s σ H v u Q I r q⟩
def gSeqD (n : Nat) (gs : List D → En → Option En) : D → En → Option En := fun d ρ => match d with
  | .tup ds => if ds.length = n then gs ds ρ else none
  | .lst ds => if ds.length = n then gs ds ρ else none
  | _ => none
theorem g_seq {own : List Nat} {es : List Expr} {k n : Nat} {gs : List D → En → Option En} (hc : X.calm = true) (h : PGs X es (tGs C own gs)) (hn : (assignEach es X.env).length = n := by rfl) (hst : (assignEach es X.env).findIdx? (·.1) = none := by rfl) :
    PG X (.Tuple es k pos) (tG C own (gSeqD n gs)) := (PG.or (g_tup hc h hn hst) (g_lst hc h hn hst)).mono fun v σ H Q ⟨ρ, F, d, r, w, q⟩ => by
  cases d with
  | tup ds => exact .inl ⟨ρ, F, _, r, w, q⟩
  | lst ds => exact .inr ⟨ρ, F, _, r, w, q⟩
  | _ => exact q.elim
theorem d_len {es : List Expr} {fs : En → R (List D)} (hC : X.K = C.K.fr) (hm : X.mg "len" = none) (ha : PA X (e :: es) (tV C fs)) (hg : Gl X "len" := by rfl)
    (he : starEach (e :: es) X.env = (false, eval e X.env) :: starEach es X.env := by rfl) (hpl : (backTo pos (starEach es X.env)).any (·.1) = false := by rfl) : PE X (.Call (.Name "len" p) (e :: es) [] pos) (tO C (nop fs dLen)) :=
  d_callB (CallR.or (hC ▸ call_len) (by
    intro pins s σ H xs us Q I r h
    obtain ⟨a, kvs, rfl, h, q⟩ := h
    obtain ⟨u, rfl, ru⟩ := vals1 r
    cases ru
    exact L2.d_len I h fun t s' I' => ⟨.int kvs.length, H, I', ⟨t, rfl⟩, q⟩)) len_ok hm PySem.boot_len ha hg (by decide) (by decide) he hpl
theorem d_list {es : List Expr} {fs : En → R (List D)} (hC : X.K = C.K.fr) (hm : X.mg "list" = none) (ha : PA X (e :: es) (tV C fs)) (hg : Gl X "list" := by rfl)
    (he : starEach (e :: es) X.env = (false, eval e X.env) :: starEach es X.env := by rfl) (hpl : (backTo pos (starEach es X.env)).any (·.1) = false := by rfl) (hc : X.calm = true := by rfl) : PE X (.Call (.Name "list" p) (e :: es) [] pos) (tO C (nop fs dList)) :=
  d_callTy (CallR.or (hC ▸ call_list_of) (call_listD hc)) list_ok hm (by decide +kernel) ha hg (by decide) (by decide) he hpl
theorem d_tuple {es : List Expr} {fs : En → R (List D)} (hC : X.K = C.K.fr) (hm : X.mg "tuple" = none) (ha : PA X (e :: es) (tV C fs)) (hg : Gl X "tuple" := by rfl)
    (he : starEach (e :: es) X.env = (false, eval e X.env) :: starEach es X.env := by rfl) (hpl : (backTo pos (starEach es X.env)).any (·.1) = false := by rfl) : PE X (.Call (.Name "tuple" p) (e :: es) [] pos) (tO C (nop fs dTuple)) :=
  d_callTy (hC ▸ call_tuple_of) tuple_ok hm (by decide +kernel) ha hg (by decide) (by decide) he hpl
theorem d_sorted {es : List Expr} {fs : En → R (List D)} (hC : X.K = C.K.fr) (hm : X.mg "sorted" = none) (ha : PA X (e :: es) (tV C fs)) (hg : Gl X "sorted" := by rfl)
    (he : starEach (e :: es) X.env = (false, eval e X.env) :: starEach es X.env := by rfl) (hpl : (backTo pos (starEach es X.env)).any (·.1) = false := by rfl) (hc : X.calm = true := by rfl) : PE X (.Call (.Name "sorted" p) (e :: es) [] pos) (tO C (nop fs dSorted)) :=
  d_callB (CallR.or (CallR.or (hC ▸ cr_sortedI) (hC ▸ cr_sortedS)) (call_sortedDI hc)) sorted_ok hm (by decide +kernel) ha hg (by decide) (by decide) he hpl
theorem ty_of {x : Str} {n : String} (hm : X.mg x = none) (hv : bootBuiltins x = some (.type n)) (hg : Gl X x := by rfl) (hn : x ≠ "__name__" := by decide) (hdb : (x == ("__debug__" : Str)) = false := by decide) : PE X (.Name x pos) (tC (.ty n)) := pe_bltn hg hm hv rfl hn hdb
theorem s_toC {i : Nat} (h : PS X st (tS C (sSetO i f))) : PS X st (tS C (sSet i f)) := h.mono fun T σ H ⟨ρ, F, r, q⟩ => by
  refine ⟨ρ, F, r, ?_⟩
  unfold sSetO
  unfold sSet at q
  cases hf : f ρ with
  | bad => rw [hf] at q; exact q
  | err c => rw [hf] at q; exact q
  | ok d =>
    rw [hf] at q
    intro σ' F' H' s r'
    cases hd : isC d with
    | false => rw [hd] at r'; exact q σ' F' H' s r'
    | true =>
      rw [hd] at r'
      by_cases hi : i < ρ.length
      · have e : (ρ.set i (some (true, d)))[i]? = some (some (true, d)) := by rw [List.getElem?_set_self hi]
        obtain ⟨F2, s2, r2⟩ := r'.settle1 e
        rw [List.set_set] at r2
        exact q σ' F2 H' (s.trans s2) r2
      · have e1 : ρ.set i (some (true, d)) = ρ := List.set_eq_of_length_le (by omega)
        have e2 : ρ.set i (some (false, d)) = ρ := List.set_eq_of_length_le (by omega)
        rw [e1] at r'
        exact q σ' F' H' s (by rw [e2]; exact r')
def get2 (f g k : En → R D) : En → R D := fun ρ => bd (f ρ) fun d => grd (isDD d) (bd (g ρ) fun q => bd (k ρ) fun x => dGet2 d q x)
end
end DL
namespace DL
open PySem PySem.Spec PyProof.Rows L2
abbrev set0 (w : World) : Obj := { cls := .type "set", dict := none, data := .set #[] 0 (.fresh 0 0 (!w.params.followText "set-order")) }
section
variable {P : Program} {w : World} {A : Around} {E : Value → Shared → Prop} {s : Shared}
set_option maxHeartbeats 3200000 in
theorem set_of_list {l : Addr} {its : Array Value} (ns : List Int) {Q : Value → Shared → Prop} (calm : A.handled = none) (isl : s.heap.IsList l its) (ari : IntsAre its.toList ns) (few : ns.length + 1 < scanBound)
    (wish : ∀ (h' : Heap) (tk c : Nat), SetR w h' s.heap.objs.size (fun j => decide (j ∈ ns)) c → c ≤ ns.length → (∀ b o, s.heap.get? b = some o → h'.get? b = some o) → Q (.ref s.heap.objs.size) { s with heap := h', toks := tk }) :
    wpAny (model P w) A (call (.type "set") [.ref l]) Q E s := by
  have sz : its.size = ns.length := by have q := IntsAre.length ari; rwa [Array.length_toList] at q
  obtain ⟨_, _, q1⟩ := F.called_set.mro
  have q2 := F.called_set.made
  have q3 := F.called_set.sub
  refine wpAny_call (codeAny_of_tree ?_)
  show wpAny _ _ (callAny (.type "set") _) _ _ _
  refine wpAny_pure ⟨Code.quiet_builtin _ (by decide +kernel), codeAny_builtin F.entry_type_call ?_⟩
  rw [Around.under_plain (weight_type_call_type "set" [.ref l] []) rfl]
  have q4 := F.called_set.notType
  have q5 := F.called_set.canCreate
  have q6 := F.typeCall_set_1 (.ref l)
  repeat (any_goals (first | assumption | wp_step))
  refine codeAny_mono (code_set_led1 (.ref l) (E := E) (Q₁ := fun x t => x = .ref s.heap.objs.size ∧ t = { s with heap := s.heap.push (set0 w) }) ⟨rfl, rfl⟩) fun r t hr => ?_
  cases r with
  | error e => exact hr
  | ok fl =>
    cases fl with
    | ret x =>
      obtain ⟨rfl, rfl⟩ := hr
      have g0 : (s.heap.push (set0 w)).get? s.heap.objs.size = some (set0 w) := Heap.get?_push_size _ rfl
      have ty : Shared.TypeIs { s with heap := s.heap.push (set0 w) } (.ref s.heap.objs.size) "set" := ⟨_, g0, rfl⟩
      have q7 := F.called_set.init.lookup
      have q8 := F.called_set.init.bind (.ref s.heap.objs.size)
      repeat (any_goals (first | assumption | wp_step))
      refine codeAny_mono (codeAny_call_builtin (R := wants (fun r t => r = .none ∧ ∃ h' tk c, t = { s with heap := h', toks := tk } ∧ SetR w h' s.heap.objs.size (fun j => decide (j ∈ ns)) c ∧ c ≤ ns.length ∧ (∀ b o, s.heap.get? b = some o → h'.get? b = some o)) E)
        F.called_set.init.plain F.entry_set_init (check_set_init_1 ty ?_)) fun r₂ t₂ hr₂ => ?_
      · obtain ⟨ol, e0, e1, nl, e2⟩ := isl
        obtain ⟨oc, od, oa, os⟩ := ol
        simp only at e1 e2
        subst e1; subst e2
        have e0' : (s.heap.push (set0 w)).get? l = some { cls := .type "list", dict := od, data := .seq its nl, slots := os } := Heap.get?_push_of_some _ e0
        have z1 := F.sub_list_set
        have z2 := F.sub_list_frozenset
        have z3 : (Value.type "list" == Value.type "dict") = false := by decide
        have lst : (s.heap.push (set0 w)).IsList l its := ⟨_, e0', rfl, nl, rfl⟩
        unfold Builtin.«set.__init__» noKeywords Builtin.Frozenset.updateFrom
        generalize hPI : pyIter = PI
        wp_walk
        subst hPI
        refine wpAny_pyIter_list lst ?_
        refine wpAny_bind (wpAny_runValue ?_)
        have lt : l < s.heap.objs.size := Heap.lt_size e0
        have cal3 : A.in1.in1.in1.handled = none := by simp [calm]
        have ne1 : l ≠ (s.heap.push (set0 w)).objs.size := by rw [Heap.size_push]; exact Nat.ne_of_lt (Nat.lt_succ_of_lt lt)
        have out : s.heap.objs.size ∉ [(s.heap.push (set0 w)).objs.size, l] := by
          rw [Heap.size_push]
          simp only [List.mem_cons, List.mem_singleton, List.not_mem_nil, or_false, not_or]
          exact ⟨Nat.ne_of_lt (Nat.lt_succ_self _), Nat.ne_of_gt lt⟩
        have val : ∀ (i : Nat) (v : Value), its[i]? = some v → ∃ k t, ns[i]? = some k ∧ v = .int k t := fun i v hv => by
          have hi : i < ns.length := by rw [← sz]; exact (Array.getElem?_eq_some_iff.mp hv).1
          obtain ⟨t, e⟩ := PyProof.Rows.IntsAre.int_at ari i v (by rw [Array.getElem?_toList]; exact hv)
          exact ⟨ns[i], t, List.getElem?_eq_getElem hi, by rw [e, List.getD_eq_getElem?_getD, List.getElem?_eq_getElem hi]; rfl⟩
        refine set_update_ints ((Walks.list cal3 _ l ne1 its).toS) s.heap.objs.size out ns sz few val (its.size - 0) 0 _ (by omega) (Nat.zero_le _) ⟨⟨_, Heap.get?_push_size _ rfl, rfl, rfl⟩, (lst.push _)⟩
          ⟨0, Nat.le_refl 0, setR_new_at (Heap.get?_push_of_some _ g0)⟩ ?_
        intro t' c' mv hc hS
        obtain ⟨h', g2, d', tk', os'⟩ := t'
        have u1 : g2 = s.gens := mv.gens
        have u2 : d' = s.drawn := mv.drawn
        have u3 : os' = s.os := mv.os
        subst u1; subst u2; subst u3
        show wpAny _ _ _ _ _ _
        refine wpAny_pure ?_
        show wpAny _ _ (ret Value.none) _ _ _
        rw [sz] at hc
        refine wpAny_pure ⟨rfl, h', tk', c', rfl, hS, hc, fun b o e => ?_⟩
        have b0 : b < s.heap.objs.size := Heap.lt_size e
        refine mv.heap b o ?_ (Heap.get?_push_of_some _ (Heap.get?_push_of_some _ e))
        simp only [List.mem_cons, List.mem_singleton, List.not_mem_nil, or_false, not_or]
        exact ⟨Nat.ne_of_lt b0, by rw [Heap.size_push]; exact Nat.ne_of_lt (Nat.lt_succ_of_lt b0)⟩
      · cases r₂ with
        | error e => exact hr₂
        | ok fl₂ =>
          cases fl₂ with
          | ret r =>
            obtain ⟨rfl, h', tk, c', rfl, hS, hc, hk⟩ := hr₂
            repeat (any_goals (first | assumption | wp_step))
            exact wish _ _ _ hS hc hk
          | _ => exact hr₂.elim
    | _ => exact hr.elim
end
section
variable {X : Cx} {C : Cd} {e a b c tg : Expr} {f g k : En → R D} {pos p p2 q apos cpos : Pos} {K : Kx} {F H : Hp} {kk : Nat}
def uniq (ns : List Int) : List Int := ns.foldl (fun l n => if n ∈ l then l else l ++ [n]) []
theorem uniq_go : ∀ (ns acc : List Int), acc.Nodup → (ns.foldl (fun l n => if n ∈ l then l else l ++ [n]) acc).Nodup ∧ ∀ k, k ∈ ns.foldl (fun l n => if n ∈ l then l else l ++ [n]) acc ↔ k ∈ acc ∨ k ∈ ns
  | [], acc, h => ⟨h, fun k => by simp⟩
  | n :: ns, acc, h => by
    rw [List.foldl_cons]
    by_cases hn : n ∈ acc
    · rw [if_pos hn]
      obtain ⟨h1, h2⟩ := uniq_go ns acc h
      refine ⟨h1, fun k => (h2 k).trans ?_⟩
      rw [List.mem_cons]
      constructor
      · rintro (z | z)
        · exact .inl z
        · exact .inr (.inr z)
      · rintro (z | z | z)
        · exact .inl z
        · exact .inl (z ▸ hn)
        · exact .inr z
    · rw [if_neg hn]
      obtain ⟨h1, h2⟩ := uniq_go ns (acc ++ [n]) (by
        rw [List.nodup_append]
        exact ⟨h, List.pairwise_singleton _ _, fun a ha b hb e => hn (by rw [List.mem_singleton] at hb; rw [← hb, ← e]; exact ha)⟩)
      refine ⟨h1, fun k => (h2 k).trans ?_⟩
      rw [List.mem_append, List.mem_singleton, List.mem_cons, or_assoc]
theorem uniq_nodup (ns : List Int) : (uniq ns).Nodup := (uniq_go ns [] .nil).1
theorem mem_uniq {ns : List Int} {k : Int} : k ∈ uniq ns ↔ k ∈ ns := by
  have := (uniq_go ns [] .nil).2 k
  unfold uniq
  simpa using this
theorem same_len {a b : List Int} (ha : a.Nodup) (hb : b.Nodup) (h : ∀ k, k ∈ a ↔ k ∈ b) : a.length = b.length :=
  ((List.perm_ext_iff_of_nodup ha hb).mpr h).length_eq
theorem setR_card {w : World} {h : Heap} {a : Addr} {ns : List Int} {n : Nat} (R : SetR w h a (fun j => decide (j ∈ ns)) n) : n = (uniq ns).length := by
  obtain ⟨o, es, ep, t, _, _, _, _, nd, hm, _, _, hn, _⟩ := R
  rw [← hn, ← Array.length_toList, ← List.length_map (f := keyOf)]
  refine same_len nd (uniq_nodup ns) fun k => ?_
  rw [mem_uniq, ← hm k, decide_eq_true_eq]
def rSetI (K : PySem.W.Frag) (w : World) : List V → Hp → VK → Prop := fun xs H Q => ∃ (l : Addr) (ns : List Int), xs = [V.ref l] ∧ (SqL K H l (ns.map V.int)) ∧ ns.length ≤ 4000 ∧
  ∀ (p : Addr), H p = none → Q (.ref p) (upd H p (SetO w p (fun j => decide (j ∈ ns)) (uniq ns).length))
theorem cr_setI (hc : X.calm = true) : CallR X (.type "set") (rSetI X.K X.w) := by
  intro pins s σ H xs us Q I r h
  obtain ⟨l, ns, rfl, hq, hl, h⟩ := h
  obtain ⟨its, rv, pl, hz⟩ := I.list hq
  rw [Vals.ref1 r]
  refine set_of_list ns (I.ok.hd hc) pl.isList (by simpa using RZ.intsAre_vals rv) (by unfold scanBound; omega) fun h' tk n hS hn hk => ?_
  have nf : H s.heap.objs.size = none := I.hok.fresh (Nat.le_refl _)
  have e := setR_card hS
  subst e
  exact ⟨.ref _, _, I.laid (a := s.heap.objs.size) (o := SetO X.w s.heap.objs.size (fun j => decide (j ∈ ns)) (uniq ns).length) (t' := tk) hk (Nat.le_refl _) (setO_new hS), rfl, h _ nf⟩
def setOf : List D → R (List Int)
  | [.lst ds] => match asInts ds with | some ns => grd (decide (ns.length ≤ 4000)) (.ok ns) | none => .bad
  | _ => .bad
theorem setOf_ok {ds : List D} {ns : List Int} (h : setOf ds = .ok ns) : ∃ es, ds = [.lst es] ∧ asInts es = some ns ∧ ns.length ≤ 4000 := by
  match ds, h with
  | [.lst es], h =>
    have h' : (match asInts es with | some ns => grd (decide (ns.length ≤ 4000)) (.ok ns) | none => .bad) = R.ok ns := h
    cases ha : asInts es with
    | none => rw [ha] at h'; cases h'
    | some ms =>
      rw [ha] at h'
      cases hl : decide (ms.length ≤ 4000) with
      | false => simp only [hl, grd_f] at h'; cases h'
      | true =>
        simp only [hl, grd_t] at h'
        cases h'
        exact ⟨es, rfl, ha, of_decide_eq_true hl⟩
theorem setOf_err {ds : List D} {c : Str} (h : setOf ds = .err c) : False := by
  match ds, h with
  | [.lst es], h =>
    have h' : (match asInts es with | some ns => grd (decide (ns.length ≤ 4000)) (.ok ns) | none => .bad) = R.err c := h
    cases ha : asInts es with
    | none => rw [ha] at h'; cases h'
    | some ms =>
      rw [ha] at h'
      cases hl : decide (ms.length ≤ 4000) with
      | false => simp only [hl, grd_f] at h'; cases h'
      | true => simp only [hl, grd_t] at h'; cases h'
def tSt (C : Cd) (w : World) (fs : En → R (List D)) : TE := fun σ H Q => ∃ ρ F, Rel C ρ σ F H ∧ match bd (fs ρ) setOf with
  | .ok ns => ∀ p F' H', Ext F H F' H' → Same F' H' → H' p = some (SetO w p (fun j => decide (j ∈ ns)) (uniq ns).length) → Q (.ref p) H'
  | .err c => ∀ F' H', Ext F H F' H' → Same F' H' → C.XW c σ H'
  | .bad => False
theorem d_set {es : List Expr} {fs : En → R (List D)} (hc : X.calm = true) (hC : X.K = C.K.fr) (hm : X.mg "set" = none) (ha : PA X (e :: es) (tV C fs)) (hg : Gl X "set" := by rfl)
    (he : starEach (e :: es) X.env = (false, eval e X.env) :: starEach es X.env := by rfl) (hpl : (backTo pos (starEach es X.env)).any (·.1) = false := by rfl) : PE X (.Call (.Name "set" p) (e :: es) [] pos) (tSt C X.w fs) :=
  (pe_callTy (cr_setI hc) hg hm boot_set ha (by decide) (by decide) he hpl).mono (by
    rintro σ H Q ⟨ρ, F, rl, q⟩
    refine ⟨ρ, F, rl, ?_⟩
    cases hf : fs ρ with
    | bad => simp only [hf, bd_bad] at q
    | err c => simp only [hf, bd_err] at q; exact q
    | ok ds =>
      simp only [hf, bd_ok] at q
      intro v F1 H1 x1 s1 w1
      rw [hC]
      cases hs : setOf ds with
      | bad => rw [hs] at q; exact q.elim
      | err c => exact (setOf_err hs).elim
      | ok ns =>
        rw [hs] at q
        obtain ⟨es, rfl, hns, hl⟩ := setOf_ok hs
        obtain ⟨v, rfl, l, vs, rfl, h1, r1⟩ := Views.one w1
        refine ⟨l, ns, rfl, by rw [← Reps.asInts r1 hns]; exact SqL.of h1, hl, fun p hp => ?_⟩
        exact q p F1 _ (x1.trans (Ext.newH hp _)) (same_upd2 s1 (s1.free hp)) upd_same)
def srtS (ns : List Int) : List Int := srt (uniq ns)
theorem srtS_of {ns ms : List Int} (h : ms.Pairwise (· < ·)) (hm : ∀ k, k ∈ ms ↔ k ∈ ns) : ms = srtS ns := by
  refine srt_of ?_ (h.imp fun h => Int.le_of_lt h)
  exact (List.perm_ext_iff_of_nodup (h.imp fun h => Int.ne_of_lt h) (uniq_nodup ns)).mpr fun k => (hm k).trans mem_uniq.symm
def sortS (ds : List D) : R D := bd (setOf ds) fun ns => grd (decide ((uniq ns).length < 64)) (.ok (.lst ((srtS ns).map .int)))
def lenS (ds : List D) : R D := bd (setOf ds) fun ns => .ok (.int (uniq ns).length)
theorem d_sortedSet {fs : En → R (List D)} {es : List Expr} (hc : X.calm = true) (hC : X.K = C.K.fr) (hm : X.mg "sorted" = none) (hm2 : X.mg "set" = none) (ha : PA X (e :: es) (tV C fs)) (hg : Gl X "sorted" := by rfl) (hg2 : Gl X "set" := by rfl)
    (he2 : starEach (e :: es) X.env = (false, eval e X.env) :: starEach es X.env := by rfl) (hpl2 : (backTo q (starEach es X.env)).any (·.1) = false := by rfl)
    (he : starEach [.Call (.Name "set" p2) (e :: es) [] q] X.env = (false, eval (.Call (.Name "set" p2) (e :: es) [] q) X.env) :: starEach [] X.env := by rfl) (hpl : (backTo pos (starEach [] X.env)).any (·.1) = false := by rfl) :
    PE X (.Call (.Name "sorted" p) [.Call (.Name "set" p2) (e :: es) [] q] [] pos) (tO C (nop fs sortS)) :=
  (pe_callB (cr_sortedSet hc) hg hm (by decide +kernel) (pa_cons (d_set hc hC hm2 ha hg2 he2 hpl2) pa_nil he) (by decide) (by decide) he hpl).mono (by
    rintro σ H Q ⟨ρ, F, rl, o⟩
    refine ⟨ρ, F, rl, ?_⟩
    unfold nop at o
    cases hf : fs ρ with
    | bad => simp only [hf, bd_bad] at o; exact o.elim
    | err c => simp only [hf, bd_err] at o; exact o
    | ok ds =>
      simp only [hf, bd_ok] at o ⊢
      unfold sortS at o
      cases hs : setOf ds with
      | bad => rw [hs] at o; exact o
      | err c => exact (setOf_err hs).elim
      | ok ns =>
        rw [hs, bd_ok] at o
        intro pp F1 H1 x1 s1 hp
        obtain ⟨z, o⟩ := grd_out o
        refine ⟨pp, _, _, rfl, hp, of_decide_eq_true z, fun ms l h1 h2 h3 hl => ?_⟩
        have e : ms = srtS ns := srtS_of h1 fun k => by rw [h2 k, decide_eq_true_eq]
        subst e
        exact fin_lst (Out.later o x1) s1 x1.h (Reps.of_ints _) hl)
def rLenSet (w : World) : List V → Hp → VK → Prop := fun vs H Q => ∃ (a : Addr) (S : Int → Bool) (n : Nat), vs = [V.ref a] ∧ H a = some (SetO w a S n) ∧ Q (.int n) H
theorem cr_lenSet : CallR X (.builtin "len") (rLenSet X.w) := by
  intro pins s σ H vs us Q I r h
  obtain ⟨a, S, n, rfl, ha, q⟩ := h
  have R := setO_get I ha
  rw [Vals.ref1 r]
  have hS : s.heap.SetOf (intKind X.prog X.w) a S n := R.setOf
  obtain ⟨o, es, ep, t, ho, hex, hd, _, _, hb, hf, hn⟩ := hS
  exact call_len_set ho hex hd hf (by rw [hn]; unfold scanBound at hb; omega) ⟨.int n, H, I.tok _, ⟨_, by rw [hn]⟩, q⟩
theorem d_lenSet {fs : En → R (List D)} {es : List Expr} (hc : X.calm = true) (hC : X.K = C.K.fr) (hm : X.mg "len" = none) (hm2 : X.mg "set" = none) (ha : PA X (e :: es) (tV C fs)) (hg : Gl X "len" := by rfl) (hg2 : Gl X "set" := by rfl)
    (he2 : starEach (e :: es) X.env = (false, eval e X.env) :: starEach es X.env := by rfl) (hpl2 : (backTo q (starEach es X.env)).any (·.1) = false := by rfl)
    (he : starEach [.Call (.Name "set" p2) (e :: es) [] q] X.env = (false, eval (.Call (.Name "set" p2) (e :: es) [] q) X.env) :: starEach [] X.env := by rfl) (hpl : (backTo pos (starEach [] X.env)).any (·.1) = false := by rfl) :
    PE X (.Call (.Name "len" p) [.Call (.Name "set" p2) (e :: es) [] q] [] pos) (tO C (nop fs lenS)) :=
  (pe_callB cr_lenSet hg hm boot_len (pa_cons (d_set hc hC hm2 ha hg2 he2 hpl2) pa_nil he) (by decide) (by decide) he hpl).mono (by
    rintro σ H Q ⟨ρ, F, rl, o⟩
    refine ⟨ρ, F, rl, ?_⟩
    unfold nop at o
    cases hf : fs ρ with
    | bad => simp only [hf, bd_bad] at o; exact o.elim
    | err c => simp only [hf, bd_err] at o; exact o
    | ok ds =>
      simp only [hf, bd_ok] at o ⊢
      unfold lenS at o
      cases hs : setOf ds with
      | bad => rw [hs] at o; exact o
      | err c => exact (setOf_err hs).elim
      | ok ns =>
        rw [hs, bd_ok] at o
        intro pp F1 H1 x1 s1 hp
        exact ⟨pp, _, _, rfl, hp, fin_flat (Out.later o x1) s1 rfl⟩)
end
end DL
namespace DL
open PySem PySem.Spec PyProof.Rows L2
section
variable {X : Cx} {C : Cd} {e a b c tg : Expr} {f g k : En → R D} {pos p p2 q apos cpos tpos : Pos} {K : Kx} {F H B : Hp} {kk : Nat} {es : List Expr} {fs : En → R (List D)}
theorem ext_tup {H : Hp} {T : Addr} {vs : List V} {F : Hp} (s : Same F H) (n : H T = none) : Ext F H (upd F T (.tup vs)) (upd H T (.tup vs)) ∧ Same (upd F T (.tup vs)) (upd H T (.tup vs)) :=
  ⟨Ext.new s n _, same_settle (same_upd2 s (s.free n)) upd_same⟩
def enumD (ds : List D) : List D := ds.mapIdx fun i d => D.tup [.int (i : Nat), d]
theorem iter_enum {l : Addr} {vs : List V} {ds : List D} (h : SqL K B l vs) (r : Reps K F ds vs) : IterOk K (Ite K l) B F (enumD ds) := fun i F2 H2 b f s => by
  have hq := b.seq h
  unfold enumD
  rw [List.length_mapIdx]
  refine ⟨fun hi => ?_, fun hi => ⟨vs, hq, by rw [r.length]; omega⟩⟩
  obtain ⟨v, hv, w⟩ := r.get (List.getElem?_eq_getElem hi)
  refine ⟨⟨vs, v, hq, hv⟩, fun x H3 y => ?_⟩
  obtain ⟨T, u, rfl, nT, rfl, y⟩ := y
  have e := (y vs hq).symm.trans hv
  cases e
  obtain ⟨x1, s1⟩ := ext_tup (vs := [V.int (i : Nat), v]) s nT
  refine ⟨_, _, by rw [List.getElem?_mapIdx, List.getElem?_eq_getElem hi]; rfl, x1, s1, ?_⟩
  exact .tup upd_same (.cons (.int _) (.cons ((w.mono f).mono (same_upd (s.free nT))) .nil))
def zipD (as bs : List D) : List D := List.zipWith (fun a b => D.tup [a, b]) as bs
theorem iter_zip {l m : Addr} {vs us : List V} {ds es : List D} (h : SqL K B l vs) (h' : SqL K B m us) (r : Reps K F ds vs) (r' : Reps K F es us) : IterOk K (Itz K l m) B F (zipD ds es) := fun i F2 H2 b f s => by
  have hq := b.seq h
  have hq' := b.seq h'
  unfold zipD
  rw [List.length_zipWith]
  refine ⟨fun hi => ?_, fun hi => ⟨vs, us, hq, hq', by rw [r.length, r'.length]; omega⟩⟩
  have hi1 : i < ds.length := by omega
  have hi2 : i < es.length := by omega
  obtain ⟨v, hv, w⟩ := r.get (List.getElem?_eq_getElem hi1)
  obtain ⟨u, hu, w'⟩ := r'.get (List.getElem?_eq_getElem hi2)
  refine ⟨⟨vs, us, v, u, hq, hq', hv, hu⟩, fun x H3 y => ?_⟩
  obtain ⟨T, v', u', rfl, nT, rfl, y, y'⟩ := y
  have e := (y vs hq).symm.trans hv
  have e' := (y' us hq').symm.trans hu
  cases e
  cases e'
  obtain ⟨x1, s1⟩ := ext_tup (vs := [v, u]) s nT
  refine ⟨_, _, by rw [List.getElem?_zipWith, List.getElem?_eq_getElem hi1, List.getElem?_eq_getElem hi2], x1, s1, ?_⟩
  have sm := same_upd (o := HO.tup [v, u]) (s.free nT)
  exact .tup upd_same (.cons ((w.mono f).mono sm) (.cons ((w'.mono f).mono sm) .nil))
theorem outA_it {st : Bool} {σ : L2.St} {F H : Hp} {x : R (List D)} {w : List D → R (List D)} {Q : It → Hp → Prop} {Q' : List V → Hp → Prop} (o : OutI C st σ F H (bd x w) Q)
    (h : ∀ ds vs F' H', OutI C st σ F' H' (w ds) Q → Ext F H F' H' → Same F' H' → Reps C.K F' ds vs → Q' vs H') : OutA C σ F H x Q' := by
  cases x with
  | bad => exact o
  | err c => exact o
  | ok ds => exact fun vs F' H' x s w => h ds vs F' H' (OutI.later o x) x s w
def itEnum : List D → R (List D)
  | [.lst ds] => .ok (enumD ds)
  | [.scr ns] => .ok (enumD (ns.map .int))
  | _ => .bad
def itZip : List D → R (List D)
  | [.lst ds, .lst es] => .ok (zipD ds es)
  | [.scr ns, .lst es] => .ok (zipD (ns.map .int) es)
  | [.lst ds, .scr ns] => .ok (zipD ds (ns.map .int))
  | _ => .bad
def itRev : List D → R (List D)
  | [.lst ds] => .ok ds.reverse
  | [.scr ns] => .ok (ns.map D.int).reverse
  | _ => .bad
theorem rep_seq {ds : List D} {v : V} (w : Rep K F (.lst ds) v) (s : Same F H) : ∃ l vs, v = .ref l ∧ SqL K H l vs ∧ SqL K F l vs ∧ Reps K F ds vs := by
  cases w with
  | lst ha r => exact ⟨_, _, rfl, SqL.of (s _ _ ha), SqL.of ha, r⟩
theorem rep_scr {ns : List Int} {v : V} (w : Rep K F (.scr ns) v) (s : Same F H) : ∃ l, v = .ref l ∧ SqL K H l (ns.map V.int) ∧ SqL K F l (ns.map V.int) := by
  cases w with
  | scr ha => exact ⟨_, rfl, s.seq ha, ha⟩
theorem Reps.one {d : D} {vs : List V} (w : Reps K F [d] vs) : ∃ v, vs = [v] ∧ Rep K F d v := by
  cases w with
  | cons r t => cases t; exact ⟨_, rfl, r⟩
theorem Reps.two {d e : D} {vs : List V} (w : Reps K F [d, e] vs) : ∃ v u, vs = [v, u] ∧ Rep K F d v ∧ Rep K F e u := by
  cases w with
  | cons r t =>
    obtain ⟨u, rfl, q⟩ := Reps.one t
    exact ⟨_, u, rfl, r, q⟩
theorem i_enumE {elts : List Expr} {k2 : Nat} (hC : X.K = C.K.fr) (hm : X.mg "enumerate" = none) (ha : PA X [a] (tA C fs)) (hg : Gl X "enumerate" := by rfl) (hs : starEach [a] X.env = [(false, eval a X.env)] := by rfl) :
    PI X (.Tuple elts k2 tpos) (.Call (.Name "enumerate" p) [a] [] pos) (tI C true (irg fs itEnum)) := (pi_enum hg hm ha hs).mono fun σ H Q ⟨ρ, F, r, o⟩ => ⟨ρ, F, r, outA_it o fun ds vs F' H' o x s w => by
      rw [hC]
      unfold itEnum at o
      split at o
      · obtain ⟨v, rfl, w1⟩ := Reps.one w
        obtain ⟨l, ws, rfl, h1, h2, r⟩ := rep_seq w1 s
        exact ⟨l, ws, rfl, h1, o _ F' H' (Ext.refl _ _) s (iter_enum (by rw [if_pos rfl]; exact jn_l.seq h2) r)⟩
      · obtain ⟨v, rfl, w1⟩ := Reps.one w
        obtain ⟨l, rfl, h1, h2⟩ := rep_scr w1 s
        exact ⟨l, _, rfl, h1, o _ F' H' (Ext.refl _ _) s (iter_enum (by rw [if_pos rfl]; exact jn_l.seq h2) (Reps.of_ints _))⟩
      · exact o.elim⟩
theorem i_zipE {elts : List Expr} {k2 : Nat} (hC : X.K = C.K.fr) (hm : X.mg "zip" = none) (ha : PA X [a, b] (tA C fs)) (hg : Gl X "zip" := by rfl)
    (hs : starEach [a, b] X.env = (false, eval a X.env) :: starEach [b] X.env := by rfl) (hpl : (backTo pos (starEach [b] X.env)).any (·.1) = false := by rfl) :
    PI X (.Tuple elts k2 tpos) (.Call (.Name "zip" p) [a, b] [] pos) (tI C true (irg fs itZip)) := (pi_zip hg hm ha hs hpl).mono fun σ H Q ⟨ρ, F, r, o⟩ => ⟨ρ, F, r, outA_it o fun ds vs F' H' o x s w => by
      rw [hC]
      unfold itZip at o
      split at o
      · obtain ⟨v, u, rfl, w1, w2⟩ := Reps.two w
        obtain ⟨l, ws, rfl, h1, h2, r⟩ := rep_seq w1 s
        obtain ⟨l', ws', rfl, h1', h2', r'⟩ := rep_seq w2 s
        exact ⟨l, l', ws, ws', rfl, h1, h1', o _ F' H' (Ext.refl _ _) s (iter_zip (by rw [if_pos rfl]; exact jn_l.seq h2) (by rw [if_pos rfl]; exact jn_l.seq h2') r r')⟩
      · obtain ⟨v, u, rfl, w1, w2⟩ := Reps.two w
        obtain ⟨l, rfl, h1, h2⟩ := rep_scr w1 s
        obtain ⟨l', ws', rfl, h1', h2', r'⟩ := rep_seq w2 s
        exact ⟨l, l', _, ws', rfl, h1, h1', o _ F' H' (Ext.refl _ _) s (iter_zip (by rw [if_pos rfl]; exact jn_l.seq h2) (by rw [if_pos rfl]; exact jn_l.seq h2') (Reps.of_ints _) r')⟩
      · obtain ⟨v, u, rfl, w1, w2⟩ := Reps.two w
        obtain ⟨l, ws, rfl, h1, h2, r⟩ := rep_seq w1 s
        obtain ⟨l', rfl, h1', h2'⟩ := rep_scr w2 s
        exact ⟨l, l', ws, _, rfl, h1, h1', o _ F' H' (Ext.refl _ _) s (iter_zip (by rw [if_pos rfl]; exact jn_l.seq h2) (by rw [if_pos rfl]; exact jn_l.seq h2') r (Reps.of_ints _))⟩
      · exact o.elim⟩
def dMax : List D → R D
  | [.int i, .int j] => .ok (.int (if j > i then j else i))
  | _ => .bad
def dMin : List D → R D
  | [.int i, .int j] => .ok (.int (if j < i then j else i))
  | _ => .bad
theorem max_ok : OpL C (fun xs H Q => ∃ i j, xs = [.int i, .int j] ∧ Q (.int (if j > i then j else i)) H) dMax := by
  intro σ F H Q ds vs o s w
  unfold dMax at o
  split at o
  · obtain ⟨v, u, rfl, w1, w2⟩ := w.two
    obtain rfl : v = V.int _ := w1
    obtain rfl : u = V.int _ := w2
    exact ⟨_, _, rfl, fin_flat o s rfl⟩
  · exact o.elim
theorem min_ok : OpL C (fun xs H Q => ∃ i j, xs = [.int i, .int j] ∧ Q (.int (if j < i then j else i)) H) dMin := by
  intro σ F H Q ds vs o s w
  unfold dMin at o
  split at o
  · obtain ⟨v, u, rfl, w1, w2⟩ := w.two
    obtain rfl : v = V.int _ := w1
    obtain rfl : u = V.int _ := w2
    exact ⟨_, _, rfl, fin_flat o s rfl⟩
  · exact o.elim
theorem d_max (hc : X.calm = true) (hm : X.mg "max" = none) (ha : PA X (e :: es) (tV C fs)) (hg : Gl X "max" := by rfl)
    (he : starEach (e :: es) X.env = (false, eval e X.env) :: starEach es X.env := by rfl) (hpl : (backTo pos (starEach es X.env)).any (·.1) = false := by rfl) : PE X (.Call (.Name "max" p) (e :: es) [] pos) (tO C (nop fs dMax)) :=
  d_callB (call_max2 hc) max_ok hm (by decide +kernel) ha hg (by decide) (by decide) he hpl
theorem d_min (hc : X.calm = true) (hm : X.mg "min" = none) (ha : PA X (e :: es) (tV C fs)) (hg : Gl X "min" := by rfl)
    (he : starEach (e :: es) X.env = (false, eval e X.env) :: starEach es X.env := by rfl) (hpl : (backTo pos (starEach es X.env)).any (·.1) = false := by rfl) : PE X (.Call (.Name "min" p) (e :: es) [] pos) (tO C (nop fs dMin)) :=
  d_callB (call_min2 hc) min_ok hm (by decide +kernel) ha hg (by decide) (by decide) he hpl
def dSum : List D → R D
  | [.lst ds] => match asInts ds with | some ns => .ok (.int ns.sum) | none => .bad
  | _ => .bad
def idxF (x : D) : List D → Nat → Option Nat
  | [], _ => none
  | y :: ys, n => if eqF y x = true then some n else idxF x ys (n + 1)
def dIndex : D → D → R D
  | .lst ds, x => grd (isFlat x && ds.all isFlat) (match idxF x ds 0 with | some j => .ok (.int (j : Nat)) | none => .bad)
  | _, _ => .bad
def idx (f g : En → R D) : En → R D := fun ρ => bd (f ρ) fun d => match d with | .lst ds => bd (g ρ) fun e => dIndex (.lst ds) e | _ => .bad
end
end DL
namespace DL
open PySem PySem.Spec PyProof.Rows L2
section
variable {prog : Program} {w : World} {A : Around} {E : Value → Shared → Prop} {s : Shared}
theorem max_default_raw {l : Addr} {its : List Value} {ns : List Int} {d : Value} {Q : Value → Shared → Prop} (hh : A.handled = none) (hl : s.heap.IsList l its.toArray) (hi : IntsAre its ns)
    (h0 : ns = [] → ∀ h' tk, (∀ b o, s.heap.get? b = some o → h'.get? b = some o) → Q d { s with heap := h', toks := tk })
    (h : ∀ h' tk M t', (∀ b o, s.heap.get? b = some o → h'.get? b = some o) → M ∈ ns → (∀ a, a ∈ ns → a ≤ M) → Q (.int M t') { s with heap := h', toks := tk }) :
    wpAny (model prog w) A (call (.builtin "max") [.ref l] [(Str.ofString "default", d)]) Q E s := by
  obtain ⟨xs, e⟩ := hi.allInts.items
  have hn : numsOf (intItems xs).toList = ns := by rw [← e]; exact hi.numsOf
  rw [nums_intItems] at hn
  subst hn
  rw [e] at hl
  have hsz : (intItems xs).size = xs.size := by simp [intItems]
  refine call_max_walkD (PySem.W.iter_listW (A := A.in1) hh hl fun s₂ e W st hfp hw hk => ?_)
  refine ⟨_, _, _, _, _, _, _, s.heap, (fun i j => decide (numAt xs i > numAt xs j)), rfl, W, st, hfp, hw, hk, fun hz s' m => ?_, fun hp => ⟨fun i j vi vj s' Q' E' _ hi hj hq => CmpOf.ints_gt (numAt xs) (fun _ _ => intItems_at) i j vi vj s' Q' E' hi hj hq, fun v s' hP m => ?_⟩⟩
  · obtain ⟨h', tk, rfl, hk'⟩ := PySem.W.moved_old e rfl m
    refine h0 (List.eq_nil_of_length_eq_zero ?_) h' tk hk'
    rw [List.length_map, Array.length_toList]
    omega
  · obtain ⟨h', tk, rfl, hk'⟩ := PySem.W.moved_old e rfl m
    rw [hsz] at hP hp
    obtain ⟨t, rfl⟩ := intItems_at hP
    obtain ⟨h1, h2⟩ := argBest_gt (numAt xs) (xs.size - 1)
    refine h h' tk _ t hk' ?_ fun a ha => ?_
    · rw [numAt_eq]; exact PySem.getD_mem (by rw [List.length_map, Array.length_toList]; omega)
    · obtain ⟨j, hj, rfl⟩ := mem_getD ha
      rw [List.length_map, Array.length_toList] at hj
      rw [← numAt_eq]; exact h2 j (by omega)
end
def maxI : List Int → Int → Int
  | [], d => d
  | n :: ns, _ => ns.foldl max n
theorem foldl_max (ns : List Int) : ∀ n : Int, (ns.foldl max n = n ∨ ns.foldl max n ∈ ns) ∧ n ≤ ns.foldl max n ∧ ∀ a ∈ ns, a ≤ ns.foldl max n := by
  induction ns with
  | nil => intro n; exact ⟨.inl rfl, Int.le_refl _, fun _ h => nomatch h⟩
  | cons m ns ih =>
    intro n
    rw [List.foldl_cons]
    obtain ⟨h1, h2, h3⟩ := ih (max n m)
    refine ⟨?_, by omega, fun a ha => ?_⟩
    · rcases h1 with h1 | h1
      · by_cases hc : n ≤ m
        · right; rw [h1, Int.max_eq_right hc]; exact List.mem_cons_self
        · left; rw [h1, Int.max_eq_left (by omega)]
      · exact .inr (List.mem_cons_of_mem _ h1)
    · rcases List.mem_cons.mp ha with rfl | ha
      · omega
      · exact h3 a ha
theorem maxI_of {ns : List Int} {M d : Int} (hm : M ∈ ns) (h : ∀ a, a ∈ ns → a ≤ M) : M = maxI ns d := by
  cases ns with
  | nil => cases hm
  | cons n ns =>
    obtain ⟨h1, h2, h3⟩ := foldl_max ns n
    show M = ns.foldl max n
    have u1 : M ≤ ns.foldl max n := by
      rcases List.mem_cons.mp hm with rfl | hm
      · exact h2
      · exact h3 _ hm
    have u2 : ns.foldl max n ≤ M := by
      rcases h1 with h1 | h1
      · rw [h1]; exact h _ List.mem_cons_self
      · exact h _ (List.mem_cons_of_mem _ h1)
    omega
section
variable {X : Cx} {C : Cd} {e a b c tg : Expr} {f g k : En → R D} {pos p p1 p2 p3 q apos cpos kpos : Pos} {K : Kx} {F H B : Hp} {kk : Nat} {es : List Expr} {fs : En → R (List D)}
def dRevS : D → R D
  | .lst ds => .ok (.lst ds.reverse)
  | .scr ns => .ok (.lst (ns.map D.int).reverse)
  | _ => .bad
def rMaxDef (K : PySem.W.Frag) : List V → List V → Hp → VK → Prop := fun vs zs H Q => ∃ (a : Addr) (ns : List Int) (d : Int), vs = [V.ref a] ∧ zs = [.int d] ∧ SqL K H a (ns.map V.int) ∧ Q (.int (maxI ns d)) H
theorem cr_maxDef (hc : X.calm = true) : CallRK X (.builtin "max") [Str.ofString "default"] (rMaxDef X.K) := by
  intro pins s σ H vs zs us ws Q I r rz h
  obtain ⟨a, ns, d, rfl, rfl, hs, q⟩ := h
  obtain rfl := Vals.ref1 r
  obtain ⟨w1, rfl, e1⟩ := vals1 rz
  obtain ⟨t, rfl⟩ := e1
  obtain ⟨its, rv, hl, _⟩ := I.list hs
  refine max_default_raw (I.ok.hd hc) hl.isList rv.ints (fun hn h' tk hk => ?_) fun h' tk m t' hk h1 h2 => ?_
  · subst hn
    exact ⟨.int d, H, I.kept hk, ⟨_, rfl⟩, q⟩
  · rw [maxI_of (d := d) h1 h2]
    exact ⟨.int _, H, I.kept hk, ⟨_, rfl⟩, q⟩
def dMaxDef : D → D → R D
  | .lst ds, .int d => match asInts ds with | some ns => .ok (.int (maxI ns d)) | none => .bad
  | _, _ => .bad
theorem d_maxDef (hc : X.calm = true) (hC : X.K = C.K.fr) (hm : X.mg "max" = none) (ha : PE X a (tR C f)) (hb : PE X b (tR C g)) (hg : Gl X "max" := by rfl)
    (hs : starEach [a] X.env = (false, eval a X.env) :: starEach [] X.env := by rfl)
    (he : backTo pos (starEach [a] X.env) = (false, eval a X.env) :: backTo pos (starEach [] X.env) := by rfl) (hpl : (backTo pos (starEach [a] X.env)).any (·.1) = false := by rfl)
    (hall : (backToKw pos (keywordEach [⟨some "default", b, kpos⟩] X.env)).all (·.1.isSome) = true := by rfl) (hnone : (backToKw pos (keywordEach [⟨some "default", b, kpos⟩] X.env)).any (·.1.isNone) = false := by rfl) (hks : (backToKw pos (keywordEach [⟨some "default", b, kpos⟩] X.env)).filterMap (·.1) = [Str.ofString "default"] := by rfl) :
    PE X (.Call (.Name "max" p) [a] [⟨some "default", b, kpos⟩] pos) (tO C (bop f g dMaxDef)) :=
  (pe_callBK (hC ▸ cr_maxDef hc) hg hm (by decide +kernel) (pa_cons ha pa_nil hs) (pk_cons hb pk_nil) (by decide) (by decide) he hpl hall hnone hks).mono (two (r := fun x y H Q => rMaxDef C.K [x] [y] H Q) (by
    intro σ F H Q d e x y o s w1 w2
    unfold dMaxDef at o
    split at o
    · obtain ⟨p, vs, rfl, h, r⟩ := w1
      cases w2
      split at o
      · rename_i ns hn
        exact ⟨p, ns, _, rfl, rfl, by rw [← Reps.asInts r hn]; exact SqL.of h, fin_flat o s rfl⟩
      · exact o.elim
    · exact o.elim))
def dCount : D → D → R D
  | .lst ds, x => match pys ds, py x with
    | some ps, some q => grd (SeqAt.shaped (.list ps) && SeqAt.shaped q) (.ok (.int (ps.countP fun z => PyData.eqv z q : Nat)))
    | _, _ => .bad
  | _, _ => .bad
def cnt (f g : En → R D) : En → R D := fun ρ => bd (f ρ) fun d => match d with | .lst ds => bd (g ρ) fun e => dCount (.lst ds) e | _ => .bad
end
end DL
namespace DL
open PySem PySem.Spec PyProof.Rows L2
section
variable {X : Cx} {C : Cd} {e a b c tg : Expr} {f g k : En → R D} {pos p p1 apos cpos : Pos} {st : Stmt} {s1 : En → R Fl} {K : Kx} {F H H' : Hp} {kk : Nat} {es : List Expr} {fs : En → R (List D)}
def itZipL : List D → R (List D)
  | [.lst ds, .lst es] => .ok (zipD ds es)
  | _ => .bad
def dIxR : D → D → R D
  | .rows rs, .int i => match atI rs i with | some d => .ok d | none => .bad
  | .lst rs, .int i => match atI rs i with | some d => .ok d | none => .bad
  | _, _ => .bad
theorem ixR_ok {σ : L2.St} {Q : VK} {d e : D} {x y : V} (o : Out C σ F H (fun F' H' => View C.K F' H') (dIxR d e) Q) (s : Same F H) (w1 : View C.K F H d x) (w2 : View C.K F H e y) : rIx C.K x y H Q := by
  unfold dIxR at o
  split at o
  · rename_i rs i
    obtain ⟨l, vs, rfl, h, r⟩ := w1
    obtain rfl : y = V.int i := w2
    split at o
    · rename_i z hz
      rcases r with r | r
      · obtain ⟨v, h1, h2⟩ := r.atI hz
        exact .inl ⟨l, vs, i, v, rfl, rfl, SqL.of h, h1, o v F H (Ext.refl _ _) s (h2.view s)⟩
      · have hz' := hz
        unfold atI at hz'
        cases hx : ixN rs.length i with
        | none => rw [hx] at hz'; cases hz'
        | some m =>
          rw [hx] at hz'
          obtain ⟨b, us, xs, h1, rfl, h3, h4⟩ := r.get hz'
          refine .inl ⟨l, vs, i, .ref b, rfl, rfl, SqL.of h, ?_, o _ F H (Ext.refl _ _) s ⟨b, us, rfl, h3, h4⟩⟩
          unfold atI
          rw [r.length, hx]
          exact h1
    · exact o.elim
  · rename_i rs i
    obtain ⟨l, vs, rfl, h, r⟩ := w1
    obtain rfl : y = V.int i := w2
    split at o
    · rename_i z hz
      obtain ⟨v, h1, h2⟩ := r.atI hz
      exact .inl ⟨l, vs, i, v, rfl, rfl, SqL.of h, h1, o v F H (Ext.refl _ _) s (h2.view s)⟩
    · exact o.elim
  · exact o.elim
theorem d_ixR (hC : X.K = C.K.fr) (ha : PE X a (tR C f)) (hb : PE X b (tR C g)) (hs : PlainIx b := by exact fun _ _ => rfl) : PE X (.Subscript a b pos) (tR C (bop f g dIxR)) :=
  (pe_ix (hC ▸ ix_seq) ha hb hs).mono (by
    rintro σ H Q ⟨ρ, F, rl, q⟩
    refine ⟨ρ, F, rl, q.fst fun d v F1 H1 _ q x1 s1 p1 => ?_⟩
    refine ⟨ρ, F1, rl.grow x1 s1, ?_⟩
    refine (q.later x1).fst fun e y F2 H2 _ q x2 s2 p2 => ?_
    exact ixR_ok (q.later x2) s2 (p1.mono x2.f x2.h) p2)
theorem RowsAt.write {b : Addr} {us' : List V} {xs' : List D} (rr : Reps K F xs' us') : ∀ {rs : List D} {vs : List V} {m : Nat}, RowsAt K F H rs vs → vs[m]? = some (.ref b) → (vs.filterMap refOf).Nodup → RowsAt K F (upd H b (.lst us')) (rs.set m (.lst xs')) vs
  | _, _, _, .nil, h, _ => by simp at h
  | _, _, 0, .cons (b := b0) q r t, h, nd => by
    have e : b0 = b := by simpa using h
    rw [kid_head] at nd
    have nd := List.nodup_cons.mp nd
    refine .cons (by rw [e]; exact upd_same) rr (t.mono (Same.refl _) fun c hc u hu => ?_)
    rw [upd_ne (fun (z : c = b) => nd.1 (by rw [e, ← z]; exact hc))]
    exact hu
  | _, _, m + 1, .cons (b := b0) (vs := vs) q r t, h, nd => by
    rw [kid_head] at nd
    have nd := List.nodup_cons.mp nd
    have h : vs[m]? = some (.ref b) := by simpa using h
    refine .cons ?_ r (RowsAt.write rr t h nd.2)
    rw [upd_ne (fun (z : b0 = b) => nd.1 (by rw [z]; exact filterMap_mem h))]
    exact q
def rowAt (rs : List D) (j : Int) : Option (Nat × List D) := match ixN rs.length j with
  | some m => match rs[m]? with
    | some (.lst xs) => some (m, xs)
    | _ => none
  | none => none
theorem rowAt_ok {rs : List D} {j : Int} {m : Nat} {xs : List D} (h : rowAt rs j = some (m, xs)) : ixN rs.length j = some m ∧ rs[m]? = some (.lst xs) := by
  unfold rowAt at h
  split at h
  · rename_i m' hm
    split at h
    · rename_i ys hy
      cases h
      exact ⟨hm, hy⟩
    · cases h
  · cases h
theorem Rel.writeRow {ρ : En} {σ : L2.St} {i m : Nat} {rs xs' : List D} {us' : List V} {b l : Addr} {vs : List V} (r : Rel C ρ σ F H) (hd : ρ[i]? = some (some (true, .rows rs))) (q : σ[i]? = some (some (.ref l))) (hl : H l = some (.lst vs)) (hb : vs[m]? = some (.ref b)) (rr : Reps C.K F xs' us') :
    Rel C (ρ.set i (some (true, .rows (rs.set m (.lst xs'))))) σ F (upd H b (.lst us')) := by
  obtain ⟨a', q', n, nd, o⟩ := r.ownF i _ hd
  rw [q] at q'
  cases q'
  obtain ⟨vs', h1, rw1⟩ := o
  rw [hl] at h1
  cases h1
  have ef : foot H l (.rows rs) = l :: vs.filterMap refOf := by rw [foot_rows, kids_at hl]
  rw [ef] at n nd
  have nd2 := List.nodup_cons.mp nd
  have hbk : b ∈ vs.filterMap refOf := filterMap_mem hb
  have hne : l ≠ b := fun z => nd2.1 (z ▸ hbk)
  have hl' : upd H b (.lst us') l = some (.lst vs) := by rw [upd_ne hne]; exact hl
  have ef' : foot (upd H b (.lst us')) l (.rows (rs.set m (.lst xs'))) = l :: vs.filterMap refOf := by rw [foot_rows, kids_at hl']
  refine r.writeF hd q (fun c hc => ?_) ⟨vs, hl', rw1.write rr hb nd2.2⟩ (by rw [ef']; exact n) (by rw [ef']; exact nd) fun c hc => .inl (by rw [ef'] at hc; rw [ef]; exact hc)
  have : c = b := by
    by_cases z : c = b
    · exact z
    · exact absurd (upd_ne z) hc
  subst this
  exact ⟨.inl (by rw [ef]; exact List.mem_cons_of_mem _ hbk), n c (List.mem_cons_of_mem _ hbk)⟩
def sRowM (i : Nat) (g f : En → R D) (w : List D → D → R (List D)) : En → R Fl := fun ρ => match ρ[i]? with
  | some (some (true, .rows rs)) => bd (g ρ) fun q => match q with
    | .int j => match rowAt rs j with
      | some (m, xs) => bd (f ρ) fun z => bd (w xs z) fun xs' => .ok (.next (ρ.set i (some (true, .rows (rs.set m (.lst xs'))))))
      | none => .bad
    | _ => .bad
  | _ => .bad
def sRow0 (i : Nat) (g : En → R D) (w : List D → List D) : En → R Fl := fun ρ => match ρ[i]? with
  | some (some (true, .rows rs)) => bd (g ρ) fun q => match q with
    | .int j => match rowAt rs j with
      | some (m, xs) => .ok (.next (ρ.set i (some (true, .rows (rs.set m (.lst (w xs)))))))
      | none => .bad
    | _ => .bad
  | _ => .bad
def wAppend (xs : List D) (z : D) : R (List D) := grd (decide (xs.length < sizeLine)) (.ok (xs ++ [z]))
def wRemove (xs : List D) (z : D) : R (List D) := match asInts xs, z with
  | some ns, .int k => grd (decide (k ∈ ns)) (.ok ((ns.erase k).map .int))
  | _, _ => .bad
theorem row_ix {T : Ends} {σ : L2.St} {ρ : En} {i : Nat} {rs : List D} {Qv : VK} {k2 : Nat → List D → R Fl} (r : Rel C ρ σ F H) (hd : ρ[i]? = some (some (true, .rows rs)))
    (q : Post C T F (bd (g ρ) fun q => match q with
    | .int j => match rowAt rs j with
      | some (m, xs) => k2 m xs
      | none => .bad
    | _ => .bad))
    (h : ∀ (l : Addr) (vs : List V) (m : Nat) (xs : List D) (b : Addr) (us : List V) (F' H' : Hp), Ext F H F' H' → Same F' H' → Rel C ρ σ F' H' → σ[i]? = some (some (.ref l)) → H' l = some (.lst vs) → vs[m]? = some (.ref b) → H' b = some (.lst us) → Reps C.K F' xs us → rs[m]? = some (.lst xs) → Post C T F' (k2 m xs) → Qv (.ref b) H') :
    tOp (rIx C.K) (tVar i) (tR C g) σ H Qv := by
  obtain ⟨l, hl, n, nd, o⟩ := r.ownF i _ hd
  refine ⟨_, hl, ρ, F, r, out_of r q fun z v F' H' _ q x s r' w => ?_⟩
  cases z with
  | int j =>
    obtain rfl : v = V.int j := w
    obtain ⟨vs, h3, ro⟩ := o
    have q' : Post C T F' (match rowAt rs j with | some (m, xs) => k2 m xs | none => .bad) := q
    cases hr : rowAt rs j with
    | none => rw [hr] at q'; exact q'.elim
    | some mx =>
      obtain ⟨m, xs⟩ := mx
      rw [hr] at q'
      obtain ⟨h1, h2⟩ := rowAt_ok hr
      have ro' := (RowsAt.mono (H' := H') x.f ro fun b hb u hu => x.h _ _ hu)
      obtain ⟨b, us, xs', g1, g2, g3, g4⟩ := ro'.get h2
      cases g2
      refine .inl ⟨l, vs, j, .ref b, rfl, rfl, SqL.of (x.h _ _ h3), ?_, h l vs m xs b us F' H' x s r' hl (x.h _ _ h3) g1 g3 g4 h2 q'⟩
      unfold atI
      rw [ro.length, h1]
      exact g1
  | _ => exact q.elim
theorem s_rowApp {i : Nat} (hC : X.K = C.K.fr) (ho : PE X a (tVar i)) (hb : PE X b (tR C g)) (he : PE X e (tE C f)) (hix : PlainIx b := by exact fun _ _ => rfl)
    (hbase : attributeBase (.Subscript a b p1) "append" X.env (eval (.Subscript a b p1) X.env) = eval (.Subscript a b p1) X.env := by rfl)
    (hfew : ((backTo cpos (starEach [e] X.env)).all (fun x => !x.1) && (backToKw cpos (keywordEach [] X.env)).all (fun x => x.1.isSome)
      && decide (([e] : List Expr).length + ([] : List Keyword).length + (if ([] : List Keyword).isEmpty then 0 else 1) < 30)) = true := by rfl)
    (hline : (apos.endLine == cpos.line) = true := by rfl) (hs : starEach [e] X.env = (false, eval e X.env) :: starEach [] X.env := by rfl) (hplain : (backTo cpos (starEach [] X.env)).any (·.1) = false := by rfl)
    (hsw : swapsWith (.Call (.Attribute (.Subscript a b p1) "append" apos) [e] [] cpos) none pos.line X.env = pure false := by rfl) : PS X (.Expr (.Call (.Attribute (.Subscript a b p1) "append" apos) [e] [] cpos) pos) (tS C (sRowM i g f wAppend)) :=
  (ps_expr (pe_bm PySem.F.plainAttrs_list PySem.F.slot_list_append PySem.F.type_list_append mt_append (pe_ix (hC ▸ ix_seq) ho hb hix) (pa_cons he pa_nil hs) hbase hfew hline hs hplain) hsw).mono fun T σ H ⟨ρ, F, r, q⟩ => by
    unfold sRowM at q
    split at q
    · rename_i rs hd
      refine row_ix r hd q fun l vs m xs b us F1 H1 x1 s1 r1 hl h1 hb1 hb2 rx hm q => ?_
      refine ⟨.inl ⟨rfl, _, SqL.of hb2⟩, ρ, F1, r1, out_of r1 q fun z v F' H' _ q x s r' w => ?_⟩
      unfold wAppend at q
      cases hlen : decide (xs.length < sizeLine) with
      | false => rw [hlen] at q; exact q.elim
      | true =>
        rw [hlen] at q
        refine ⟨b, us, v, rfl, rfl, x.h _ _ hb2, by rw [rx.length]; exact of_decide_eq_true hlen, ?_⟩
        exact q σ F' _ (Same.refl _) (r'.writeRow hd hl (x.h _ _ h1) hb1 ((rx.mono x.f).append (.cons w .nil)))
    · exact q.elim
theorem erase_at (k : Int) : ∀ ns : List Int, k ∈ ns → ∃ j, ns[j]? = some k ∧ (∀ m, m < j → ns[m]? ≠ some k) ∧ ns.eraseIdx j = ns.erase k
  | [], h => nomatch h
  | n :: ns, h => by
    by_cases e : n = k
    · subst e
      exact ⟨0, rfl, fun m hm => absurd hm (Nat.not_lt_zero _), by rw [List.erase_cons_head]; rfl⟩
    · have h : k ∈ ns := by
        rcases List.mem_cons.mp h with h | h
        · exact absurd h.symm e
        · exact h
      obtain ⟨j, h1, h2, h3⟩ := erase_at k ns h
      refine ⟨j + 1, by simpa using h1, fun m hm => ?_, ?_⟩
      · cases m with
        | zero => simpa using e
        | succ m => simpa using h2 m (by omega)
      · rw [List.erase_cons_tail (by simpa using e), List.eraseIdx_cons_succ, h3]
theorem s_rowRem {i : Nat} (hC : X.K = C.K.fr) (ho : PE X a (tVar i)) (hb : PE X b (tR C g)) (he : PE X e (tR C f)) (hix : PlainIx b := by exact fun _ _ => rfl)
    (hbase : attributeBase (.Subscript a b p1) "remove" X.env (eval (.Subscript a b p1) X.env) = eval (.Subscript a b p1) X.env := by rfl)
    (hfew : ((backTo cpos (starEach [e] X.env)).all (fun x => !x.1) && (backToKw cpos (keywordEach [] X.env)).all (fun x => x.1.isSome)
      && decide (([e] : List Expr).length + ([] : List Keyword).length + (if ([] : List Keyword).isEmpty then 0 else 1) < 30)) = true := by rfl)
    (hline : (apos.endLine == cpos.line) = true := by rfl) (hs : starEach [e] X.env = (false, eval e X.env) :: starEach [] X.env := by rfl) (hplain : (backTo cpos (starEach [] X.env)).any (·.1) = false := by rfl)
    (hsw : swapsWith (.Call (.Attribute (.Subscript a b p1) "remove" apos) [e] [] cpos) none pos.line X.env = pure false := by rfl) : PS X (.Expr (.Call (.Attribute (.Subscript a b p1) "remove" apos) [e] [] cpos) pos) (tS C (sRowM i g f wRemove)) :=
  (ps_expr (pe_bm PySem.F.plainAttrs_list PySem.F.slot_list_remove PySem.F.type_list_remove mt_remove (pe_ix (hC ▸ ix_seq) ho hb hix) (pa_cons he pa_nil hs) hbase hfew hline hs hplain) hsw).mono fun T σ H ⟨ρ, F, r, q⟩ => by
    unfold sRowM at q
    split at q
    · rename_i rs hd
      refine row_ix r hd q fun l vs m xs b us F1 H1 x1 s1 r1 hl h1 hb1 hb2 rx hm q => ?_
      refine ⟨.inl ⟨rfl, _, SqL.of hb2⟩, ρ, F1, r1, out_of r1 q fun z v F' H' _ q x s r' w => ?_⟩
      have q : Post C T F' (bd (match asInts xs, z with | some ns, .int k => grd (decide (k ∈ ns)) (.ok ((ns.erase k).map .int)) | _, _ => .bad) fun xs' => .ok (.next (ρ.set i (some (true, .rows (rs.set m (.lst xs'))))))) := q
      cases hn : asInts xs with
      | none => rw [hn] at q; exact q.elim
      | some ns =>
        rw [hn] at q
        cases z with
        | int kk =>
          obtain rfl : v = V.int kk := w
          have q : Post C T F' (bd (grd (decide (kk ∈ ns)) (.ok ((ns.erase kk).map D.int))) fun xs' => .ok (.next (ρ.set i (some (true, .rows (rs.set m (.lst xs'))))))) := q
          cases hk : decide (kk ∈ ns) with
          | false => rw [hk] at q; exact q.elim
          | true =>
            rw [hk] at q
            obtain ⟨j, j1, j2, j3⟩ := erase_at kk ns (of_decide_eq_true hk)
            have eu := Reps.asInts rx hn
            refine ⟨b, ns, kk, j, rfl, rfl, by rw [← eu]; exact x.h _ _ hb2, j1, j2, ?_⟩
            rw [j3]
            exact q σ F' _ (Same.refl _) (r'.writeRow hd hl (x.h _ _ h1) hb1 (Reps.of_ints _))
        | _ => exact q.elim
    · exact q.elim
def sRowsApp (i : Nat) (f : En → R D) : En → R Fl := fun ρ => match ρ[i]? with
  | some (some (true, .rows rs)) => bd (f ρ) fun z => match z with
    | .lst xs => grd (decide (rs.length < sizeLine)) (.ok (.next (ρ.set i (some (true, .rows (rs ++ [.lst xs]))))))
    | _ => .bad
  | _ => .bad
theorem new_lst {H0 : Hp} {xs : List D} {v : V} (w : New K H0 F H (.lst xs) v) : ∃ b us, v = .ref b ∧ H0 b = none ∧ F b = none ∧ H b = some (.lst us) ∧ Reps K F xs us := by
  obtain ⟨b, rfl, n, _, us, h, r⟩ := w.own rfl
  exact ⟨b, us, rfl, (n b foot_head).1, (n b foot_head).2, h, r⟩
theorem kids_app {vs ws : List V} : (vs ++ ws).filterMap refOf = vs.filterMap refOf ++ ws.filterMap refOf := List.filterMap_append
theorem RowsAt.set {b : Addr} {us : List V} {xs : List D} (hb : H b = some (.lst us)) (rx : Reps K F xs us) : ∀ {rs : List D} {vs : List V} (m : Nat), RowsAt K F H rs vs → RowsAt K F H (rs.set m (.lst xs)) (vs.set m (.ref b))
  | _, _, _, .nil => .nil
  | _, _, 0, .cons _ _ t => .cons hb rx t
  | _, _, m + 1, .cons q r t => .cons q r (RowsAt.set hb rx m t)
def sRowPut (i : Nat) (f g : En → R D) : En → R Fl := fun ρ => match ρ[i]? with
  | some (some (true, .rows rs)) => bd (f ρ) fun z => bd (g ρ) fun q => match z, q with
    | .lst xs, .int j => match ixN rs.length j with
      | some m => .ok (.next (ρ.set i (some (true, .rows (rs.set m (.lst xs))))))
      | none => .bad
    | _, _ => .bad
  | _ => .bad
def nrm (ρ : En) : List Nat → En
  | [] => ρ
  | i :: is => match ρ[i]? with
    | some (some (true, .rows rs)) => nrm (ρ.set i (some (true, .lst rs))) is
    | some (some (false, .rows rs)) => nrm (ρ.set i (some (false, .lst rs))) is
    | _ => nrm ρ is
theorem Rel.half {ρ : En} {σ : L2.St} (r : Rel C ρ σ F H) {i : Nat} {rs : List D} (e : ρ[i]? = some (some (true, .rows rs))) : ∃ F', Same F F' ∧ Rel C (ρ.set i (some (true, .lst rs))) σ F' H := by
  obtain ⟨a, q, n, nd, vs, h1, ro⟩ := r.ownF i _ e
  have ef : foot H a (.rows rs) = a :: vs.filterMap refOf := by rw [foot_rows, kids_at h1]
  rw [ef] at n nd
  have nd := List.nodup_cons.mp nd
  obtain ⟨F2, s1, s2, rr, hk⟩ := ro.settle r.sub (fun b hb => (n b (List.mem_cons_of_mem _ hb)).1) nd.2
  have r2 := r.settleP e q (fun b hb => by rw [ef]; exact List.mem_cons_of_mem _ hb) s1 s2 hk
  have fa : F2 a = none := by
    cases hF : F2 a with
    | none => rfl
    | some o =>
      rcases hk a o hF with y | y
      · rw [(n a List.mem_cons_self).1] at y; cases y
      · exact absurd y nd.1
  refine ⟨F2, s1, ⟨r2.ext, r2.sub, by rw [List.length_set]; exact r.len, fun j e' h => ?_, fun j e' h => ?_, fun j k d' e' b b' c g1 g2 g3 g4 g5 g6 => ?_, r.lend, r.wok⟩⟩
  · rcases get_set h with ⟨rfl, z⟩ | ⟨nn, z⟩
    · cases z
    · exact r2.slot j e' (by rw [List.getElem?_set_ne nn]; exact z)
  · rcases get_set h with ⟨rfl, z⟩ | ⟨nn, z⟩
    · cases z
      refine ⟨a, q, fun b hb => ?_, by rw [foot_one rfl]; simp, vs, h1, rr⟩
      rw [foot_one rfl] at hb
      rw [List.mem_singleton.mp hb]
      exact ⟨fa, (n a List.mem_cons_self).2⟩
    · exact r2.ownF j e' (by rw [List.getElem?_set_ne nn]; exact z)
  · have cross : ∀ (k : Nat) (e1 : D) (b' : Addr), i ≠ k → ρ[k]? = some (some (true, e1)) → σ[k]? = some (some (.ref b')) → a ∉ foot H b' e1 := fun k e1 b' hik hk1 hq1 hc => hik (r.apartF i k _ _ a b' a e hk1 q hq1 foot_head hc)
    rcases get_set g1 with ⟨rfl, z⟩ | ⟨n1, z⟩
    · rcases get_set g2 with ⟨rfl, z'⟩ | ⟨n2, z'⟩
      · rfl
      · cases z
        rw [q] at g3
        cases g3
        rw [foot_one rfl] at g5
        rw [List.mem_singleton.mp g5] at g6
        exact absurd g6 (cross k _ _ n2 z' g4)
    · rcases get_set g2 with ⟨rfl, z'⟩ | ⟨n2, z'⟩
      · cases z'
        rw [q] at g4
        cases g4
        rw [foot_one rfl] at g6
        rw [List.mem_singleton.mp g6] at g5
        exact absurd g5 (cross j _ _ n1 z g3)
      · exact r.apartF j k _ _ b b' c z z' g3 g4 g5 g6
theorem Rel.plain {ρ : En} {σ : L2.St} (r : Rel C ρ σ F H) {i : Nat} {rs : List D} (e : ρ[i]? = some (some (false, .rows rs))) : Rel C (ρ.set i (some (false, .lst rs))) σ F H where
  ext := r.ext
  sub := r.sub
  len := by rw [List.length_set]; exact r.len
  slot := fun j e' h => by
    rcases get_set h with ⟨rfl, z⟩ | ⟨nn, z⟩
    · cases z
      obtain ⟨v, q, w⟩ := r.slot i _ e
      cases w with
      | rows h1 rr => exact ⟨_, q, .lst h1 rr⟩
    · exact r.slot j e' z
  ownF := fun j e' h => by
    rcases get_set h with ⟨rfl, z⟩ | ⟨nn, z⟩
    · cases z
    · exact r.ownF j e' z
  apartF := fun j k d' e' b b' c h1 h2 h3 h4 h5 h6 => by
    rcases get_set h1 with ⟨rfl, z⟩ | ⟨n, z⟩
    · cases z
    · rcases get_set h2 with ⟨rfl, z'⟩ | ⟨n', z'⟩
      · cases z'
      · exact r.apartF j k _ _ b b' c z z' h3 h4 h5 h6
  wok := r.wok
  lend := r.lend
theorem Rel.nrm {σ : L2.St} : ∀ (is : List Nat) {ρ : En} {F : Hp}, Rel C ρ σ F H → ∃ F', Same F F' ∧ Rel C (nrm ρ is) σ F' H
  | [], _, F, r => ⟨F, Same.refl _, r⟩
  | i :: is, ρ, F, r => by
    unfold DL.nrm
    split
    · rename_i rs e
      obtain ⟨F', sf, r'⟩ := r.half e
      obtain ⟨F2, sf2, r2⟩ := Rel.nrm is r'
      exact ⟨F2, sf.trans sf2, r2⟩
    · rename_i rs e
      exact Rel.nrm is (r.plain e)
    · exact Rel.nrm is r
def sNrm (is : List Nat) (s : En → R Fl) : En → R Fl := fun ρ => s (nrm ρ is)
theorem s_nrm (is : List Nat) (h : PS X st (tS C s1)) : PS X st (tS C (sNrm is s1)) := h.mono fun T σ H ⟨ρ, F, r, q⟩ => by
  obtain ⟨F', sf, r'⟩ := r.nrm is
  exact ⟨_, F', r', Post.up q sf⟩
def unR : D → R D
  | .rows rs => .ok (.lst rs)
  | d => .ok d
def aConsL (f : En → R D) (g : En → R (List D)) : En → R (List D) := fun ρ => bd (f ρ) fun d => match d with
  | .lst xs => bd (g ρ) fun ds => .ok (.lst xs :: ds)
  | _ => .bad
def mkRows (ds : List D) : R D := grd (small ds.length) (.ok (.rows ds))
def isL : D → Bool
  | .lst _ => true
  | _ => false
def lcGoR (g : D → En → Option En) (t : En → R Bool) (f : En → R D) (ρ : En) (ds : List D) : R (List D) := bd (lcGo g t f ρ ds) fun zs => grd (zs.all isL) (.ok zs)
def lcR (own : List Nat) (fi : En → R (List D)) (g : D → En → Option En) (t : En → R Bool) (f : En → R D) : En → R D := fun ρ => bd (fi ρ) fun ds =>
  grd (decide (ds.length < sizeLine)) (bd (lcGoR g t f (wipeR ρ own) ds) fun zs => .ok (.rows zs))
theorem lcR_ok {st : Bool} {fi : En → R (List D)} {gg : D → En → Option En} {t : En → R Bool} {own : List Nat} (hln : (own.all fun v => (C.ln v).isNone) = true) : ∀ σ H Q, tO C (lcR own fi gg t f) σ H Q → tLc (tI C st fi) (tG C.nox own gg) (tT C.nox t) (tO C.nox f) own σ H Q := by
  rintro σ H Q ⟨ρ, F, r, q⟩
  refine ⟨ρ, F, r, ?_⟩
  unfold lcR at q
  cases hfi : fi ρ with
  | bad => rw [hfi] at q; exact q
  | err c => rw [hfi] at q; exact q
  | ok ds =>
    rw [hfi, bd_ok] at q
    intro J F1 H1 x1 s1 it
    replace it : IterOk C.K J H1 F1 ds := by
      cases st with
      | true => rw [if_pos rfl] at it; exact it.base (jn_in s1 (r.ext.h.trans x1.h))
      | false => rw [if_neg Bool.false_ne_true] at it; exact it
    obtain ⟨z, q⟩ := grd_out q
    have z := of_decide_eq_true z
    intro D hD
    unfold lcGoR at q
    cases hgo : lcGo gg t f (wipeR ρ own) ds with
    | bad => rw [hgo] at q; exact q.elim
    | err c => exact absurd hgo lcGo_err
    | ok all =>
      rw [hgo, bd_ok] at q
      cases hal : all.all isL with
      | false => rw [hal] at q; exact q.elim
      | true =>
      rw [hal, grd_t, bd_ok] at q
      have q := Out.later q x1
      have r1 := r.grow x1 s1
      have d0 : C.H0 D = none := r1.ext.h.free hD
      have fd : F1 D = none := s1.free hD
      have ap : ∀ H', Same H1 H' → ∀ (j : Nat) (e : DL.D) (b : Addr), ρ[j]? = some (some (true, e)) → σ[j]? = some (some (.ref b)) → D ∉ foot H' b e := fun H' s' j e b h1 h2 h3 => by
        obtain ⟨a, q1, _, _, o⟩ := r1.ownF j e h1
        rw [h2] at q1
        cases q1
        rw [foot_grow s' o] at h3
        obtain ⟨u, hu⟩ := o.foot D h3
        rw [hD] at hu
        cases hu
      refine ⟨fun i m H => m = ds.length - i ∧ i ≤ ds.length ∧ ∃ F2 acc zs ws, Rel C ρ σ F2 H ∧ Ext F1 H1 F2 H ∧ F2 D = none ∧ H D = some (.lst acc) ∧ RowsAt C.K F2 H zs acc ∧ (∀ b ∈ acc.filterMap refOf, H1 b = none ∧ F2 b = none) ∧ (D :: acc.filterMap refOf).Nodup ∧ zs.length ≤ i ∧ lcGo gg t f (wipeR ρ own) (ds.drop i) = .ok ws ∧ all = zs ++ ws,
        ⟨_, rfl, Nat.zero_le _, F1, [], [], all, r1.other fd d0 (ap H1 (Same.refl _)), Ext.heap (same_upd hD), fd, upd_same, .nil, (fun _ h => nomatch h), by simp, Nat.zero_le _, hgo, rfl⟩, ?_⟩
      rintro i m H2 ⟨rfl, hi, F2, acc, zs, ws, r2, x2, f2, h2, rz, kz, nz, lz, hw, ha⟩
      obtain ⟨it1, it2⟩ := it i F2 H2 x2.h x2.f r2.sub
      by_cases hlt : i < ds.length
      · obtain ⟨go, y⟩ := it1 hlt
        have e : ds.drop i = ds[i] :: ds.drop (i + 1) := List.drop_eq_getElem_cons hlt
        rw [e] at hw
        obtain ⟨o, ws', hs, hw', hz⟩ := lcGo_cons hw
        refine .inr ⟨go, fun H => ∃ F2 acc zs ws, Rel C ρ σ F2 H ∧ Ext F1 H1 F2 H ∧ F2 D = none ∧ H D = some (.lst acc) ∧ RowsAt C.K F2 H zs acc ∧ (∀ b ∈ acc.filterMap refOf, H1 b = none ∧ F2 b = none) ∧ (D :: acc.filterMap refOf).Nodup ∧ zs.length ≤ i + 1 ∧ lcGo gg t f (wipeR ρ own) (ds.drop (i + 1)) = .ok ws ∧ all = zs ++ ws,
          fun H' p => ⟨_, by omega, rfl, hlt, p⟩, fun v H3 yy => ?_⟩
        obtain ⟨F3, d, hd, x3, s3, w3⟩ := y v H3 yy
        rw [List.getElem?_eq_getElem hlt] at hd
        cases hd
        have r3 := r2.grow x3 s3
        refine ⟨wipeR ρ own, F3, ds[i], (r3.nox).wipe own hln, w3, ?_⟩
        unfold lcStep at hs
        cases hgg : gg ds[i] (wipeR ρ own) with
        | none => rw [hgg] at hs; cases hs
        | some ρ1 =>
          rw [hgg] at hs
          intro σ4 e4 r4
          refine ⟨e4.trans (wipe_wipe own own σ fun _ h => h), ρ1, F3, r4, ?_⟩
          dsimp only at hs
          cases ht : t ρ1 with
          | bad => rw [ht] at hs; cases hs
          | err c => rw [ht] at hs; cases hs
          | ok b =>
            rw [ht] at hs
            intro F5 H5 x5 s5
            have x35 := x3.trans x5
            have hD5 : H5 D = some (.lst acc) := x35.h _ _ h2
            have fD5 : F5 D = none := x35.keepN h2 f2
            have kk5 : ∀ (F' H' : Hp), Ext F2 H2 F' H' → ∀ b ∈ acc.filterMap refOf, H1 b = none ∧ F' b = none := fun F' H' xx b hb => by
              obtain ⟨u, hu⟩ := rz.there b hb
              exact ⟨(kz b hb).1, xx.keepN hu (kz b hb).2⟩
            cases b with
            | false =>
              rw [if_neg Bool.false_ne_true]
              cases hs
              exact ⟨F5, acc, zs, ws', (r3.grow x5 s5), x2.trans x35, fD5, hD5, rz.mono x35.f (fun c _ u hu => x35.h _ _ hu), kk5 F5 H5 x35, nz, by omega, hw', by rw [ha, hz]⟩
            | true =>
              rw [if_pos rfl]
              refine ⟨ρ1, F5, r4.grow x5 s5, ?_⟩
              dsimp only at hs
              cases hf : f ρ1 with
              | bad => rw [hf] at hs; cases hs
              | err c => rw [hf] at hs; cases hs
              | ok zz =>
                rw [hf] at hs
                cases hs
                intro yv F6 H6 x6 s6 w6
                have hzz : ∃ xs, zz = .lst xs := by
                  have hm : zz ∈ all := by rw [ha, hz]; exact List.mem_append_right _ List.mem_cons_self
                  have := List.all_eq_true.mp hal zz hm
                  cases zz with
                  | lst xs => exact ⟨xs, rfl⟩
                  | _ => cases this
                obtain ⟨xs, rfl⟩ := hzz
                obtain ⟨nb, us, rfl, n5, f6, h6, rx⟩ := new_lst w6
                have x26 := x35.trans x6
                have x16 := x2.trans x26
                have hD6 : H6 D = some (.lst acc) := x26.h _ _ h2
                have fD6 : F6 D = none := x26.keepN h2 f2
                have hnD : nb ≠ D := fun e => by rw [e, hD5] at n5; cases n5
                have rz6 := rz.mono (H' := H6) x26.f fun c _ u hu => x26.h _ _ hu
                have ek : (acc ++ [V.ref nb]).filterMap refOf = acc.filterMap refOf ++ [nb] := by rw [kids_app]; rfl
                have nz2 := List.nodup_cons.mp nz
                have hnk : nb ∉ acc.filterMap refOf := fun e => by
                  obtain ⟨u, hu⟩ := rz.there nb e
                  rw [x35.h _ _ hu] at n5; cases n5
                refine ⟨acc, hD6, by rw [rz.length]; omega, F6, acc ++ [.ref nb], zs ++ [.lst xs], ws', ((r3.grow x5 s5).grow x6 s6).other fD6 d0 (ap H6 x16.h), ?_, fD6, upd_same, ?_, ?_, ?_, by rw [List.length_append]; exact Nat.succ_le_succ lz, hw', ?_⟩
                · exact ⟨x16.f, fun b u h => by rw [upd_ne (ne_of_none h hD)]; exact x16.h b u h, x16.n⟩
                · refine (rz6.append (.cons h6 rx .nil)).mono (Same.refl _) fun c hc u hu => ?_
                  rw [upd_ne]
                  · exact hu
                  · rintro rfl
                    rw [ek] at hc
                    rcases List.mem_append.mp hc with y | y
                    · exact nz2.1 y
                    · exact hnD (List.mem_singleton.mp y).symm
                · intro b hb
                  rw [ek] at hb
                  rcases List.mem_append.mp hb with y | y
                  · exact kk5 F6 H6 x26 b y
                  · rw [List.mem_singleton.mp y]
                    exact ⟨(x2.trans x35).h.free n5, f6⟩
                · rw [ek]
                  refine List.nodup_cons.mpr ⟨fun e => ?_, List.nodup_append.mpr ⟨nz2.2, by simp, fun y hy w hw2 e => ?_⟩⟩
                  · rcases List.mem_append.mp e with y | y
                    · exact nz2.1 y
                    · exact hnD (List.mem_singleton.mp y).symm
                  · rw [List.mem_singleton.mp hw2] at e
                    exact hnk (e ▸ hy)
                · rw [ha, hz, List.append_assoc]; rfl
      · have e : i = ds.length := by omega
        subst e
        rw [List.drop_length] at hw
        cases hw
        rw [List.append_nil] at ha
        subst ha
        have ef : foot H2 D (.rows all) = D :: acc.filterMap refOf := by rw [foot_rows, kids_at h2]
        have kz0 : ∀ b ∈ D :: acc.filterMap refOf, H b = none ∧ F2 b = none := fun b hb => by
          rcases List.mem_cons.mp hb with rfl | hb
          · exact ⟨x1.h.free hD, f2⟩
          · exact ⟨x1.h.free (kz b hb).1, (kz b hb).2⟩
        exact .inl ⟨it2 rfl, q (.ref D) F2 H2 x2 r2.sub (.mk (by rw [ef]; exact kz0) (by rw [ef]; exact nz) ⟨acc, h2, rz⟩)⟩
theorem s_setLcR {i : Nat} {y : Str} {py : Pos} {spos : Pos} {st : Bool} {elt iter : Expr} {ifs : List Expr} {scope : Scope} {own : List (Str × Nat)} {fi : En → R (List D)} {gg : D → En → Option En} {t : En → R Bool} (hc : X.calm = true) (hN : X.N.Nodup) (hi : PI X tg iter (tI C st fi)) (ok : BlkOk X.N X.env.scope scope own)
    (hg : ∀ (s : Shared) (H : Hp) (A : Addr) (cl : List (Str × Addr)) (fp : List Addr), PG (X.blk s H scope (compEnvC scope cl A X.env) fp) tg (tG C.nox (own.map (·.2)) gg)) (ht : ∀ (s : Shared) (H : Hp) (A : Addr) (cl : List (Str × Addr)) (fp : List Addr), PTs (X.blk s H scope (compEnvC scope cl A X.env) fp) ifs (tT C.nox t))
    (he : ∀ (s : Shared) (H : Hp) (A : Addr) (cl : List (Str × Addr)) (fp : List Addr), PE (X.blk s H scope (compEnvC scope cl A X.env) fp) elt (tO C.nox f))
    (hsw : swapsWith (.ListComp elt [⟨tg, iter, ifs, 0⟩] scope pos) (some (.Name y py)) spos.line X.env = pure true) (hy : X.N[i]? = some y := by rfl) (hyl : X.env.scope.names.lookup y = some .local := by rfl) (hs : ∀ x, foldedSetIterable iter X.env x = pure x := by intro _; rfl) (hw : ((own.map (·.2)).all fun v => (C.ln v).isNone) = true := by rfl) (hl : C.ln i = none := by rfl) :
    PS X (.Assign [.Name y py] (.ListComp elt [⟨tg, iter, ifs, 0⟩] scope pos) spos) (tS C (sSetO i (lcR (own.map (·.2)) fi gg t f))) :=
  (ps_setLc hc hN hy hyl hsw hi ok hg ht he hs).mono fun T σ H ⟨ρ, F, r, q⟩ => lcR_ok hw σ H _ ⟨ρ, F, r, out_of r q fun d v F' H' _ q x s r' w => q _ F' H' (Same.refl _) (r'.setN (r.old x.h) (fun a h => r.ext.h.free h) w hl)⟩
end
end DL
namespace DL
open PySem PySem.Spec PyProof.Rows L2
section
variable {X : Cx} {C : Cd} {e a b c tg : Expr} {f g k : En → R D} {pos p p1 apos cpos : Pos} {st : Stmt} {s1 : En → R Fl} {K : Kx} {F H H' : Hp} {kk : Nat} {es : List Expr} {fs : En → R (List D)}
def sInsert (i : Nat) (g f : En → R D) : En → R Fl := fun ρ => match ρ[i]? with
  | some (some (true, .lst ds)) => bd (g ρ) fun q => bd (f ρ) fun z => match q with
    | .int j => grd (decide (ds.length < sizeLine) && decide (0 ≤ j) && decide (j < 2 ^ 63)) (.ok (.next (ρ.set i (some (true, .lst (ds.take j.toNat ++ [z] ++ ds.drop j.toNat))))))
    | _ => .bad
  | _ => .bad
def dIntB : List D → R D
  | [.bl b] => .ok (.int (if b then 1 else 0))
  | [.int i] => .ok (.int i)
  | _ => .bad
end
end DL
namespace DL
open PySem PySem.Spec PyProof.Rows L2
section
variable {prog : Program} {w : World} {A : Around} {E : Value → Shared → Prop} {s : Shared}
end
section
variable {X : Cx}
end
section
variable {X : Cx} {C : Cd} {a : Expr} {f : En → R D} {pos pos2 p p2 : Pos}
end
end DL
namespace DL
open PySem PySem.Spec PyProof.Rows L2
section
open SrtO Srt
variable {prog : Program} {w : World} {A : Around} {E : Value → Shared → Prop} {s : Shared}
end
section
open SrtO Srt
variable {X : Cx}
end
section
variable {X : Cx} {C : Cd} {K : Kx} {F H : Hp}
variable {e : Expr} {es : List Expr} {fs : En → R (List D)} {pos p : Pos}
end
section
variable {X : Cx} {C : Cd} {k v : Expr} {f g : En → R D} {pos : Pos}
end
end DL
namespace DL
open PySem PySem.Spec PyProof.Rows L2
abbrev Slot := Option (Bool × D)
theorem loop_ind {g : D → En → Option En} {gb : En → R Fl} {W : R Fl → Prop} : ∀ (ds : List D) (I : Nat → En → Prop) (ρ : En), I 0 ρ →
    (∀ i d ρ, ds[i]? = some d → I i ρ → ∃ ρ1, g d ρ = some ρ1 ∧ ((∃ ρ', (gb ρ1 = .ok (.next ρ') ∨ gb ρ1 = .ok (.cont ρ')) ∧ I (i + 1) ρ') ∨ (∃ ρ', gb ρ1 = .ok (.brk ρ') ∧ W (.ok (.next ρ'))) ∨ (∃ o x, gb ρ1 = .ok (.ret o x) ∧ W (.ok (.ret o x))) ∨ (∃ c, gb ρ1 = .err c ∧ W (.err c)))) →
    (∀ ρ, I ds.length ρ → W (.ok (.next ρ))) → W (loopD g gb ds ρ)
  | [], I, ρ, h0, _, hd => hd ρ h0
  | d :: ds, I, ρ, h0, hs, hd => by
    obtain ⟨ρ1, h1, h2⟩ := hs 0 d ρ rfl h0
    unfold loopD
    rw [h1]
    dsimp only
    rcases h2 with ⟨ρ', h2, h3⟩ | ⟨ρ', h2, h3⟩ | ⟨o, x, h2, h3⟩ | ⟨c, h2, h3⟩
    · have := loop_ind ds (fun i => I (i + 1)) ρ' h3 (fun i d ρ hd => hs (i + 1) d ρ (by simpa using hd)) hd
      rcases h2 with h2 | h2 <;> rw [h2] <;> exact this
    · rw [h2]; exact h3
    · rw [h2]; exact h3
    · rw [h2]; exact h3
theorem loop_find {α : Type} {g : D → En → Option En} {gb : En → R Fl} {o : Bool} {x : D} (I : En → Prop) (F : α → D) (p : α → Bool) : ∀ (xs : List α) (ρ : En), I ρ →
    (∀ a ∈ xs, ∀ ρ, I ρ → ∃ ρ1, g (F a) ρ = some ρ1 ∧ (p a = true → ∃ ρ', gb ρ1 = .ok (.next ρ') ∧ I ρ') ∧ (p a = false → gb ρ1 = .ok (.ret o x))) →
    (xs.all p = true ∧ ∃ ρ', loopD g gb (xs.map F) ρ = .ok (.next ρ') ∧ I ρ') ∨ (xs.all p = false ∧ loopD g gb (xs.map F) ρ = .ok (.ret o x))
  | [], ρ, h0, _ => .inl ⟨rfl, ρ, rfl, h0⟩
  | a :: xs, ρ, h0, h => by
    obtain ⟨ρ1, h1, h2, h3⟩ := h a List.mem_cons_self ρ h0
    rw [List.map_cons]
    unfold loopD
    rw [h1, List.all_cons]
    dsimp only
    cases hp : p a with
    | true =>
      obtain ⟨ρ', h4, h5⟩ := h2 hp
      rw [h4]
      exact loop_find I F p xs ρ' h5 fun a ha => h a (List.mem_cons_of_mem _ ha)
    | false =>
      rw [h3 hp]
      exact .inr ⟨rfl, rfl⟩
theorem loop_at {α : Type} {g : D → En → Option En} {gb : En → R Fl} (F : α → D) : ∀ (xs : List α) (I : Nat → En → Prop) (ρ : En), I 0 ρ →
    (∀ i a ρ, xs[i]? = some a → I i ρ → ∃ ρ1, g (F a) ρ = some ρ1 ∧ ∃ ρ', gb ρ1 = .ok (.next ρ') ∧ I (i + 1) ρ') → ∃ ρ', loopD g gb (xs.map F) ρ = .ok (.next ρ') ∧ I xs.length ρ'
  | [], I, ρ, h0, _ => ⟨ρ, rfl, h0⟩
  | a :: xs, I, ρ, h0, h => by
    obtain ⟨ρ1, h1, ρ', h2, h3⟩ := h 0 a ρ rfl h0
    rw [List.map_cons]
    unfold loopD
    rw [h1]
    dsimp only
    rw [h2]
    exact loop_at F xs (fun i => I (i + 1)) ρ' h3 fun i b ρ hb => h (i + 1) b ρ (by simpa using hb)
theorem at_lt {α : Type} {xs : List α} {i : Nat} {a : α} (h : xs[i]? = some a) : i < xs.length := (List.getElem?_eq_some_iff.mp h).1
theorem lc_map {g : D → En → Option En} {t : En → R Bool} {f : En → R D} {ρ : En} (F : D → D) : ∀ (ds : List D), (∀ d ∈ ds, lcStep g t f ρ d = .ok (some (F d))) → lcGo g t f ρ ds = .ok (ds.map F)
  | [], _ => rfl
  | d :: ds, h => by
    unfold lcGo
    rw [h d List.mem_cons_self, bd_ok, lc_map F ds fun d hd => h d (List.mem_cons_of_mem _ hd)]
    rfl
theorem small_of {n : Nat} (h : n ≤ 1000000) : small n = true := by
  unfold small
  rw [sizeLine_eq]
  exact decide_eq_true (by omega)
theorem lt_size {n : Nat} (h : n ≤ 1000000) : decide (n < sizeLine) = true := by
  rw [sizeLine_eq]
  exact decide_eq_true (by omega)
theorem inR_small {i : Int} (h : -1000000000000 ≤ i) (h' : i ≤ 1000000000000) : DL.inR i = true := by
  unfold DL.inR
  rw [Bool.and_eq_true]
  exact ⟨decide_eq_true (by omega), decide_eq_true (by omega)⟩
theorem atI_ge {α : Type} {xs : List α} {i : Int} {x : α} (h0 : 0 ≤ i) (h : xs[i.toNat]? = some x) : L2.atI xs i = some x := by
  obtain ⟨j, rfl⟩ : ∃ j : Nat, i = j := ⟨i.toNat, by omega⟩
  exact atI_nat (by simpa using h)
theorem ixA_lst {ds : List D} {i : Int} {x : D} (h0 : 0 ≤ i) (h : ds[i.toNat]? = some x) : dIxA (.lst ds) (.int i) = .ok x := by
  show (match L2.atI ds i with | some d => R.ok d | none => R.bad) = _
  rw [atI_ge h0 h]
theorem ixA_tup {ds : List D} {i : Int} {x : D} (h0 : 0 ≤ i) (h : ds[i.toNat]? = some x) : dIxA (.tup ds) (.int i) = .ok x := by
  show (match L2.atI ds i with | some d => R.ok d | none => R.bad) = _
  rw [atI_ge h0 h]
theorem ixA_scr {ds : List Int} {i : Int} {x : Int} (h0 : 0 ≤ i) (h : ds[i.toNat]? = some x) : dIxA (.scr ds) (.int i) = .ok (.int x) := by
  show (match L2.atI ds i with | some d => R.ok (D.int d) | none => R.bad) = _
  rw [atI_ge h0 h]
theorem ixA_ints {ns : List Int} {i : Int} (h0 : 0 ≤ i) (h : i < ns.length) : dIxA (.lst (ns.map .int)) (.int i) = .ok (.int (ns.getD i.toNat 0)) := by
  refine ixA_lst h0 ?_
  have : i.toNat < ns.length := by omega
  rw [List.getElem?_map, List.getElem?_eq_getElem this, List.getD_eq_getElem?_getD, List.getElem?_eq_getElem this]
  rfl
theorem ixA_scrD {ns : List Int} {i : Int} (h0 : 0 ≤ i) (h : i < ns.length) : dIxA (.scr ns) (.int i) = .ok (.int (ns.getD i.toNat 0)) := by
  refine ixA_scr h0 ?_
  have : i.toNat < ns.length := by omega
  rw [List.getElem?_eq_getElem this, List.getD_eq_getElem?_getD, List.getElem?_eq_getElem this]
  rfl
theorem cut_to {α : Type} {xs : List α} {n : Int} (h : 0 ≤ n) : cutD xs none (some n) = xs.take n.toNat := by
  obtain ⟨j, rfl⟩ : ∃ j : Nat, n = j := ⟨n.toNat, by omega⟩
  unfold cutD
  rw [HT.sIx_none, HT.sIx_nat, List.drop_zero, Nat.sub_zero]
  simp only [Int.toNat_natCast]
  by_cases hj : j ≤ xs.length
  · rw [Nat.min_eq_left hj]
  · rw [Nat.min_eq_right (by omega), List.take_length, List.take_of_length_le (by omega)]
theorem cut_mid {α : Type} {xs : List α} {m n : Int} (h : 0 ≤ m) (h' : 0 ≤ n) : cutD xs (some m) (some n) = (xs.drop m.toNat).take (n.toNat - m.toNat) := by
  obtain ⟨j, rfl⟩ : ∃ j : Nat, n = j := ⟨n.toNat, by omega⟩
  obtain ⟨i, rfl⟩ : ∃ j : Nat, m = j := ⟨m.toNat, by omega⟩
  unfold cutD
  rw [HT.sIx_nat, HT.sIx_nat]
  simp only [Int.toNat_natCast]
  by_cases hi : i ≤ xs.length
  · rw [Nat.min_eq_left hi]
    by_cases hj : j ≤ xs.length
    · rw [Nat.min_eq_left hj]
    · rw [Nat.min_eq_right (by omega), List.take_of_length_le (by rw [List.length_drop]; omega), List.take_of_length_le (by rw [List.length_drop]; omega)]
  · rw [show min i xs.length = xs.length from Nat.min_eq_right (by omega), List.drop_length, List.take_nil, List.drop_of_length_le (by omega), List.take_nil]
theorem pys_ints : ∀ ns : List Int, pys (ns.map .int) = some (ns.map PyData.int)
  | [] => rfl
  | n :: ns => by simp only [List.map_cons]; unfold pys; rw [pys_ints ns]; rfl
theorem py_ints (ns : List Int) : py (.lst (ns.map .int)) = some (.list (ns.map PyData.int)) := by unfold py; rw [pys_ints]; rfl
theorem canLay_ints : ∀ ns : List Int, PyData.canLayAll0 (ns.map PyData.int) = true
  | [] => by simp [PyData.canLayAll0]
  | n :: ns => by simp [PyData.canLayAll0, PyData.canLay0, canLay_ints ns]
theorem depth_ints : ∀ ns : List Int, PyData.depthAll (ns.map PyData.int) ≤ 1
  | [] => by simp [PyData.depthAll]
  | n :: ns => by
    have := depth_ints ns
    simp [PyData.depthAll, PyData.depth]
    omega
theorem shaped_ints (ns : List Int) : SeqAt.shaped (.list (ns.map PyData.int)) = true := by
  have := depth_ints ns
  have h2 := canLay_ints ns
  unfold SeqAt.shaped
  simp [PyData.canLay0, PyData.depth, h2]
  omega
theorem eqv_ints : ∀ ns ms : List Int, PyData.eqvAll (ns.map PyData.int) (ms.map PyData.int) = decide (ns = ms)
  | [], [] => rfl
  | [], m :: ms => rfl
  | n :: ns, [] => rfl
  | n :: ns, m :: ms => by
    simp only [List.map_cons, PyData.eqvAll, PyData.eqv, eqv_ints ns ms]
    by_cases h : n = m <;> by_cases h' : ns = ms <;> simp [h, h']
theorem dEq_ints (neg : Bool) (ns ms : List Int) : dEq neg (.lst (ns.map .int)) (.lst (ms.map .int)) = .ok (.bl (xorB neg (decide (ns = ms)))) := by
  show deepEq neg _ _ = _
  unfold deepEq
  rw [py_ints, py_ints]
  simp only [shaped_ints, Bool.and_self, grd_t]
  rw [xor_if]
  simp only [PyData.eqv, eqv_ints]
theorem dEq_scr (neg : Bool) (ns ms : List Int) : dEq neg (.scr ns) (.lst (ms.map .int)) = .ok (.bl (xorB neg (decide (ns = ms)))) := by
  show deepEq neg _ _ = _
  unfold deepEq
  rw [show py (.scr ns) = some (.list (ns.map PyData.int)) from rfl, py_ints]
  simp only [shaped_ints, Bool.and_self, grd_t]
  rw [xor_if]
  simp only [PyData.eqv, eqv_ints]
theorem dEq_scr_nil (neg : Bool) (ns : List Int) : dEq neg (.scr ns) (.lst []) = .ok (.bl (xorB neg (decide (ns = [])))) := dEq_scr neg ns []
theorem dEq_ints_nil (neg : Bool) (ns : List Int) : dEq neg (.lst (ns.map .int)) (.lst []) = .ok (.bl (xorB neg (decide (ns = [])))) := dEq_ints neg ns []
end DL
namespace DL
open PySem PySem.Spec PyProof.Rows L2
section
variable {ρ : En} {f g k : En → R D} {fs : En → R (List D)} {s t s1 s2 : En → R Fl} {i : Nat} {d e : D} {ds es : List D} {b o : Bool} {ft gt : En → R Bool}
def seqK (x : R Fl) (t : En → R Fl) : R Fl := bd x fun r => match r with | .next ρ' => t ρ' | r => .ok r
theorem ap_seq : sSeq s t ρ = seqK (s ρ) t := rfl
theorem seq_next : seqK (.ok (.next ρ)) t = t ρ := rfl
theorem seq_ret : seqK (.ok (.ret o d)) t = .ok (.ret o d) := rfl
theorem seq_brk : seqK (.ok (.brk ρ)) t = .ok (.brk ρ) := rfl
theorem seq_cont : seqK (.ok (.cont ρ)) t = .ok (.cont ρ) := rfl
theorem seq_err {c : Str} : seqK (.err c) t = .err c := rfl
theorem ap_skip : sSkip ρ = .ok (.next ρ) := rfl
theorem ap_brk : sBrk ρ = .ok (.brk ρ) := rfl
theorem ap_cont : sCont ρ = .ok (.cont ρ) := rfl
theorem ap_stl {is : List Nat} : sStl is s ρ = s (settle ρ is) := rfl
theorem settle_nil : settle ρ [] = ρ := rfl
def settleK (x : Option Slot) (i : Nat) (is : List Nat) (ρ : En) : En := match x with
  | some (some (true, d)) => settle (ρ.set i (some (false, d))) is
  | _ => settle ρ is
theorem settle_cons {is : List Nat} : settle ρ (i :: is) = settleK ρ[i]? i is ρ := rfl
theorem settle_t {is : List Nat} : settleK (some (some (true, d))) i is ρ = settle (ρ.set i (some (false, d))) is := rfl
theorem settle_f {is : List Nat} : settleK (some (some (false, d))) i is ρ = settle ρ is := rfl
def iteK (x : R Bool) (s1 s2 : En → R Fl) (ρ : En) : R Fl := bd x fun c => if c = true then s1 ρ else s2 ρ
theorem ap_if : sIf ft s1 s2 ρ = iteK (ft ρ) s1 s2 ρ := rfl
theorem ite_t : iteK (.ok true) s1 s2 ρ = s1 ρ := rfl
theorem ite_f : iteK (.ok false) s1 s2 ρ = s2 ρ := rfl
def setK (x : R D) (i : Nat) (ρ : En) : R Fl := bd x fun d => stE i d ρ
def setOK (x : R D) (i : Nat) (ρ : En) : R Fl := bd x fun d => stO i d ρ
theorem ap_set : sSet i f ρ = setK (f ρ) i ρ := rfl
theorem ap_setO : sSetO i f ρ = setOK (f ρ) i ρ := rfl
theorem set_ok : setK (.ok d) i ρ = .ok (.next (ρ.set i (some (false, d)))) := rfl
theorem setO_ok : setOK (.ok d) i ρ = .ok (.next (ρ.set i (some (isC d, d)))) := rfl
theorem isC_lst : isC (.lst ds) = true := rfl
theorem isC_dK {l : List (Key × D)} : isC (.dK l) = true := rfl
theorem isC_dT {l : List (List Key × D)} : isC (.dT l) = true := rfl
theorem isC_int {n : Int} : isC (.int n) = false := rfl
theorem isC_str {n : Str} : isC (.str n) = false := rfl
theorem isC_bl {n : Bool} : isC (.bl n) = false := rfl
theorem isC_non : isC .non = false := rfl
theorem isC_tup : isC (.tup ds) = false := rfl
def retK (x : R D) (o : Bool) : R Fl := bd x fun d => .ok (.ret o d)
theorem ap_ret : sRet f ρ = retK (f ρ) false := rfl
theorem ap_retO : sRetO f ρ = retK (f ρ) true := rfl
theorem ret_ok : retK (.ok d) o = .ok (.ret o d) := rfl
theorem ap_ret0 : sRetNone ρ = .ok (.ret false .non) := rfl
def unpK (x : R D) (g : D → En → Option En) (ρ : En) : R Fl := bd x fun d => match g d ρ with | some ρ' => .ok (.next ρ') | none => .bad
theorem ap_unp {gg : D → En → Option En} : sUnp f gg ρ = unpK (f ρ) gg ρ := rfl
def unp2 (x : Option En) : R Fl := match x with | some ρ' => .ok (.next ρ') | none => .bad
theorem unp_ok {gg : D → En → Option En} : unpK (.ok d) gg ρ = unp2 (gg d ρ) := rfl
theorem unp2_ok : unp2 (some ρ) = .ok (.next ρ) := rfl
theorem ap_drop : sDrop f ρ = bd (f ρ) fun _ => .ok (.next ρ) := rfl
theorem ap_gset : gSet i d ρ = some (ρ.set i (some (false, d))) := rfl
theorem ap_gtup {n : Nat} {gs : List D → En → Option En} : gSeqD n gs (.tup ds) ρ = if ds.length = n then gs ds ρ else none := rfl
theorem ap_glst {n : Nat} {gs : List D → En → Option En} : gSeqD n gs (.lst ds) ρ = if ds.length = n then gs ds ρ else none := rfl
theorem ap_gnil : gsNil [] ρ = some ρ := rfl
theorem ap_gcons {gg : D → En → Option En} {gs : List D → En → Option En} : gsCons gg gs (d :: ds) ρ = (gg d ρ).bind (gs ds) := rfl
def rdK (x : Option Slot) : R D := match x with | some (some (_, d)) => .ok d | _ => .bad
def rdEK (x : Option Slot) : R D := match x with | some (some (false, d)) => .ok d | some (some (true, d)) => if isC d = true then .bad else .ok d | _ => .bad
def rdOK (x : Option Slot) : R D := match x with | some (some (true, d)) => .ok d | some (some (false, d)) => if isC d = true then .bad else .ok d | _ => .bad
theorem ap_rd : rd i ρ = rdK ρ[i]? := rfl
theorem ap_rdE : rdE i ρ = rdEK ρ[i]? := rfl
theorem ap_rdO : rdO i ρ = rdOK ρ[i]? := rfl
theorem rd_ok : rdK (some (some (b, d))) = .ok d := rfl
theorem rdE_ok : rdEK (some (some (false, d))) = .ok d := rfl
theorem rdO_ok : rdOK (some (some (true, d))) = .ok d := rfl
theorem rdO_f (h : isC d = false) : rdOK (some (some (false, d))) = .ok d := by show (if isC d = true then R.bad else R.ok d) = _; simp [h]
theorem ap_cst : cst d ρ = .ok d := rfl
def bd2 (x y : R D) (w : D → D → R D) : R D := bd x fun d => bd y fun e => w d e
theorem ap_bop {w : D → D → R D} : bop f g w ρ = bd2 (f ρ) (g ρ) w := rfl
theorem bd2_ok {w : D → D → R D} : bd2 (.ok d) (.ok e) w = w d e := rfl
theorem ap_uop {w : D → R D} : uop f w ρ = bd (f ρ) w := rfl
theorem ap_nop {w : List D → R D} : nop fs w ρ = bd (fs ρ) w := rfl
theorem ap_anil : aNil ρ = .ok [] := rfl
def consK (x : R D) (y : R (List D)) : R (List D) := bd x fun d => bd y fun ds => .ok (d :: ds)
theorem ap_acons : aCons f fs ρ = consK (f ρ) (fs ρ) := rfl
theorem cons_ok : consK (.ok d) (.ok ds) = .ok (d :: ds) := rfl
theorem add_int {m n : Int} : dAdd (.int m) (.int n) = .ok (.int (m + n)) := rfl
theorem add_str {x y : Str} : dAdd (.str x) (.str y) = grd (small (x.length + y.length)) (.ok (.str (x ++ y))) := rfl
theorem add_lst : dAdd (.lst ds) (.lst es) = grd (small (ds.length + es.length)) (.ok (.lst (ds ++ es))) := rfl
theorem sub_int {m n : Int} : dSub (.int m) (.int n) = .ok (.int (m - n)) := rfl
theorem mod_int {m n : Int} : dMod (.int m) (.int n) = grd (decide (0 < n)) (.ok (.int (m % n))) := rfl
theorem mod_pos {m n : Int} (h : 0 < n) : dMod (.int m) (.int n) = .ok (.int (m % n)) := by rw [mod_int, decide_eq_true h]; rfl
theorem log_of {n b : Nat} (h : n < 2 ^ b) (h0 : 0 < b) : n.log2 < b := by
  by_cases hn : n = 0
  · subst hn; simpa using h0
  · exact (Nat.log2_lt hn).mpr h
theorem div_int {m n : Int} : dDiv (.int m) (.int n) = grd (decide (0 < n) && decide (n.natAbs.log2 < 9000)) (.ok (.int (m / n))) := rfl
theorem div_pos {m n : Int} (h : 0 < n) (h' : n < 2 ^ 200) : dDiv (.int m) (.int n) = .ok (.int (m / n)) := by
  have : n.natAbs.log2 < 200 := log_of (by omega) (by decide)
  rw [div_int, decide_eq_true h, decide_eq_true (show n.natAbs.log2 < 9000 by omega)]; rfl
theorem pow_int {m n : Int} : dPow (.int m) (.int n) = grd (decide (0 ≤ n) && decide (n ≤ 1000000) && decide (m.natAbs < 2 ^ 64)) (.ok (.int (m ^ n.toNat))) := rfl
theorem mul_int {m n : Int} : dMul (.int m) (.int n) = grd (decide (m.natAbs.log2 + n.natAbs.log2 < 1000000) || decide (m.natAbs < 2 ^ 64) || decide (n.natAbs < 2 ^ 64)) (.ok (.int (m * n))) := rfl
theorem pow_ok {m n : Int} (h0 : 0 ≤ n) (h1 : n ≤ 1000000) (h2 : -9223372036854775808 ≤ m) (h3 : m ≤ 9223372036854775807) : dPow (.int m) (.int n) = .ok (.int (m ^ n.toNat)) := by
  rw [pow_int, decide_eq_true h0, decide_eq_true h1, decide_eq_true (show m.natAbs < 2 ^ 64 by omega)]; rfl
theorem mul_small {m n : Int} (h : -(2 ^ 250) ≤ m) (h' : m ≤ 2 ^ 250) (h2 : -(2 ^ 250) ≤ n) (h3 : n ≤ 2 ^ 250) : dMul (.int m) (.int n) = .ok (.int (m * n)) := by
  have h1 : m.natAbs.log2 < 251 := log_of (by omega) (by decide)
  have h2 : n.natAbs.log2 < 251 := log_of (by omega) (by decide)
  rw [mul_int, decide_eq_true (show m.natAbs.log2 + n.natAbs.log2 < 1000000 by omega)]; rfl
theorem mul_r {m n : Int} (h : -(2 ^ 60) ≤ n) (h' : n ≤ 2 ^ 60) : dMul (.int m) (.int n) = .ok (.int (m * n)) := by
  rw [mul_int, decide_eq_true (show n.natAbs < 2 ^ 64 by omega), Bool.or_true]; rfl
theorem mul_l {m n : Int} (h : -(2 ^ 60) ≤ m) (h' : m ≤ 2 ^ 60) : dMul (.int m) (.int n) = .ok (.int (m * n)) := by
  rw [mul_int, decide_eq_true (show m.natAbs < 2 ^ 64 by omega), Bool.or_true, Bool.true_or]; rfl
theorem rep_lst {n : Int} : dMul (.lst ds) (.int n) = grd (decide (-(2 ^ 63) ≤ n) && decide (n < 2 ^ 63) && small (ds.length * n.toNat)) (.ok (.lst (List.replicate n.toNat ds).flatten)) := rfl
theorem neg_int {n : Int} : dNeg (.int n) = .ok (.int (-n)) := rfl
theorem eq_int {neg : Bool} {m n : Int} : dEq neg (.int m) (.int n) = .ok (.bl (xorB neg (decide (m = n)))) := rfl
theorem eq_str {neg : Bool} {m n : Str} : dEq neg (.str m) (.str n) = .ok (.bl (xorB neg (decide (m = n)))) := rfl
theorem eq_bl {neg : Bool} {m n : Bool} : dEq neg (.bl m) (.bl n) = .ok (.bl (xorB neg (decide (m = n)))) := rfl
theorem eq_non_int {neg : Bool} {n : Int} : dEq neg .non (.int n) = .ok (.bl (xorB neg false)) := rfl
theorem eq_int_non {neg : Bool} {n : Int} : dEq neg (.int n) .non = .ok (.bl (xorB neg false)) := rfl
theorem lt_int {m n : Int} : dLt (.int m) (.int n) = .ok (.bl (decide (m < n))) := rfl
theorem le_int {m n : Int} : dLe (.int m) (.int n) = .ok (.bl (decide (m ≤ n))) := rfl
theorem gt_int {m n : Int} : dGt (.int m) (.int n) = .ok (.bl (decide (n < m))) := rfl
theorem ge_int {m n : Int} : dGe (.int m) (.int n) = .ok (.bl (decide (n ≤ m))) := rfl
theorem isN_ap {neg : Bool} : dIsN neg d .non = .ok (.bl (xorB neg (isN d))) := rfl
theorem isN_non : isN .non = true := rfl
theorem isN_int {n : Int} : isN (.int n) = false := rfl
theorem isN_str {n : Str} : isN (.str n) = false := rfl
theorem is_bl {neg m n : Bool} : dIsN neg (.bl m) (.bl n) = .ok (.bl (xorB neg (decide (m = n)))) := rfl
def rdLK (x : Option D) : R D := match x with | some d => .ok d | none => .bad
theorem ap_rdL {i : Nat} : rdL ds i ρ = rdLK ds[i]? := rfl
theorem rdL_ok : rdLK (some d) = .ok d := rfl
def rdFK (x : Option D) : R D := match x with | some d => grd (flatB d) (.ok d) | none => .bad
theorem ap_rdF {i : Nat} : rdF ds i ρ = rdFK ds[i]? := rfl
theorem rdF_int {n : Int} : rdFK (some (.int n)) = .ok (.int n) := rfl
theorem isN_bl {n : Bool} : isN (.bl n) = false := rfl
theorem isN_lst : isN (.lst ds) = false := rfl
theorem isN_tup : isN (.tup ds) = false := rfl
theorem asB_bl : asB (.bl b) = .ok b := rfl
theorem asI_int {n : Int} : asI (.int n) = .ok (some n) := rfl
theorem mkLst_ap : mkLst ds = grd (small ds.length) (.ok (.lst ds)) := rfl
theorem mkTup_ap : mkTup ds = grd (small ds.length) (.ok (.tup ds)) := rfl
theorem len_lst : dLen [.lst ds] = .ok (.int ds.length) := rfl
theorem len_tup : dLen [.tup ds] = .ok (.int ds.length) := rfl
theorem len_scr {ns : List Int} : dLen [.scr ns] = .ok (.int ns.length) := rfl
theorem len_str {z : Str} : dLen [.str z] = grd (small z.length) (.ok (.int z.length)) := rfl
theorem len_dK {l : List (Key × D)} : dLen [.dK l] = .ok (.int l.length) := rfl
theorem list_lst : dList [.lst ds] = .ok (.lst ds) := rfl
theorem list_tup : dList [.tup ds] = .ok (.lst ds) := rfl
theorem list_scr {ns : List Int} : dList [.scr ns] = .ok (.lst (ns.map .int)) := rfl
theorem tuple_lst : dTuple [.lst ds] = .ok (.tup ds) := rfl
theorem flatO_int {n : Int} : flatO (.int n) = .ok (.int n) := rfl
theorem flatO_bl {n : Bool} : flatO (.bl n) = .ok (.bl n) := rfl
theorem flatO_str {n : Str} : flatO (.str n) = .ok (.str n) := rfl
theorem flatO_non : flatO .non = .ok .non := rfl
theorem flatO_tup : flatO (.tup ds) = .ok (.tup ds) := rfl
theorem eNot_bl : eNot (.bl b) = .ok (.bl (!b)) := rfl
theorem isi_int {T : String} {n : Int} : isiD T (.int n) = .ok (.bl (isB T (.int n))) := rfl
theorem isi_bl {T : String} {n : Bool} : isiD T (.bl n) = .ok (.bl (isB T (.bl n))) := rfl
theorem isi_str {T : String} {n : Str} : isiD T (.str n) = .ok (.bl (isB T (.str n))) := rfl
theorem isi_non {T : String} : isiD T .non = .ok (.bl (isB T .non)) := rfl
theorem isi_lst {T : String} : isiD T (.lst ds) = .ok (.bl (isB T (.lst ds))) := rfl
theorem isi_tup {T : String} : isiD T (.tup ds) = .ok (.bl (isB T (.tup ds))) := rfl
theorem isB_int_int {n : Int} : isB "int" (.int n) = true := rfl
theorem isB_int_bl {n : Bool} : isB "int" (.bl n) = true := rfl
theorem isB_int_str {n : Str} : isB "int" (.str n) = false := rfl
theorem isB_int_non : isB "int" .non = false := rfl
theorem isB_int_lst : isB "int" (.lst ds) = false := rfl
theorem isB_int_tup : isB "int" (.tup ds) = false := rfl
theorem isB_bool_int {n : Int} : isB "bool" (.int n) = false := rfl
theorem isB_bool_bl {n : Bool} : isB "bool" (.bl n) = true := rfl
theorem isB_bool_str {n : Str} : isB "bool" (.str n) = false := rfl
theorem isB_bool_non : isB "bool" .non = false := rfl
theorem isB_bool_lst : isB "bool" (.lst ds) = false := rfl
theorem isB_bool_tup : isB "bool" (.tup ds) = false := rfl
theorem isB_list_lst : isB "list" (.lst ds) = true := rfl
theorem isB_list_int {n : Int} : isB "list" (.int n) = false := rfl
theorem isB_list_tup : isB "list" (.tup ds) = false := rfl
theorem isB_tuple_tup : isB "tuple" (.tup ds) = true := rfl
theorem isB_tuple_lst : isB "tuple" (.lst ds) = false := rfl
theorem isB_str_str {n : Str} : isB "str" (.str n) = true := rfl
theorem isB_str_int {n : Int} : isB "str" (.int n) = false := rfl
theorem ix_l0 : dIxA (.lst (d :: ds)) (.int 0) = .ok d := ixA_lst (by omega) rfl
theorem ix_t0 : dIxA (.tup (d :: ds)) (.int 0) = .ok d := ixA_tup (by omega) rfl
theorem atI_s {α : Type} {x : α} {xs : List α} {n : Int} (h : 0 < n) : L2.atI (x :: xs) n = L2.atI xs (n - 1) := by
  obtain ⟨k, rfl⟩ : ∃ k : Nat, n = (k : Int) + 1 := ⟨(n - 1).toNat, by omega⟩
  have e : (k : Int) + 1 - 1 = k := by omega
  have e0 : (0 : Int) ≤ (k : Int) + 1 := by omega
  have e1 : (0 : Int) ≤ (k : Int) := by omega
  unfold L2.atI L2.ixN
  rw [e, List.length_cons, if_pos e0, if_pos e1]
  by_cases hk : k < xs.length
  · have c1 : (k : Int) + 1 < ((xs.length + 1 : Nat) : Int) := by omega
    have c2 : (k : Int) < (xs.length : Int) := by omega
    rw [if_pos c1, if_pos c2]
    simp only [Option.bind_some]
    rw [show ((k : Int) + 1).toNat = k + 1 by omega, show ((k : Int)).toNat = k by omega]
    rfl
  · have c1 : ¬ (k : Int) + 1 < ((xs.length + 1 : Nat) : Int) := by omega
    have c2 : ¬ (k : Int) < (xs.length : Int) := by omega
    rw [if_neg c1, if_neg c2]
    rfl
theorem ix_ls {n : Int} (h : 0 < n) : dIxA (.lst (d :: ds)) (.int n) = dIxA (.lst ds) (.int (n - 1)) := by
  show (match L2.atI (d :: ds) n with | some d => R.ok d | none => R.bad) = (match L2.atI ds (n - 1) with | some d => R.ok d | none => R.bad)
  rw [atI_s h]
theorem ix_ts {n : Int} (h : 0 < n) : dIxA (.tup (d :: ds)) (.int n) = dIxA (.tup ds) (.int (n - 1)) := by
  show (match L2.atI (d :: ds) n with | some d => R.ok d | none => R.bad) = (match L2.atI ds (n - 1) with | some d => R.ok d | none => R.bad)
  rw [atI_s h]
theorem max_int {m n : Int} : dMax [.int m, .int n] = .ok (.int (if n > m then n else m)) := rfl
theorem min_int {m n : Int} : dMin [.int m, .int n] = .ok (.int (if n < m then n else m)) := rfl
theorem sum_ints (ns : List Int) : dSum [.lst (ns.map .int)] = .ok (.int ns.sum) := by
  show (match asInts (ns.map D.int) with | some ns => R.ok (D.int ns.sum) | none => R.bad) = _
  rw [asInts_map]
theorem sort_ints (ns : List Int) : dSorted [.lst (ns.map .int)] = .ok (.lst ((srt ns).map .int)) := by
  show (match asInts (ns.map D.int) with | some ns => R.ok (D.lst ((srt ns).map .int)) | none => match asStrs (ns.map D.int) with | some ss => grd (decide (ss.length < 64)) (R.ok (D.lst ((srtT ss).map .str))) | none => R.bad) = _
  rw [asInts_map]
theorem setOf_ints {ns : List Int} (h : ns.length ≤ 4000) : setOf [.lst (ns.map .int)] = .ok ns := by
  show (match asInts (ns.map D.int) with | some ns => grd (decide (ns.length ≤ 4000)) (R.ok ns) | none => R.bad) = _
  rw [asInts_map]
  simp only [decide_eq_true h, grd_t]
theorem lenS_ints {ns : List Int} (h : ns.length ≤ 4000) : lenS [.lst (ns.map .int)] = .ok (.int (uniq ns).length) := by unfold lenS; rw [setOf_ints h]; rfl
theorem sortS_ints {ns : List Int} (h : ns.length ≤ 4000) (h' : (uniq ns).length < 64) : sortS [.lst (ns.map .int)] = .ok (.lst ((srtS ns).map .int)) := by
  unfold sortS; rw [setOf_ints h, bd_ok, decide_eq_true h']; rfl
theorem itEnum_lst : itEnum [.lst ds] = .ok (enumD ds) := rfl
theorem itZip_lst : itZip [.lst ds, .lst es] = .ok (zipD ds es) := rfl
theorem itRev_lst : itRev [.lst ds] = .ok ds.reverse := rfl
def idxK (x y : R D) : R D := bd x fun d => match d with | .lst ds => bd y fun e => dIndex (.lst ds) e | _ => .bad
theorem rev_lst : dRevS (.lst ds) = .ok (.lst ds.reverse) := rfl
theorem maxDef_ints {ns : List Int} {m : Int} : dMaxDef (.lst (ns.map D.int)) (.int m) = .ok (.int (maxI ns m)) := by
  show (match asInts (ns.map D.int) with | some ns => R.ok (D.int (maxI ns m)) | none => .bad) = _
  rw [asInts_map]
def cntK (x y : R D) : R D := bd x fun d => match d with | .lst ds => bd y fun e => dCount (.lst ds) e | _ => .bad
theorem ap_cnt : cnt f g ρ = cntK (f ρ) (g ρ) := rfl
theorem cnt_ok : cntK (.ok (.lst ds)) (.ok e) = dCount (.lst ds) e := rfl
theorem ap_idx : idx f g ρ = idxK (f ρ) (g ρ) := rfl
theorem idx_ok : idxK (.ok (.lst ds)) (.ok d) = dIndex (.lst ds) d := rfl
theorem inSeq_flat {neg : Bool} (h : isFlat d = true) (h' : ds.all isFlat = true) : dIn neg d (.lst ds) = .ok (.bl (xorB neg (ds.any fun y => eqF y d))) := by
  show inSeq neg d ds = _
  unfold inSeq
  rw [h, h']
  rfl
theorem all_flat_ints (ns : List Int) : (ns.map D.int).all isFlat = true := by
  rw [List.all_eq_true]
  intro d hd
  obtain ⟨n, _, rfl⟩ := List.mem_map.mp hd
  rfl
theorem in_ints {neg : Bool} {n : Int} (ns : List Int) : dIn neg (.int n) (.lst (ns.map .int)) = .ok (.bl (xorB neg (decide (n ∈ ns)))) := by
  rw [inSeq_flat rfl (all_flat_ints ns)]
  congr 3
  rw [Bool.eq_iff_iff, List.any_map, List.any_eq_true, decide_eq_true_eq]
  constructor
  · rintro ⟨x, hx, e⟩
    have e : (x == n) = true := e
    rw [beq_iff_eq] at e
    exact e ▸ hx
  · intro h
    exact ⟨n, h, by show (n == n) = true; exact beq_self_eq_true n⟩
theorem ap_tst : tst f ρ = bd (f ρ) asB := rfl
theorem ap_bnot : bNot ft ρ = bd (ft ρ) fun c => .ok (!c) := rfl
def andK (x : R Bool) (g : En → R Bool) (ρ : En) : R Bool := bd x fun c => if c = true then g ρ else .ok false
def orK (x : R Bool) (g : En → R Bool) (ρ : En) : R Bool := bd x fun c => if c = true then .ok true else g ρ
theorem ap_band : bAnd ft gt ρ = andK (ft ρ) gt ρ := rfl
theorem ap_bor : bOr ft gt ρ = orK (ft ρ) gt ρ := rfl
theorem and_t : andK (.ok true) gt ρ = gt ρ := rfl
theorem and_f : andK (.ok false) gt ρ = .ok false := rfl
theorem or_t : orK (.ok true) gt ρ = .ok true := rfl
theorem or_f : orK (.ok false) gt ρ = gt ρ := rfl
def eAndK (x : R D) (g : En → R D) (ρ : En) : R D := bd x fun c => match c with | .bl true => g ρ | .bl false => .ok (.bl false) | _ => .bad
def eOrK (x : R D) (g : En → R D) (ρ : En) : R D := bd x fun c => match c with | .bl true => .ok (.bl true) | .bl false => g ρ | _ => .bad
theorem ap_eand : eAnd f g ρ = eAndK (f ρ) g ρ := rfl
theorem ap_eor : eOr f g ρ = eOrK (f ρ) g ρ := rfl
theorem eand_t : eAndK (.ok (.bl true)) g ρ = g ρ := rfl
theorem eand_f : eAndK (.ok (.bl false)) g ρ = .ok (.bl false) := rfl
theorem eor_t : eOrK (.ok (.bl true)) g ρ = .ok (.bl true) := rfl
theorem eor_f : eOrK (.ok (.bl false)) g ρ = g ρ := rfl
def eIfK (x : R Bool) (f g : En → R D) (ρ : En) : R D := bd x fun c => if c = true then f ρ else g ρ
theorem ap_eif : eIf ft f g ρ = eIfK (ft ρ) f g ρ := rfl
theorem eif_t : eIfK (.ok true) f g ρ = f ρ := rfl
theorem eif_f : eIfK (.ok false) f g ρ = g ρ := rfl
def chnK (x : R D) (y : D) (w' : D → D → R D) (k : En → R D) (ρ : En) : R D := bd x fun z => match z with | .bl true => bd (k ρ) fun u => w' y u | .bl false => .ok (.bl false) | _ => .bad
def chn0 (x y : R D) (w w' : D → D → R D) (k : En → R D) (ρ : En) : R D := bd x fun d => bd y fun e => chnK (w d e) e w' k ρ
theorem ap_chain {w w' : D → D → R D} : eChain w w' f g k ρ = chn0 (f ρ) (g ρ) w w' k ρ := by
  unfold eChain chn0
  rfl
theorem chn0_ok {w w' : D → D → R D} : chn0 (.ok d) (.ok e) w w' k ρ = chnK (w d e) e w' k ρ := rfl
theorem chn_t {w' : D → D → R D} : chnK (.ok (.bl true)) e w' k ρ = bd (k ρ) fun u => w' e u := rfl
theorem chn_f {w' : D → D → R D} : chnK (.ok (.bl false)) e w' k ρ = .ok (.bl false) := rfl
def slcK (x : R D) (l h : R (Option Int)) : R D := bd x fun d => bd l fun l => bd h fun h => dCut d l h
theorem ap_slc {l h : En → R (Option Int)} : slc f l h ρ = slcK (f ρ) (l ρ) (h ρ) := rfl
theorem slc_ok {l h : Option Int} : slcK (.ok d) (.ok l) (.ok h) = dCut d l h := rfl
theorem ap_pnone : pNone ρ = .ok none := rfl
theorem ap_psome : pSome f ρ = bd (f ρ) asI := rfl
theorem cut_lst {l h : Option Int} : dCut (.lst ds) l h = .ok (.lst (cutD ds l h)) := rfl
theorem cut_scr {ns : List Int} {l h : Option Int} : dCut (.scr ns) l h = .ok (.lst ((cutD ns l h).map .int)) := rfl
def loopK (x : R (List D)) (g : D → En → Option En) (gb : En → R Fl) (ρ : En) : R Fl := bd x fun ds => loopD g gb ds ρ
theorem ap_for {fi : En → R (List D)} {gg : D → En → Option En} {gb : En → R Fl} : sFor fi gg gb ρ = loopK (fi ρ) gg gb ρ := rfl
theorem loop_ok {gg : D → En → Option En} {gb : En → R Fl} : loopK (.ok ds) gg gb ρ = loopD gg gb ds ρ := rfl
def lp2 (x : R Fl) (g : D → En → Option En) (gb : En → R Fl) (ds : List D) : R Fl := bd x fun r => match r with
  | .next ρ' => loopD g gb ds ρ'
  | .cont ρ' => loopD g gb ds ρ'
  | .brk ρ' => .ok (.next ρ')
  | .ret o d => .ok (.ret o d)
def lp1 (x : Option En) (g : D → En → Option En) (gb : En → R Fl) (ds : List D) : R Fl := match x with
  | none => .bad
  | some ρ1 => lp2 (gb ρ1) g gb ds
theorem ap_loop0 {gg : D → En → Option En} {gb : En → R Fl} : loopD gg gb [] ρ = .ok (.next ρ) := rfl
theorem ap_loop1 {gg : D → En → Option En} {gb : En → R Fl} : loopD gg gb (d :: ds) ρ = lp1 (gg d ρ) gg gb ds := rfl
theorem lp1_ok {gg : D → En → Option En} {gb : En → R Fl} : lp1 (some ρ) gg gb ds = lp2 (gb ρ) gg gb ds := rfl
theorem lp2_next {gg : D → En → Option En} {gb : En → R Fl} : lp2 (.ok (.next ρ)) gg gb ds = loopD gg gb ds ρ := rfl
theorem lp2_cont {gg : D → En → Option En} {gb : En → R Fl} : lp2 (.ok (.cont ρ)) gg gb ds = loopD gg gb ds ρ := rfl
theorem lp2_brk {gg : D → En → Option En} {gb : En → R Fl} : lp2 (.ok (.brk ρ)) gg gb ds = .ok (.next ρ) := rfl
theorem lp2_ret {gg : D → En → Option En} {gb : En → R Fl} : lp2 (.ok (.ret o d)) gg gb ds = .ok (.ret o d) := rfl
theorem ap_itr : itr f ρ = bd (f ρ) itD := rfl
theorem ap_irg {w : List D → R (List D)} : irg fs w ρ = bd (fs ρ) w := rfl
theorem itD_lst : itD (.lst ds) = .ok ds := rfl
theorem itD_tup : itD (.tup ds) = .ok ds := rfl
theorem itD_scr {ns : List Int} : itD (.scr ns) = .ok (ns.map .int) := rfl
theorem itD_str {z : Str} : itD (.str z) = .ok (signs z) := rfl
theorem rng1_ap {n : Int} : rng1 [.int n] = grd (DL.inR n) (.ok ((List.range n.toNat).map fun (i : Nat) => D.int (0 + (i : Int)))) := rfl
theorem rng2_ap {m n : Int} : rng2 [.int m, .int n] = grd (DL.inR m && DL.inR n) (.ok ((List.range (n - m).toNat).map fun (i : Nat) => D.int (m + (i : Int)))) := rfl
def lcK (x : R (List D)) (own : List Nat) (g : D → En → Option En) (t : En → R Bool) (f : En → R D) (ρ : En) : R D := bd x fun ds => grd (decide (ds.length < sizeLine)) (bd (lcGo g t f (wipeR ρ own) ds) fun zs => .ok (.lst zs))
theorem ap_lc {own : List Nat} {fi : En → R (List D)} {gg : D → En → Option En} : lcD own fi gg ft f ρ = lcK (fi ρ) own gg ft f ρ := rfl
theorem lc_is {own : List Nat} {gg : D → En → Option En} {zs : List D} (hl : ds.length ≤ 1000000) (h : lcGo gg ft f (wipeR ρ own) ds = .ok zs) : lcK (.ok ds) own gg ft f ρ = .ok (.lst zs) := by
  unfold lcK
  rw [bd_ok, lt_size hl, grd_t, h]
  rfl
theorem wipe_nil : wipeR ρ [] = ρ := rfl
theorem wipe_cons {is : List Nat} : wipeR ρ (i :: is) = (wipeR ρ is).set i none := rfl
theorem lcS_all {gg : D → En → Option En} {ρ1 : En} {z : D} (hg : gg d ρ = some ρ1) (hf : f ρ1 = .ok z) : lcStep gg tYesD f ρ d = .ok (some z) := by
  unfold lcStep
  rw [hg]
  dsimp only [tYesD]
  rw [hf]
theorem lcS_t {gg : D → En → Option En} {ρ1 : En} {z : D} (hg : gg d ρ = some ρ1) (ht : ft ρ1 = .ok true) (hf : f ρ1 = .ok z) : lcStep gg ft f ρ d = .ok (some z) := by
  unfold lcStep
  rw [hg]
  dsimp only
  rw [ht]
  dsimp only
  rw [hf]
theorem lcS_f {gg : D → En → Option En} {ρ1 : En} (hg : gg d ρ = some ρ1) (ht : ft ρ1 = .ok false) : lcStep gg ft f ρ d = .ok none := by
  unfold lcStep
  rw [hg]
  dsimp only
  rw [ht]
def appK (x : Option Slot) (y : R D) (i : Nat) (ρ : En) : R Fl := match x with
  | some (some (true, .lst ds)) => bd y fun z => grd (decide (ds.length < sizeLine)) (.ok (.next (ρ.set i (some (true, .lst (ds ++ [z]))))))
  | _ => .bad
theorem ap_app : sAppend i f ρ = appK ρ[i]? (f ρ) i ρ := rfl
theorem app_ok (h : ds.length ≤ 1000000) : appK (some (some (true, .lst ds))) (.ok d) i ρ = .ok (.next (ρ.set i (some (true, .lst (ds ++ [d]))))) := by
  show bd (.ok d) (fun z => grd (decide (ds.length < sizeLine)) (R.ok (Fl.next (ρ.set i (some (true, .lst (ds ++ [z]))))))) = _
  rw [bd_ok, lt_size h]
  rfl
def extK (x : Option Slot) (y : R D) (i : Nat) (ρ : En) : R Fl := match x with
  | some (some (true, .lst ds)) => bd y fun z => match z with | .lst es => grd (small (ds.length + es.length)) (.ok (.next (ρ.set i (some (true, .lst (ds ++ es)))))) | _ => .bad
  | _ => .bad
theorem ap_ext : sExtend i f ρ = extK ρ[i]? (f ρ) i ρ := rfl
def own0K (x : Option Slot) (w : List D → List D) (i : Nat) (ρ : En) : R Fl := match x with
  | some (some (true, .lst ds)) => .ok (.next (ρ.set i (some (true, .lst (w ds)))))
  | _ => .bad
theorem ap_own0 {w : List D → List D} : sOwn0 i w ρ = own0K ρ[i]? w i ρ := rfl
theorem own0_ok {w : List D → List D} : own0K (some (some (true, .lst ds))) w i ρ = .ok (.next (ρ.set i (some (true, .lst (w ds))))) := rfl
def putK' (x : Option Slot) (y z : R D) (i : Nat) (ρ : En) : R Fl := match x with
  | some (some (true, d)) => bd y fun v => bd z fun q => bd (putA d q v) fun d' => .ok (.next (ρ.set i (some (true, d'))))
  | _ => .bad
theorem ap_put : sPut i f g ρ = putK' ρ[i]? (f ρ) (g ρ) i ρ := rfl
def put2K (x : R D) (i : Nat) (ρ : En) : R Fl := bd x fun d' => .ok (.next (ρ.set i (some (true, d'))))
theorem put_ok {z : D} : putK' (some (some (true, z))) (.ok d) (.ok e) i ρ = put2K (putA z e d) i ρ := rfl
theorem put2_ok : put2K (.ok d) i ρ = .ok (.next (ρ.set i (some (true, d)))) := rfl
theorem itZipL_lst : itZipL [.lst ds, .lst es] = .ok (zipD ds es) := rfl
def insK (x : Option Slot) (y z : R D) (i : Nat) (ρ : En) : R Fl := match x with
  | some (some (true, .lst ds)) => bd y fun q => bd z fun z => match q with
    | .int j => grd (decide (ds.length < sizeLine) && decide (0 ≤ j) && decide (j < 2 ^ 63)) (.ok (.next (ρ.set i (some (true, .lst (ds.take j.toNat ++ [z] ++ ds.drop j.toNat))))))
    | _ => .bad
  | _ => .bad
theorem ap_ins : sInsert i g f ρ = insK ρ[i]? (g ρ) (f ρ) i ρ := rfl
theorem intB_bl {b : Bool} : dIntB [.bl b] = .ok (.int (if b then 1 else 0)) := rfl
theorem intB_int {n : Int} : dIntB [.int n] = .ok (.int n) := rfl
theorem ap_nrmS {is : List Nat} : sNrm is s ρ = s (nrm ρ is) := rfl
theorem nrm_nil : nrm ρ [] = ρ := rfl
def nrmK (x : Option Slot) (i : Nat) (is : List Nat) (ρ : En) : En := match x with
  | some (some (true, .rows rs)) => nrm (ρ.set i (some (true, .lst rs))) is
  | some (some (false, .rows rs)) => nrm (ρ.set i (some (false, .lst rs))) is
  | _ => nrm ρ is
theorem nrm_cons {is : List Nat} : nrm ρ (i :: is) = nrmK ρ[i]? i is ρ := rfl
theorem nrm_rows {is : List Nat} : nrmK (some (some (b, .rows ds))) i is ρ = nrm (ρ.set i (some (b, .lst ds))) is := by cases b <;> rfl
theorem nrm_lst {is : List Nat} : nrmK (some (some (b, .lst ds))) i is ρ = nrm ρ is := by cases b <;> rfl
theorem isC_rows : isC (.rows ds) = true := rfl
theorem len_rows : dLen [.rows ds] = .ok (.int ds.length) := rfl
theorem unR_rows : unR (.rows ds) = .ok (.lst ds) := rfl
theorem unR_lst : unR (.lst ds) = .ok (.lst ds) := rfl
theorem isi_rows : isiD "list" (.rows ds) = .ok (.bl true) := rfl
theorem eq_rows {neg : Bool} : dEq neg (.rows ds) (.lst es) = dEq neg (.lst ds) (.lst es) := by
  show deepEq neg _ _ = deepEq neg _ _
  unfold deepEq
  rw [show py (.rows ds) = py (.lst ds) by unfold py; rfl]
theorem ixR_at {j : Int} (h0 : 0 ≤ j) (h : ds[j.toNat]? = some d) : dIxR (.rows ds) (.int j) = .ok d := by
  have hl := (List.getElem?_eq_some_iff.mp h).1
  show (match L2.atI ds j with | some d => R.ok d | none => .bad) = _
  have : L2.atI ds j = some d := by
    unfold L2.atI L2.ixN
    rw [if_pos h0, if_pos (by omega)]
    exact h
  rw [this]
theorem rowAt_of {j : Int} (h0 : 0 ≤ j) (h : ds[j.toNat]? = some (.lst es)) : rowAt ds j = some (j.toNat, es) := by
  have hl := (List.getElem?_eq_some_iff.mp h).1
  have : L2.ixN ds.length j = some j.toNat := by
    unfold L2.ixN
    rw [if_pos h0, if_pos (by omega)]
  unfold rowAt
  rw [this]
  dsimp only
  rw [h]
def rowMK (x : Option Slot) (y z : R D) (w : List D → D → R (List D)) (i : Nat) (ρ : En) : R Fl := match x with
  | some (some (true, .rows rs)) => bd y fun q => match q with
    | .int j => match rowAt rs j with
      | some (m, xs) => bd z fun z => bd (w xs z) fun xs' => .ok (.next (ρ.set i (some (true, .rows (rs.set m (.lst xs'))))))
      | none => .bad
    | _ => .bad
  | _ => .bad
def rowM2 (x : Option (Nat × List D)) (rs : List D) (z : R D) (w : List D → D → R (List D)) (i : Nat) (ρ : En) : R Fl := match x with
  | some (m, xs) => bd z fun z => bd (w xs z) fun xs' => .ok (.next (ρ.set i (some (true, .rows (rs.set m (.lst xs'))))))
  | none => .bad
def rowM3 (x : R (List D)) (m : Nat) (rs : List D) (i : Nat) (ρ : En) : R Fl := bd x fun xs' => .ok (.next (ρ.set i (some (true, .rows (rs.set m (.lst xs'))))))
theorem ap_rowM {w : List D → D → R (List D)} : sRowM i g f w ρ = rowMK ρ[i]? (g ρ) (f ρ) w i ρ := rfl
theorem rowM_ok {w : List D → D → R (List D)} {j : Int} {z : R D} : rowMK (some (some (true, .rows ds))) (.ok (.int j)) z w i ρ = rowM2 (rowAt ds j) ds z w i ρ := rfl
theorem rowM2_ok {w : List D → D → R (List D)} {m : Nat} {xs rs : List D} : rowM2 (some (m, xs)) rs (.ok d) w i ρ = rowM3 (w xs d) m rs i ρ := rfl
theorem rowM3_ok {m : Nat} {xs rs : List D} : rowM3 (.ok xs) m rs i ρ = .ok (.next (ρ.set i (some (true, .rows (rs.set m (.lst xs)))))) := rfl
theorem wApp_ok (h : ds.length ≤ 1000000) : wAppend ds d = .ok (ds ++ [d]) := by
  unfold wAppend
  rw [lt_size h]; rfl
theorem wRem_ok {ns : List Int} {n : Int} (h : n ∈ ns) : wRemove (ns.map .int) (.int n) = .ok ((ns.erase n).map .int) := by
  unfold wRemove
  rw [asInts_map]
  show grd (decide (n ∈ ns)) _ = _
  rw [decide_eq_true h]; rfl
def row0K (x : Option Slot) (y : R D) (w : List D → List D) (i : Nat) (ρ : En) : R Fl := match x with
  | some (some (true, .rows rs)) => bd y fun q => match q with
    | .int j => match rowAt rs j with
      | some (m, xs) => .ok (.next (ρ.set i (some (true, .rows (rs.set m (.lst (w xs)))))))
      | none => .bad
    | _ => .bad
  | _ => .bad
def row02 (x : Option (Nat × List D)) (rs : List D) (w : List D → List D) (i : Nat) (ρ : En) : R Fl := match x with
  | some (m, xs) => .ok (.next (ρ.set i (some (true, .rows (rs.set m (.lst (w xs)))))))
  | none => .bad
theorem ap_row0 {w : List D → List D} : sRow0 i g w ρ = row0K ρ[i]? (g ρ) w i ρ := rfl
theorem row0_ok {w : List D → List D} {j : Int} : row0K (some (some (true, .rows ds))) (.ok (.int j)) w i ρ = row02 (rowAt ds j) ds w i ρ := rfl
theorem row02_ok {w : List D → List D} {m : Nat} {xs rs : List D} : row02 (some (m, xs)) rs w i ρ = .ok (.next (ρ.set i (some (true, .rows (rs.set m (.lst (w xs))))))) := rfl
def rowsAppK (x : Option Slot) (y : R D) (i : Nat) (ρ : En) : R Fl := match x with
  | some (some (true, .rows rs)) => bd y fun z => match z with
    | .lst xs => grd (decide (rs.length < sizeLine)) (.ok (.next (ρ.set i (some (true, .rows (rs ++ [.lst xs]))))))
    | _ => .bad
  | _ => .bad
theorem ap_rowsApp : sRowsApp i f ρ = rowsAppK ρ[i]? (f ρ) i ρ := rfl
def rowPutK (x : Option Slot) (y z : R D) (i : Nat) (ρ : En) : R Fl := match x with
  | some (some (true, .rows rs)) => bd y fun z' => bd z fun q => match z', q with
    | .lst xs, .int j => match L2.ixN rs.length j with
      | some m => .ok (.next (ρ.set i (some (true, .rows (rs.set m (.lst xs))))))
      | none => .bad
    | _, _ => .bad
  | _ => .bad
theorem ap_rowPut : sRowPut i f g ρ = rowPutK ρ[i]? (f ρ) (g ρ) i ρ := rfl
def rowPut2 (x : Option Nat) (rs xs : List D) (i : Nat) (ρ : En) : R Fl := match x with
  | some m => .ok (.next (ρ.set i (some (true, .rows (rs.set m (.lst xs))))))
  | none => .bad
theorem rowPut_ok {xs : List D} {j : Int} : rowPutK (some (some (true, .rows ds))) (.ok (.lst xs)) (.ok (.int j)) i ρ = rowPut2 (L2.ixN ds.length j) ds xs i ρ := rfl
theorem rowPut2_ok {rs xs : List D} {m : Nat} : rowPut2 (some m) rs xs i ρ = .ok (.next (ρ.set i (some (true, .rows (rs.set m (.lst xs)))))) := rfl
theorem ixN_of {n : Nat} {j : Int} (h0 : 0 ≤ j) (h : j < n) : L2.ixN n j = some j.toNat := by
  unfold L2.ixN
  rw [if_pos h0, if_pos (by omega)]
def consLK (x : R D) (y : R (List D)) : R (List D) := bd x fun d => match d with
  | .lst xs => bd y fun ds => .ok (.lst xs :: ds)
  | _ => .bad
theorem ap_consL : aConsL f fs ρ = consLK (f ρ) (fs ρ) := rfl
theorem consL_ok {xs : List D} : consLK (.ok (.lst xs)) (.ok ds) = .ok (.lst xs :: ds) := rfl
theorem mkRows_ap : mkRows ds = grd (small ds.length) (.ok (.rows ds)) := rfl
def lcRK (x : R (List D)) (own : List Nat) (g : D → En → Option En) (t : En → R Bool) (f : En → R D) (ρ : En) : R D := bd x fun ds => grd (decide (ds.length < sizeLine)) (bd (lcGoR g t f (wipeR ρ own) ds) fun zs => .ok (.rows zs))
theorem ap_lcR {own : List Nat} {fi : En → R (List D)} {gg : D → En → Option En} : lcR own fi gg ft f ρ = lcRK (fi ρ) own gg ft f ρ := rfl
theorem lcR_is {own : List Nat} {gg : D → En → Option En} {zs : List D} (hl : ds.length ≤ 1000000) (h : lcGo gg ft f (wipeR ρ own) ds = .ok zs) (hz : ∀ z ∈ zs, ∃ xs, z = .lst xs) : lcRK (.ok ds) own gg ft f ρ = .ok (.rows zs) := by
  unfold lcRK lcGoR
  rw [bd_ok, lt_size hl, grd_t, h, bd_ok]
  have : zs.all isL = true := List.all_eq_true.mpr fun z hm => by
    obtain ⟨xs, rfl⟩ := hz z hm
    rfl
  rw [this]
  rfl
theorem callE_of {den : Den} (h : den ds = .ok (o, d)) : callE den ds = .ok d := by unfold callE; rw [h]; rfl
theorem callO_of {den : Den} (h : den ds = .ok (o, d)) (hc : (o || !isC d) = true) : callO den ds = .ok d := by unfold callO; rw [h]; show grd (o || !isC d) (R.ok d) = _; rw [hc]; rfl
theorem callO_flat {den : Den} (h : den ds = .ok (o, d)) (hc : isC d = false) : callO den ds = .ok d := callO_of h (by rw [hc]; cases o <;> rfl)
theorem ap_bodyV {n N : Nat} {gg : List D → En → R Fl} (h : ds.length = n) : bodyV n N gg ds = endD (noE (gg ds (List.replicate (n + (N - n)) none))) := by unfold bodyV; rw [if_pos h]
theorem ap_body {n N : Nat} {gg : En → R Fl} (h : ds.length = n) : bodyN n N gg ds = endD (noE (gg (args N ds))) := by unfold bodyN; rw [if_pos h]
theorem end_ret : endD (noE (.ok (.ret o d))) = .ok (o, d) := rfl
theorem end_next : endD (noE (.ok (.next ρ))) = .ok (false, .non) := rfl
theorem args_ap {N : Nat} : args N ds = ds.map (fun d => some (false, d)) ++ List.replicate (N - ds.length) none := rfl
end
def get2K (x y z : R D) : R D := bd x fun d => grd (isDD d) (bd y fun q => bd z fun e => dGet2 d q e)
theorem ap_get2 {k : En → R D} : get2 f g k ρ = get2K (f ρ) (g ρ) (k ρ) := rfl
theorem get2_ok {q z : D} {kds : List (Key × D)} : get2K (.ok (.dK kds)) (.ok q) (.ok z) = dGet2 (.dK kds) q z := rfl
end DL
namespace DL
open PySem PySem.Spec PyProof.Rows L2
section
variable {X : Cx} {C : Cd} {e a b c tg : Expr} {es : List Expr} {f g k : En → R D} {fs : En → R (List D)} {pos p p2 q apos cpos : Pos} {K : Kx} {F H : Hp} {kk : Nat}
def dLR1 : D → R D
  | .int n => grd (DL.inR n && small n.toNat) (.ok (.lst ((List.range n.toNat).map fun (i : Nat) => D.int (0 + (i : Int)))))
  | _ => .bad
def dJoin (z : Str) : D → R D
  | .lst ds => match asStrs ds with
    | some ys => grd (decide ((ys.map fun y : Str => y.length).sum + ys.length * z.length ≤ 16777216)) (.ok (.str (Str.join z ys)))
    | none => .bad
  | _ => .bad
def jop (f g : En → R D) : En → R D := fun ρ => bd (f ρ) fun d => match d with
  | .str z => bd (g ρ) (dJoin z)
  | _ => .bad
end
theorem lr1_ok {n : Int} (h : n ≤ 1000000) (h' : -1000000 ≤ n) : dLR1 (.int n) = .ok (.lst ((List.range n.toNat).map fun (i : Nat) => D.int (0 + (i : Int)))) := by
  show grd (DL.inR n && small n.toNat) _ = _
  rw [inR_small (by omega) (by omega), small_of (by omega)]; rfl
section
variable {X : Cx} {C : Cd} {e a b c tg : Expr} {es : List Expr} {f g k : En → R D} {fs : En → R (List D)} {pos p p2 q apos cpos : Pos} {K : Kx} {F H : Hp} {kk : Nat}
theorem d_listR1 (hc : X.calm = true) (hm : X.mg "list" = none) (hm2 : X.mg "range" = none) (ha : PE X a (tR C f)) (hg : Gl X "list" := by rfl) (hg2 : Gl X "range" := by rfl)
    (hs : starEach [a] X.env = (false, eval a X.env) :: starEach [] X.env := by rfl) (hs2 : starEach [.Call (.Name "range" p2) [a] [] q] X.env = (false, eval (.Call (.Name "range" p2) [a] [] q) X.env) :: starEach [] X.env := by rfl) :
    PE X (.Call (.Name "list" p) [.Call (.Name "range" p2) [a] [] q] [] pos) (tO C (uop f dLR1)) := (pe_listRg hc hg hm (prg_1 hg2 hm2 ha hs) hs2).mono fun σ H Q ⟨ρ, F, r, o⟩ => ⟨ρ, F, r, o.fst fun d v F1 H1 _ o x1 s1 w1 => by
      cases d with
      | int n =>
        obtain rfl : v = V.int _ := w1
        have o := Out.later o x1
        obtain ⟨z, o⟩ := grd_out o
        rw [Bool.and_eq_true] at z
        obtain ⟨h1, h2⟩ := inR_of z.1
        have h3 : n.toNat ≤ sizeLine := of_decide_eq_true z.2
        refine ⟨n, rfl, ⟨by decide, by decide, h1, h2, by rw [sizeLine_eq] at h3; omega⟩, fun z hz => fin_lst o s1 x1.h ?_ hz⟩
        have e : rgV 0 n = ((List.range n.toNat).map fun (i : Nat) => (0 + (i : Int))).map V.int := by
          unfold rgV
          rw [List.map_map, Int.sub_zero]
          rfl
        have e2 : ((List.range n.toNat).map fun (i : Nat) => D.int (0 + (i : Int))) = ((List.range n.toNat).map fun (i : Nat) => (0 + (i : Int))).map D.int := by
          rw [List.map_map]
          rfl
        rw [e, e2]
        exact Reps.of_ints _
      | _ => exact o.elim⟩
end
end DL
namespace DL
open PySem PySem.Spec PyProof.Rows L2
abbrev DenM := List D → R (D × List D)
def ioOf (ρ : En) : List Nat → Option (List D)
  | [] => some []
  | i :: is => match ρ[i]? with
    | some (some (true, d)) => (ioOf ρ is).map (d :: ·)
    | _ => none
def rdI (i : Nat) : En → R D := fun ρ => match ρ[i]? with
  | some (some (true, d)) => .ok d
  | _ => .bad
def retMK (x : R D) (es : Option (List D)) : R Fl := bd x fun d => match es with | some es => .ok (.ret false (.tup (d :: es))) | none => .bad
def sRetM (io : List Nat) (f : En → R D) : En → R Fl := fun ρ => retMK (f ρ) (ioOf ρ io)
def endMK (es : Option (List D)) : R (D × List D) := match es with | some es => .ok (.non, es) | none => .bad
def endM (io : List Nat) : R Fl → R (D × List D)
  | .ok (.next ρ) => endMK (ioOf ρ io)
  | .ok (.ret false (.tup (d :: es))) => .ok (d, es)
  | _ => .bad
def putIO (ρ : En) : List Nat → List D → Option En
  | [], [] => some ρ
  | i :: is, d :: ds => putIO (ρ.set i (some (true, d))) is ds
  | _, _ => none
def putMK (d : D) (x : Option En) : R (D × En) := match x with | some ρ' => .ok (d, ρ') | none => .bad
def callM2 (x : R (D × List D)) (ios : List Nat) (ρ : En) : R (D × En) := bd x fun r => putMK r.1 (putIO ρ ios r.2)
def noErr {α : Type} : R α → R α
  | .ok a => .ok a
  | _ => .bad
def callM (den : DenM) (fs : En → R (List D)) (ios : List Nat) : En → R (D × En) := fun ρ => noErr (bd (fs ρ) fun ds => if (ioOf ρ ios).isSome = true then callM2 (den ds) ios ρ else .bad)
def setMK (x : R (D × En)) (i : Nat) : R Fl := bd x fun r => .ok (.next (r.2.set i (some (false, r.1))))
def sSetM (i : Nat) (c : En → R (D × En)) : En → R Fl := fun ρ => setMK (c ρ) i
theorem endM_next {io : List Nat} {ρ : En} {es : List D} (h : ioOf ρ io = some es) : endM io (noE (.ok (.next ρ))) = .ok (.non, es) := by
  show endMK (ioOf ρ io) = _
  rw [h]; rfl
theorem endM_ret {io : List Nat} {d : D} {es : List D} : endM io (noE (.ok (.ret false (.tup (d :: es))))) = .ok (d, es) := rfl
theorem ap_retM {io : List Nat} {f : En → R D} {ρ : En} : sRetM io f ρ = retMK (f ρ) (ioOf ρ io) := rfl
theorem callM_of {den : DenM} {fs : En → R (List D)} {ios : List Nat} {ρ ρ' : En} {ds es es0 : List D} {d : D} (h1 : fs ρ = .ok ds) (h2 : ioOf ρ ios = some es0) (h3 : den ds = .ok (d, es)) (h4 : putIO ρ ios es = some ρ') : callM den fs ios ρ = .ok (d, ρ') := by
  unfold callM
  rw [h1, bd_ok, h2]
  show noErr (if true = true then callM2 (den ds) ios ρ else .bad) = _
  rw [if_pos rfl]
  unfold callM2
  rw [h3, bd_ok]
  show noErr (putMK d (putIO ρ ios es)) = _
  rw [h4]; rfl
theorem ap_setM {i : Nat} {c : En → R (D × En)} {ρ : En} : sSetM i c ρ = setMK (c ρ) i := rfl
theorem setM_ok {i : Nat} {d : D} {ρ : En} : setMK (.ok (d, ρ)) i = .ok (.next (ρ.set i (some (false, d)))) := rfl
section
variable {K : Kx} {F F' H H' H0 : Hp}
theorem feet_mem : ∀ {as : List Addr} {ds : List D} {k : Nat} {a : Addr} {d : D} {c : Addr}, as[k]? = some a → ds[k]? = some d → c ∈ foot H a d → c ∈ feet H as ds
  | a0 :: as, d0 :: ds, 0, a, d, c, h1, h2, h => by cases h1; cases h2; exact List.mem_append_left _ h
  | a0 :: as, d0 :: ds, k + 1, a, d, c, h1, h2, h => List.mem_append_right _ (feet_mem (as := as) (ds := ds) (k := k) h1 h2 h)
  | [], _, _, _, _, _, h1, _, _ => by simp at h1
  | _ :: _, [], _, _, _, _, _, h2, _ => by simp at h2
theorem feet_out : ∀ {as : List Addr} {ds : List D} {c : Addr}, c ∈ feet H as ds → ∃ (k : Nat) (a : Addr) (d : D), as[k]? = some a ∧ ds[k]? = some d ∧ c ∈ foot H a d
  | a0 :: as, d0 :: ds, c, h => by
    rcases List.mem_append.mp h with h | h
    · exact ⟨0, a0, d0, rfl, rfl, h⟩
    · obtain ⟨k, a, d, h1, h2, h3⟩ := feet_out h
      exact ⟨k + 1, a, d, h1, h2, h3⟩
  | [], _, _, h => nomatch h
  | _ :: _, [], _, h => nomatch h
theorem feet_nd : ∀ {as : List Addr} {ds : List D} {k : Nat} {a : Addr} {d : D}, (feet H as ds).Nodup → as[k]? = some a → ds[k]? = some d → (foot H a d).Nodup
  | a0 :: as, d0 :: ds, 0, a, d, h, h1, h2 => by cases h1; cases h2; exact (List.nodup_append.mp h).1
  | a0 :: as, d0 :: ds, k + 1, a, d, h, h1, h2 => feet_nd (as := as) (ds := ds) (k := k) (List.nodup_append.mp h).2.1 h1 h2
  | [], _, _, _, _, _, h1, _ => by simp at h1
  | _ :: _, [], _, _, _, _, _, h2 => by simp at h2
theorem feet_apart : ∀ {as : List Addr} {ds : List D} {k k' : Nat} {a a' : Addr} {d d' : D} {c : Addr}, (feet H as ds).Nodup → as[k]? = some a → ds[k]? = some d → as[k']? = some a' → ds[k']? = some d' → c ∈ foot H a d → c ∈ foot H a' d' → k = k'
  | a0 :: as, d0 :: ds, 0, 0, _, _, _, _, _, _, _, _, _, _, _, _ => rfl
  | a0 :: as, d0 :: ds, 0, k' + 1, a, a', d, d', c, h, h1, h2, h3, h4, h5, h6 => by
    cases h1; cases h2
    exact absurd rfl ((List.nodup_append.mp h).2.2 c h5 c (feet_mem (as := as) (ds := ds) (k := k') h3 h4 h6))
  | a0 :: as, d0 :: ds, k + 1, 0, a, a', d, d', c, h, h1, h2, h3, h4, h5, h6 => by
    cases h3; cases h4
    exact absurd rfl ((List.nodup_append.mp h).2.2 c h6 c (feet_mem (as := as) (ds := ds) (k := k) h1 h2 h5))
  | a0 :: as, d0 :: ds, k + 1, k' + 1, a, a', d, d', c, h, h1, h2, h3, h4, h5, h6 => congrArg (· + 1) (feet_apart (as := as) (ds := ds) (k := k) (k' := k') (List.nodup_append.mp h).2.1 h1 h2 h3 h4 h5 h6)
  | [], _, _, _, _, _, _, _, _, _, h1, _, _, _, _, _ => by simp at h1
  | _ :: _, [], _, _, _, _, _, _, _, _, _, h2, _, _, _, _ => by simp at h2
theorem feet_nd_of : ∀ {as : List Addr} {ds : List D}, (∀ (k : Nat) (a : Addr) (d : D), as[k]? = some a → ds[k]? = some d → (foot H a d).Nodup) →
    (∀ (k k' : Nat) (a a' : Addr) (d d' : D) (c : Addr), as[k]? = some a → ds[k]? = some d → as[k']? = some a' → ds[k']? = some d' → c ∈ foot H a d → c ∈ foot H a' d' → k = k') → (feet H as ds).Nodup
  | [], _, _, _ => List.nodup_nil
  | _ :: _, [], _, _ => List.nodup_nil
  | a :: as, d :: ds, h, g => by
    refine List.nodup_append.mpr ⟨h 0 a d rfl rfl, feet_nd_of (fun k a' d' h1 h2 => h (k + 1) a' d' h1 h2) (fun k k' a1 a2 d1 d2 c h1 h2 h3 h4 h5 h6 => Nat.succ.inj (g (k + 1) (k' + 1) a1 a2 d1 d2 c h1 h2 h3 h4 h5 h6)), fun c hc c' hc' e => ?_⟩
    subst e
    obtain ⟨k, a', d', h1, h2, h3⟩ := feet_out hc'
    exact absurd (g 0 (k + 1) a a' d d' c rfl rfl h1 h2 hc h3) (by omega)
def minus (H : Hp) (S : List Addr) : Hp := fun b => if b ∈ S then none else H b
theorem minus_in {S : List Addr} {b : Addr} (h : b ∈ S) : minus H S b = none := if_pos h
theorem minus_out {S : List Addr} {b : Addr} (h : b ∉ S) : minus H S b = H b := if_neg h
theorem same_minus {S : List Addr} : Same (minus H S) H := fun b u e => by
  by_cases h : b ∈ S
  · rw [minus_in h] at e; cases e
  · rw [minus_out h] at e; exact e
theorem same_minus_of {S : List Addr} (s : Same F H) (n : ∀ b ∈ S, F b = none) : Same F (minus H S) := fun b u e => by
  rw [minus_out fun h => by rw [n b h] at e; cases e]
  exact s b u e
end
def ioDs (io : List Nat) (ds : List D) : List D := io.map fun i => (ds[i]?).getD .non
structure ArgsM (K : Kx) (F H : Hp) (n : Nat) (io : List Nat) (ds : List D) (vs : List V) : Prop where
  sub : Same F (minus H (feet H (ioAs io vs) (ioDs io ds)))
  len : ds.length = n
  at_ : ∀ i ∈ io, i < n ∧ vs[i]? = some (.ref (addrAt vs i))
  own : OwnAll K F H (fun _ => none) (ioAs io vs) (ioDs io ds)
  rest : ∀ i, i < n → i ∉ io → ∃ d v, ds[i]? = some d ∧ vs[i]? = some v ∧ View K F (minus H (feet H (ioAs io vs) (ioDs io ds))) d v
theorem ioAs_get {io : List Nat} {vs : List V} {k i : Nat} (h : io[k]? = some i) : (ioAs io vs)[k]? = some (addrAt vs i) := by
  unfold ioAs
  rw [List.getElem?_map, h]; rfl
theorem ioDs_get {io : List Nat} {ds : List D} {k i : Nat} {d : D} (h : io[k]? = some i) (hd : ds[i]? = some d) : (ioDs io ds)[k]? = some d := by
  unfold ioDs
  rw [List.getElem?_map, h]
  show some ((ds[i]?).getD .non) = _
  rw [hd]; rfl
theorem start_get {N : List Str} {vs : List V} {i : Nat} {v : V} (h : vs[i]? = some v) : (L2.start N vs)[i]? = some (some v) := by
  unfold L2.start
  have hi : i < vs.length := (List.getElem?_eq_some_iff.mp h).1
  rw [List.getElem?_append_left (by rw [List.length_map]; exact hi), List.getElem?_map, h]
  rfl
theorem ioOf_get : ∀ {ρ : En} {io : List Nat} {es : List D}, ioOf ρ io = some es → es.length = io.length ∧ ∀ (k i : Nat), io[k]? = some i → ∃ e, es[k]? = some e ∧ ρ[i]? = some (some (true, e))
  | ρ, [], es, h => by
    cases h
    exact ⟨rfl, fun k i h => by simp at h⟩
  | ρ, i :: is, es, h => by
    unfold ioOf at h
    split at h
    · rename_i d hd
      cases hq : ioOf ρ is with
      | none => rw [hq] at h; cases h
      | some fs =>
        rw [hq] at h
        cases h
        obtain ⟨h1, h2⟩ := ioOf_get hq
        refine ⟨congrArg (· + 1) h1, fun k j hk => ?_⟩
        cases k with
        | zero => cases hk; exact ⟨d, rfl, hd⟩
        | succ k => exact h2 k j hk
    · cases h
section
variable {X : Cx} {C : Cd} {e : Expr} {es : List Expr} {f : En → R D} {fs : En → R (List D)} {pos p : Pos} {kk n : Nat} {fa : Addr} {fd : FuncData} {ps : List Str} {x : Str} {cls : Str → Addr} {den : DenM} {CX : CXT} {E : XK} {ρ : En} {σ : L2.St} {F H : Hp} {io ios : List Nat} {ds : List D} {vs : List V}
inductive AK where
  | io (j : Nat) | own (j : Nat) | ln (j : Nat) | e | vw
  deriving DecidableEq
def ArgOk (C : Cd) (ρ : En) (σ : L2.St) (F : Hp) : AK → D → V → Prop
  | .io j, d, v => ρ[j]? = some (some (true, d)) ∧ σ[j]? = some (some v)
  | .own j, d, v => ∃ b, ρ[j]? = some (some (b, d)) ∧ σ[j]? = some (some v)
  | .ln j, d, v => C.ln j = some (d, v)
  | .e, d, v => Rep C.K F d v
  | .vw, d, v => View C.K C.F0 (jn C.H0 C.F0) d v
inductive ArgsOk (C : Cd) (ρ : En) (σ : L2.St) (F : Hp) : List AK → List D → List V → Prop
  | nil : ArgsOk C ρ σ F [] [] []
  | cons {k : AK} {d : D} {v : V} {ks : List AK} {ds : List D} {vs : List V} : ArgOk C ρ σ F k d v → ArgsOk C ρ σ F ks ds vs → ArgsOk C ρ σ F (k :: ks) (d :: ds) (v :: vs)
theorem ArgsOk.lens {ks : List AK} : ∀ {ks : List AK} {ds : List D} {vs : List V}, ArgsOk C ρ σ F ks ds vs → ds.length = ks.length ∧ vs.length = ks.length
  | _, _, _, .nil => ⟨rfl, rfl⟩
  | _, _, _, .cons _ t => ⟨congrArg (· + 1) (ArgsOk.lens (ks := []) t).1, congrArg (· + 1) (ArgsOk.lens (ks := []) t).2⟩
theorem ArgsOk.get : ∀ {ks : List AK} {ds : List D} {vs : List V} {i : Nat} {k : AK}, ArgsOk C ρ σ F ks ds vs → ks[i]? = some k → ∃ d v, ds[i]? = some d ∧ vs[i]? = some v ∧ ArgOk C ρ σ F k d v
  | _, _, _, _, _, .nil, h => by simp at h
  | _, _, _, 0, _, .cons r _, h => by cases h; exact ⟨_, _, rfl, rfl, r⟩
  | _, _, _, i + 1, _, .cons _ t, h => ArgsOk.get (i := i) t h
def tAM (C : Cd) (ks : List AK) (fs : En → R (List D)) : TA := fun σ H Q => ∃ ρ F, Rel C ρ σ F H ∧ match fs ρ with
  | .ok ds => ∀ vs F' H', Ext F H F' H' → Same F' H' → ArgsOk C ρ σ F' ks ds vs → Q vs H'
  | _ => False
theorem am_nil : PA X [] (tAM C [] aNil) := pa_nil.mono fun σ H Q ⟨ρ, F, r, q⟩ => q [] F H (Ext.refl _ _) r.sub .nil
theorem ArgOk.mono {F' : Hp} {k : AK} {d : D} {v : V} (s : Same F F') (w : ArgOk C ρ σ F k d v) : ArgOk C ρ σ F' k d v := by
  cases k with
  | e => exact Rep.mono s w
  | _ => exact w
theorem am_cons {t : TE} {k : AK} {ks : List AK} (ha : PE X e t) (hr : PA X es (tAM C ks fs)) (hs : starEach (e :: es) X.env = (false, eval e X.env) :: starEach es X.env)
    (h : ∀ (σ : L2.St) (ρ : En) (F H : Hp) (Q : VK), Rel C ρ σ F H → (∃ d, f ρ = .ok d ∧ ∀ v F' H', Ext F H F' H' → Same F' H' → ArgOk C ρ σ F' k d v → Q v H') → t σ H Q) : PA X (e :: es) (tAM C (k :: ks) (aCons f fs)) :=
  (pa_cons ha hr hs).mono fun σ H Q ⟨ρ, F, r, q⟩ => by
    unfold aCons at q
    cases hf : f ρ with
    | bad => rw [hf] at q; exact q.elim
    | err c => rw [hf] at q; exact q.elim
    | ok d =>
      rw [hf, bd_ok] at q
      refine h σ ρ F H _ r ⟨d, hf, fun v F1 H1 x1 s1 w1 => ⟨ρ, F1, r.grow x1 s1, ?_⟩⟩
      cases hg : fs ρ with
      | bad => rw [hg] at q; exact q.elim
      | err c => rw [hg] at q; exact q.elim
      | ok ds =>
        rw [hg] at q
        exact fun vs F2 H2 x2 s2 w2 => q (v :: vs) F2 H2 (x1.trans x2) s2 (.cons (w1.mono x2.f) w2)
theorem am_io {i : Nat} {ks : List AK} (ha : PE X e (tVar i)) (hr : PA X es (tAM C ks fs)) (hs : starEach (e :: es) X.env = (false, eval e X.env) :: starEach es X.env := by rfl) : PA X (e :: es) (tAM C (.io i :: ks) (aCons (rdI i) fs)) :=
  am_cons ha hr hs fun σ ρ F H Q r ⟨d, hd, q⟩ => by
    unfold rdI at hd
    split at hd
    · rename_i d' h
      cases hd
      obtain ⟨a, hv, _⟩ := r.ownF i d h
      exact ⟨_, hv, q _ F H (Ext.refl _ _) r.sub ⟨h, hv⟩⟩
    · cases hd
theorem am_e {ks : List AK} (ha : PE X e (tE C f)) (hr : PA X es (tAM C ks fs)) (hs : starEach (e :: es) X.env = (false, eval e X.env) :: starEach es X.env := by rfl) : PA X (e :: es) (tAM C (.e :: ks) (aCons f fs)) :=
  am_cons ha hr hs fun σ ρ F H Q r ⟨d, hd, q⟩ => ⟨ρ, F, r, by rw [hd]; exact fun v F' H' x s w => q v F' H' x s w⟩
def tM (C : Cd) (c : En → R (D × En)) : TE := fun σ H Q => ∃ ρ F, Rel C ρ σ F H ∧ match c ρ with
  | .ok (d, ρ') => ∀ v F' H', Same F F' → Rel C ρ' σ F' H' → Rep C.K F' d v → Q v H'
  | .err s => ∀ F' H', Ext F H F' H' → Same F' H' → C.XW s σ H'
  | .bad => False
theorem putIO_get : ∀ {ρ ρ' : En} {ios : List Nat} {zs : List D}, ios.Nodup → (∀ j ∈ ios, j < ρ.length) → putIO ρ ios zs = some ρ' → ρ'.length = ρ.length ∧ zs.length = ios.length ∧ (∀ (m j : Nat), ios[m]? = some j → ∃ z, zs[m]? = some z ∧ ρ'[j]? = some (some (true, z))) ∧ ∀ j, j ∉ ios → ρ'[j]? = ρ[j]?
  | ρ, ρ', [], [], _, _, h => by
    cases h
    exact ⟨rfl, rfl, fun m j h => by simp at h, fun _ _ => rfl⟩
  | ρ, ρ', i :: is, z :: zs, nd, hb, h => by
    have h : putIO (ρ.set i (some (true, z))) is zs = some ρ' := h
    have nd := List.nodup_cons.mp nd
    obtain ⟨h1, h2, h3, h4⟩ := putIO_get nd.2 (fun j hj => by rw [List.length_set]; exact hb j (List.mem_cons_of_mem _ hj)) h
    rw [List.length_set] at h1
    refine ⟨h1, congrArg (· + 1) h2, fun m j hm => ?_, fun j hj => ?_⟩
    · cases m with
      | zero =>
        cases hm
        refine ⟨z, rfl, ?_⟩
        rw [h4 i nd.1, List.getElem?_set_self (hb i List.mem_cons_self)]
      | succ m => exact h3 m j hm
    · rw [h4 j fun y => hj (List.mem_cons_of_mem _ y), List.getElem?_set_ne fun (y : i = j) => hj (by rw [← y]; exact List.mem_cons_self)]
  | _, _, [], _ :: _, _, _, h => nomatch h
  | _, _, _ :: _, [], _, _, h => nomatch h
theorem Rel.putIO {ρ' : En} {F' H' : Hp} {as : List Addr} {zs ws : List D} (r : Rel C ρ σ F H) (nd : ios.Nodup) (hw : ioOf ρ ios = some ws) (ha : as.length = ios.length) (hat : ∀ (m j : Nat), ios[m]? = some j → ∃ a, as[m]? = some a ∧ σ[j]? = some (some (.ref a)))
    (x : Ext F (minus H (feet H as ws)) F' H') (s : Same F' H') (o : OwnAll C.K F' H' (minus H (feet H as ws)) as zs) (hp : DL.putIO ρ ios zs = some ρ') : Rel C ρ' σ F' H' := by
  obtain ⟨l1, gw⟩ := ioOf_get hw
  have hb : ∀ j ∈ ios, j < ρ.length := fun j hj => by
    obtain ⟨m, hm⟩ := List.mem_iff_getElem?.mp hj
    obtain ⟨_, _, h⟩ := gw m j hm
    exact (List.getElem?_eq_some_iff.mp h).1
  obtain ⟨p1, p2, p3, p4⟩ := putIO_get nd hb hp
  -- what lies in the feet
  have hS : ∀ c ∈ feet H as ws, ∃ (m j : Nat) (a : Addr) (w : D), ios[m]? = some j ∧ as[m]? = some a ∧ ws[m]? = some w ∧ ρ[j]? = some (some (true, w)) ∧ σ[j]? = some (some (.ref a)) ∧ c ∈ foot H a w := fun c hc => by
    obtain ⟨m, a, w, h1, h2, h3⟩ := feet_out hc
    have hm : m < ios.length := by rw [← ha]; exact (List.getElem?_eq_some_iff.mp h1).1
    have hj : ios[m]? = some ios[m] := List.getElem?_eq_getElem hm
    obtain ⟨w', e1, e2⟩ := gw m _ hj
    rw [h2] at e1
    cases e1
    obtain ⟨a', f1, f2⟩ := hat m _ hj
    rw [h1] at f1
    cases f1
    exact ⟨m, _, a, w, hj, h1, h2, e2, f2, h3⟩
  have hS0 : ∀ c ∈ feet H as ws, F c = none ∧ C.H0 c = none := fun c hc => by
    obtain ⟨m, j, a, w, _, _, _, h1, h2, h3⟩ := hS c hc
    obtain ⟨a', q, n1, _, _⟩ := r.ownF j w h1
    rw [h2] at q
    cases q
    exact n1 c h3
  have free0 : ∀ c, minus H (feet H as ws) c = none → C.H0 c = none := fun c hc => by
    by_cases h : c ∈ feet H as ws
    · exact (hS0 c h).2
    · rw [minus_out h] at hc; exact r.ext.h.free hc
  have other : ∀ (j : Nat) (d : D), j ∉ ios → ρ[j]? = some (some (true, d)) → ∃ a, σ[j]? = some (some (.ref a)) ∧ (∀ c ∈ foot H a d, c ∉ feet H as ws ∧ F c = none ∧ C.H0 c = none ∧ ∃ u, H c = some u) ∧ (foot H a d).Nodup ∧ Own C.K F H a d := fun j d hj h => by
    obtain ⟨a, q, n1, nd, o⟩ := r.ownF j d h
    refine ⟨a, q, fun c hc => ⟨fun hcs => ?_, (n1 c hc).1, (n1 c hc).2, o.foot c hc⟩, nd, o⟩
    obtain ⟨m, j', a', w, e0, _, _, h1, h2, h3⟩ := hS c hcs
    have := r.apartF j j' d w a a' c h h1 q h2 hc h3
    subst this
    exact hj (List.mem_of_getElem? e0)
  have keep : ∀ (c : Addr) (u : HO), c ∉ feet H as ws → H c = some u → H' c = some u := fun c u hc h => x.h c u (by rw [minus_out hc]; exact h)
  have kept : ∀ (j : Nat) (d : D) (a : Addr), j ∉ ios → ρ[j]? = some (some (true, d)) → σ[j]? = some (some (.ref a)) → foot H' a d = foot H a d := fun j d a hj h hs => by
    obtain ⟨a', q, n1, _, o⟩ := other j d hj h
    rw [hs] at q
    cases q
    refine foot_same o fun b hb => ?_
    obtain ⟨h1, _, _, u, hu⟩ := n1 b hb
    exact (keep b u h1 hu).trans hu.symm
  -- a changed one
  have mine : ∀ (j : Nat) (d : D), j ∈ ios → ρ'[j]? = some (some (true, d)) → ∃ m a, ios[m]? = some j ∧ as[m]? = some a ∧ zs[m]? = some d ∧ σ[j]? = some (some (.ref a)) := fun j d hj h => by
    obtain ⟨m, hm⟩ := List.mem_iff_getElem?.mp hj
    obtain ⟨z, h1, h2⟩ := p3 m j hm
    rw [h] at h2
    cases h2
    obtain ⟨a, f1, f2⟩ := hat m j hm
    exact ⟨m, a, hm, f1, h1, f2⟩
  have cross : ∀ (i j : Nat) (d e : D) (a b c : Addr), i ∈ ios → j ∉ ios → ρ'[i]? = some (some (true, d)) → ρ[j]? = some (some (true, e)) → σ[i]? = some (some (.ref a)) → σ[j]? = some (some (.ref b)) → c ∈ foot H' a d → c ∈ foot H' b e → False := fun i j d e a b c hi hj h1 h2 h3 h4 h5 h6 => by
    rw [kept j e b hj h2 h4] at h6
    obtain ⟨b', q, n1, _⟩ := other j e hj h2
    rw [h4] at q
    cases q
    obtain ⟨y1, _, _, u, hu⟩ := n1 c h6
    obtain ⟨m, a', m1, m2, m3, m4⟩ := mine i d hi h1
    rw [h3] at m4
    cases m4
    have := (o.2.2.1 c (feet_mem m2 m3 h5)).2
    rw [minus_out y1, hu] at this
    cases this
  refine ⟨⟨r.ext.f.trans x.f, fun b u h => ?_, fun b u h => ?_⟩, s, r.len.trans p1.symm, fun j d h => ?_, fun j d h => ?_, fun i j d e a b c h1 h2 h3 h4 h5 h6 => ?_, r.lend, r.wok⟩
  · refine keep b u (fun hb => ?_) (r.ext.h b u h)
    rw [(hS0 b hb).2] at h
    cases h
  · rcases x.n b u h with y | y
    · exact r.ext.n b u y
    · exact .inr (free0 b y)
  · by_cases hj : j ∈ ios
    · obtain ⟨m, hm⟩ := List.mem_iff_getElem?.mp hj
      obtain ⟨z, _, h2⟩ := p3 m j hm
      rw [h] at h2
      cases h2
    · rw [p4 j hj] at h
      obtain ⟨v, q, w⟩ := r.slot j d h
      exact ⟨v, q, w.mono x.f⟩
  · by_cases hj : j ∈ ios
    · obtain ⟨m, a, m1, m2, m3, m4⟩ := mine j d hj h
      refine ⟨a, m4, fun b hb => ?_, feet_nd o.2.1 m2 m3, o.2.2.2 m a d m2 m3⟩
      obtain ⟨y1, y2⟩ := o.2.2.1 b (feet_mem m2 m3 hb)
      exact ⟨y1, free0 b y2⟩
    · rw [p4 j hj] at h
      obtain ⟨a, q, n1, nd2, ow⟩ := other j d hj h
      have ef := kept j d a hj h q
      refine ⟨a, q, fun b hb => ?_, by rw [ef]; exact nd2, ow.at x.f fun b hb u hu => keep b u (n1 b hb).1 hu⟩
      rw [ef] at hb
      obtain ⟨y1, y2, y3, u, hu⟩ := n1 b hb
      refine ⟨?_, y3⟩
      cases hF : F' b with
      | none => rfl
      | some u' =>
        rcases x.n b u' hF with z | z
        · rw [y2] at z; cases z
        · rw [minus_out y1, hu] at z; cases z
  · by_cases hi : i ∈ ios
    · by_cases hj : j ∈ ios
      · obtain ⟨m, a', m1, m2, m3, m4⟩ := mine i d hi h1
        obtain ⟨m', b', m1', m2', m3', m4'⟩ := mine j e hj h2
        rw [h3] at m4
        cases m4
        rw [h4] at m4'
        cases m4'
        have := feet_apart o.2.1 m2 m3 m2' m3' h5 h6
        subst this
        rw [m1] at m1'
        cases m1'
        rfl
      · rw [p4 j hj] at h2
        exact (cross i j d e a b c hi hj h1 h2 h3 h4 h5 h6).elim
    · rw [p4 i hi] at h1
      by_cases hj : j ∈ ios
      · exact (cross j i e d b a c hj hi h2 h1 h4 h3 h6 h5).elim
      · rw [p4 j hj] at h2
        rw [kept i d a hi h1 h3] at h5
        rw [kept j e b hj h2 h4] at h6
        exact r.apartF i j d e a b c h1 h2 h3 h4 h5 h6
variable {c : En → R (D × En)}
theorem tM_of {T : Ends} {Q : VK} {w : D × En → R Fl} (r : Rel C ρ σ F H) (q : Post C T F (bd (c ρ) w)) (h : ∀ d ρ' v F' H', Post C T F' (w (d, ρ')) → Rel C ρ' σ F' H' → Rep C.K F' d v → Q v H') : tM C c σ H Q := by
  refine ⟨ρ, F, r, ?_⟩
  cases hcc : c ρ with
  | bad => rw [hcc] at q; exact q.elim
  | err s => rw [hcc] at q; exact fun F' H' x s => r.err q x s
  | ok z =>
    obtain ⟨d, ρ'⟩ := z
    rw [hcc] at q
    exact fun v F' H' s r' w => h d ρ' v F' H' (Post.up q s) r' w
theorem s_setM {i : Nat} {pos' : Pos} (he : PE X e (tM C c)) (hN : X.N.Nodup) (hi : X.N[i]? = some x := by rfl) (hx : Loc X.env.scope x := by first | exact .inl rfl | exact .inr rfl) (hs : swapsWith e (some (.Name x pos')) pos.line X.env = pure false := by rfl)
    (hf : X.fn x = true ∨ X.env.scope.names.lookup x = some .local := by first | exact .inl rfl | exact .inr rfl | assumption) (hl : C.ln i = none := by rfl) : PS X (.Assign [.Name x pos'] e pos) (tS C (sSetM i c)) :=
  (ps_set hN hi hx he hs hf).mono fun T σ H ⟨ρ, F, r, q⟩ => tM_of (w := fun r => .ok (.next (r.2.set i (some (false, r.1))))) r q fun d ρ' v F' H' q r' w => q _ F' H' (Same.refl _) (r'.set w hl)
end
end DL
namespace DL
open PySem PySem.Spec PyProof.Rows L2
section
variable {K : Kx} {A B A' B' F F' H H' : Hp}
structure Pass (A B : Hp) : Prop where
  l : ∀ a vs, A a = some (.lst vs) → B a = some (.lst vs)
  t : ∀ a vs, A a = some (.tup vs) → B a = some (.tup vs)
  rl : ∀ a vs, Rd A a (.lst vs) → Rd B a (.lst vs)
  k : ∀ a vs, Rd A a (.dK vs) → Rd B a (.dK vs)
  kt : ∀ a vs, Rd A a (.dT vs) → Rd B a (.dT vs)
  x : ∀ a φ, A a = some (.ext φ) → B a = some (.ext φ)
  i : ∀ a c dx fs, A a = some (.ins c dx fs) → B a = some (.ins c dx fs)
  w : ∀ a c, A a = some (.own c) → B a = some (.own c)
theorem Pass.seq (p : Pass A B) {a : Addr} {xs : List V} (h : SqL K A a xs) : SqL K B a xs := by
  rcases h with h | h
  · exact .inl (p.rl a xs h)
  · exact .inr h
mutual
theorem Rep.pass (p : Pass F F') : ∀ {d : D} {v : V}, Rep K F d v → Rep K F' d v
  | _, _, .non => .non
  | _, _, .bl b => .bl b
  | _, _, .int b => .int b
  | _, _, .str b => .str b
  | _, _, .lst s r => .lst (p.l _ _ s) (Reps.pass p r)
  | _, _, .scr s => .scr (p.seq s)
  | _, _, .tup s r => .tup (p.t _ _ s) (Reps.pass p r)
  | _, _, .dK s r => .dK (p.k _ _ s) (RepK.pass p r)
  | _, _, .dT s r => .dT (p.kt _ _ s) (RepT.pass p r)
  | _, _, .ref a => .ref a
  | _, _, .rows s r => .rows (p.l _ _ s) (Reps.pass p r)
  | _, _, .exn n s => .exn n (p.x _ _ s)
  | _, _, .deep d a => .deep d a
  | _, _, .obj h => .obj h
theorem Reps.pass (p : Pass F F') : ∀ {ds : List D} {vs : List V}, Reps K F ds vs → Reps K F' ds vs
  | _, _, .nil => .nil
  | _, _, .cons r t => .cons (Rep.pass p r) (Reps.pass p t)
theorem RepK.pass (p : Pass F F') : ∀ {ds : List (Key × D)} {vs : List (Key × V)}, RepK K F ds vs → RepK K F' ds vs
  | _, _, .nil => .nil
  | _, _, .cons r t => .cons (Rep.pass p r) (RepK.pass p t)
theorem RepT.pass (p : Pass F F') : ∀ {ds : List (List Key × D)} {vs : List (List Key × V)}, RepT K F ds vs → RepT K F' ds vs
  | _, _, .nil => .nil
  | _, _, .cons r t => .cons (Rep.pass p r) (RepT.pass p t)
end
theorem RowsAt.pass (pf : Pass F F') (ph : Pass H H') : ∀ {rs : List D} {vs : List V}, RowsAt K F H rs vs → RowsAt K F' H' rs vs
  | _, _, .nil => .nil
  | _, _, .cons q r t => .cons (ph.l _ _ q) (r.pass pf) (RowsAt.pass pf ph t)
theorem View.pass (pf : Pass F F') (ph : Pass H H') {d : D} {v : V} (r : View K F H d v) : View K F' H' d v := by
  cases d with
  | lst ds => obtain ⟨a, vs, e, q, r⟩ := r; exact ⟨a, vs, e, ph.l _ _ q, r.pass pf⟩
  | scr ns => obtain ⟨a, e, q⟩ := r; exact ⟨a, e, ph.seq q⟩
  | tup ds => obtain ⟨a, vs, e, q, r⟩ := r; exact ⟨a, vs, e, ph.t _ _ q, r.pass pf⟩
  | dK ds => obtain ⟨a, vs, e, q, r⟩ := r; exact ⟨a, vs, e, ph.k _ _ q, r.pass pf⟩
  | dT ds => obtain ⟨a, vs, e, q, r⟩ := r; exact ⟨a, vs, e, ph.kt _ _ q, r.pass pf⟩
  | rows ds =>
    obtain ⟨a, vs, e, q, r⟩ := r
    refine ⟨a, vs, e, ph.l _ _ q, ?_⟩
    rcases r with r | r
    · exact .inl (r.pass pf)
    · exact .inr (r.pass pf ph)
  | exn c => obtain ⟨a, C, e, n, q⟩ := r; exact ⟨a, C, e, n, ph.x _ _ q⟩
  | _ => exact r
mutual
theorem OwD.pass (pf : Pass F F') (ph : Pass H H') : ∀ {d : D} {v : V}, OwD K F H d v → OwD K F' H' d v
  | _, _, .set z r => .set z (r.pass pf)
  | _, _, .lst q t => .lst (ph.l _ _ q) (OwDs.pass pf ph t)
  | _, _, .tup z q t => .tup z (ph.t _ _ q) (OwDs.pass pf ph t)
  | _, _, .junk q l => .junk (ph.l _ _ q) l
theorem OwDs.pass (pf : Pass F F') (ph : Pass H H') : ∀ {ds : List D} {vs : List V}, OwDs K F H ds vs → OwDs K F' H' ds vs
  | _, _, .nil => .nil
  | _, _, .cons r t => .cons (OwD.pass pf ph r) (OwDs.pass pf ph t)
end
theorem Own.pass {a : Addr} {d : D} (pf : Pass F F') (ph : Pass H H') (e : H' a = H a) (o : Own K F H a d) : Own K F' H' a d := by
  cases d with
  | lst ds => obtain ⟨vs, q, r⟩ := o; exact ⟨vs, by rw [e]; exact q, r.pass pf⟩
  | dK ds => obtain ⟨vs, q, r⟩ := o; exact ⟨vs, by rw [e]; exact q, r.pass pf⟩
  | dT ds => obtain ⟨vs, q, r⟩ := o; exact ⟨vs, by rw [e]; exact q, r.pass pf⟩
  | rows ds => obtain ⟨vs, q, r⟩ := o; exact ⟨vs, by rw [e]; exact q, r.pass pf ph⟩
  | deep d => exact ⟨OwD.pass pf ph o.1, o.2⟩
  | _ => exact o.elim
def Lk (d : Addr) (x y : HO) (A B : Hp) : Prop := (∀ b, b ≠ d → B b = A b) ∧ ((A d = none ∧ B d = none) ∨ (A d = some x ∧ B d = some y))
theorem Lk.at {d : Addr} {x y : HO} (h : Lk d x y A B) (e : A d = some x) : B d = some y := by
  rcases h.2 with ⟨z, _⟩ | ⟨_, z⟩
  · rw [z] at e; cases e
  · exact z
theorem Lk.same {d : Addr} {x y : HO} (h1 : Lk d x y A B) (h2 : Lk d x y A' B') (s : Same A A') : Same B B' := fun b u e => by
  by_cases hb : b = d
  · subst hb
    rcases h1.2 with ⟨_, z⟩ | ⟨z, z'⟩
    · rw [z] at e; cases e
    · rw [z'] at e
      cases e
      exact h2.at (s _ _ z)
  · rw [h1.1 b hb] at e
    rw [h2.1 b hb]
    exact s _ _ e
def Cd.at (C : Cd) (F0 H0 : Hp) : Cd := ⟨C.K, F0, H0, C.XW, C.ln, C.io, C.wd⟩
theorem CellAt.pass {a : Addr} {c : Cell} (pf : Pass F F') (ph : Pass H H') (w : CellAt K F H a c) : CellAt K F' H' a c := by
  cases c with
  | ins c fs => obtain ⟨dx, vs, h1, h2, h3, h4⟩ := w; exact ⟨dx, vs, ph.i _ _ _ _ h1, ph.w _ _ h2, h3, h4.pass pf⟩
  | lst ds => obtain ⟨vs, h1, h2⟩ := w; exact ⟨vs, ph.l _ _ h1, h2.pass pf⟩
  | dK ds => obtain ⟨vs, h1, h2⟩ := w; exact ⟨vs, ph.k _ _ h1, h2.pass pf⟩
  | dT ds => obtain ⟨vs, h1, h2⟩ := w; exact ⟨vs, ph.kt _ _ h1, h2.pass pf⟩
theorem WV.pass {W : Wd} (pf : Pass F F') (ph : Pass H H') (w : WV K F H W) : WV K F' H' W := fun k c e => by
  obtain ⟨a, h1, h2⟩ := w k c e
  exact ⟨a, h1, h2.pass pf ph⟩
theorem Lk.ext {d : Addr} {x y : HO} {F0 H0 F1 H1 F0' H0' F1' H1' : Hp} (lF0 : Lk d x y F0 F0') (e : Ext F0 H0 F1 H1) (h0 : H0 d = some x) (lH0 : Lk d x y H0 H0') (lF : Lk d x y F1 F1') (lH : Lk d x y H1 H1') : Ext F0' H0' F1' H1' := by
  refine ⟨lF0.same lF e.f, lH0.same lH e.h, fun a u z => ?_⟩
  by_cases hb : a = d
  · subst hb
    rcases lF.2 with ⟨_, w⟩ | ⟨w, w'⟩
    · rw [w] at z; cases z
    · rw [w'] at z
      cases z
      rcases e.n _ _ w with q | q
      · exact .inl (lF0.at q)
      · rw [h0] at q; cases q
  · rw [lF.1 a hb] at z
    rcases e.n _ _ z with q | q
    · exact .inl (by rw [lF0.1 a hb]; exact q)
    · exact .inr (by rw [lH0.1 a hb]; exact q)
end
section
variable {X : Cx} {C : Cd} {e tg : Expr} {f : En → R D} {pos : Pos} {K : Kx}
end
end DL
namespace DL
open PySem PySem.Spec PyProof.Rows L2
inductive Mix (K : Kx) (F H : Hp) : List Bool → List D → List V → Prop
  | nil : Mix K F H [] [] []
  | r {d : D} {v : V} {ks : List Bool} {ds : List D} {vs : List V} : View K F H d v → Mix K F H ks ds vs → Mix K F H (false :: ks) (d :: ds) (v :: vs)
  | e {d : D} {v : V} {ks : List Bool} {ds : List D} {vs : List V} : Rep K F d v → Mix K F H ks ds vs → Mix K F H (true :: ks) (d :: ds) (v :: vs)
theorem Mix.views {K : Kx} {F H : Hp} (s : Same F H) : ∀ {ks : List Bool} {ds : List D} {vs : List V}, Mix K F H ks ds vs → Views K F H ds vs ∧ ds.length = ks.length
  | _, _, _, .nil => ⟨.nil, rfl⟩
  | _, _, _, .r w t => ⟨.cons w (t.views s).1, congrArg (· + 1) (t.views s).2⟩
  | _, _, _, .e w t => ⟨.cons (w.view s) (t.views s).1, congrArg (· + 1) (t.views s).2⟩
theorem Mix.get {K : Kx} {F H : Hp} : ∀ {ks : List Bool} {ds : List D} {vs : List V} {i : Nat}, Mix K F H ks ds vs → ks[i]? = some true → ∃ d v, ds[i]? = some d ∧ vs[i]? = some v ∧ Rep K F d v
  | _, _, _, _, .nil, h => by simp at h
  | _, _, _, 0, .r _ _, h => by simp at h
  | _, _, _, 0, .e w _, _ => ⟨_, _, rfl, rfl, w⟩
  | _, _, _, i + 1, .r _ t, h => Mix.get (i := i) t h
  | _, _, _, i + 1, .e _ t, h => Mix.get (i := i) t h
section
variable {X : Cx} {C : Cd} {e a : Expr} {es : List Expr} {f : En → R D} {fs : En → R (List D)} {pos p apos cpos : Pos} {kk n : Nat} {fa : Addr} {fd : FuncData} {ps : List Str} {x : Str} {cls : Str → Addr} {den : Den} {CX : CXT} {E : XK} {ev : List Nat} {ks : List Bool}
def OutX (C : Cd) (ks : List Bool) (σ : L2.St) (F H : Hp) (x : R (List D)) (Q : List V → Hp → Prop) : Prop := match x with
  | .ok d => ∀ v F' H', Ext F H F' H' → Same F' H' → Mix C.K F' H' ks d v → Q v H'
  | .err c => ∀ F' H', Ext F H F' H' → Same F' H' → C.XW c σ H'
  | .bad => False
theorem OutX.later {σ : L2.St} {F H F1 H1 : Hp} {x : R (List D)} {Q : List V → Hp → Prop} (o : OutX C ks σ F H x Q) (e : Ext F H F1 H1) : OutX C ks σ F1 H1 x Q := by
  cases x with
  | ok d => exact fun v F' H' x s w => o v F' H' (e.trans x) s w
  | err c => exact fun F' H' x s => o F' H' (e.trans x) s
  | bad => exact o
end
end DL
namespace DL
open PySem PySem.Spec PyProof.Rows L2
section
variable {X : Cx} {C : Cd} {a b : Expr} {f g : En → R D} {apos cpos : Pos} {kk : Nat}
end
section
variable {prog : Program} {w : World} {A : Around} {E : Value → Shared → Prop} {s : Shared}
end
section
variable {X : Cx} {C : Cd} {a b : Expr} {f g : En → R D} {pos p kpos : Pos} {K : Kx} {F H : Hp}
end
end DL
namespace DL
open PySem PySem.Spec PyProof.Rows L2
section
variable {X : Cx} {C : Cd} {a : Expr} {f : En → R D} {t : TE} {pos p p2 kpos : Pos} {K : Kx} {F H : Hp} {kk : Nat}
end
end DL
namespace DL
open PySem PySem.Spec PyProof.Rows L2
section
variable {X : Cx} {C : Cd} {e a b c tg : Expr} {f g k : En → R D} {pos p p1 apos cpos : Pos} {kk : Nat} {es : List Expr} {fs : En → R (List D)}
def txop (f g : En → R D) (w : Str → D → R D) : En → R D := fun ρ => bd (f ρ) fun d => match d with
  | .str z => bd (g ρ) (w z)
  | _ => .bad
end
section
variable {f g : En → R D} {ρ : En} {x y : Str} {e : D} {w : Str → D → R D}
def txK (a b : R D) (w : Str → D → R D) : R D := bd a fun d => match d with
  | .str z => bd b (w z)
  | _ => .bad
theorem ap_txop : txop f g w ρ = txK (f ρ) (g ρ) w := rfl
theorem tx_ok : txK (.ok (.str x)) (.ok e) w = w x e := rfl
theorem ap_jopS : jop f g ρ = txK (f ρ) (g ρ) dJoin := rfl
end
end DL
namespace DL
open PySem PySem.Spec PyProof.Rows L2
abbrev veB : List Value := [.type "ValueError", .type "Exception", .type "BaseException", .type "object"]
structure ExcT (K : PySem.W.Frag) (mg : Str → Option Value) (c : Str) : Prop where
  n : PySem.W.nsIn K mainGlobals c = some (some (.ref (clsOf K c)))
  g : mg c = some (.ref (clsOf K c))
  x : PySem.W.excIn K (clsOf K c) veB "ValueError.__new__" = true
  k : PySem.W.keepIn K (.ref (clsOf K c)) = true
  s : PySem.W.subIn K (.ref (clsOf K c)) (.type "BaseException") = some true
  t : PySem.W.typeIn K (.ref (clsOf K c)) = some (.type "type")
theorem clsOf_eq {K : PySem.W.Frag} {c : Str} {C : Addr} (h : PySem.W.nsIn K mainGlobals c = some (some (.ref C))) : clsOf K c = C := by unfold clsOf; rw [h]
theorem ExcT.of {K : PySem.W.Frag} {mg : Str → Option Value} {c : Str} {C : Addr} (n : PySem.W.nsIn K mainGlobals c = some (some (.ref C))) (g : mg c = some (.ref C)) (x : PySem.W.excIn K C veB "ValueError.__new__" = true) (k : PySem.W.keepIn K (.ref C) = true)
    (s : PySem.W.subIn K (.ref C) (.type "BaseException") = some true) (t : PySem.W.typeIn K (.ref C) = some (.type "type")) : ExcT K mg c := by
  have e := clsOf_eq n
  subst e
  exact ⟨n, g, x, k, s, t⟩
section
variable {X : Cx} {C : Cd} {W : WX} {e a b : Expr} {f g : En → R D} {fs : En → R (List D)} {es : List Expr} {pos p p1 p2 : Pos} {kk : Nat} {fa : Addr} {fd : FuncData} {ps : List Str} {x : Str} {cls : Str → Addr} {n : Nat} {den : Den}
def sRaise (c : Str) : En → R Fl := fun _ => .err c
end
def catchD (tbl : List (Str × Nat)) (hs : List (En → R Fl)) (c : Str) (ρ : En) : R Fl := match tbl.lookup c with
  | some i => match hs[i]? with
    | some h => h ρ
    | none => .err c
  | none => .bad
def sTryE (f : En → R D) (k : D → En → R Fl) (tbl : List (Str × Nat)) (hs : List (En → R Fl)) : En → R Fl := fun ρ => match f ρ with
  | .ok d => k d ρ
  | .err c => catchD tbl hs c ρ
  | .bad => .bad
inductive HdsD (X : Cx) (C : Cd) : List ExceptHandler → List (Value × (Addr → Value → Option Addr → TS)) → List (En → R Fl) → Prop
  | nil : HdsD X C [] [] []
  | cons {x : Str} {c : Addr} {h : En → R Fl} {b₀ : Stmt} {suite : List Stmt} {np pos' : Pos} {hds : List ExceptHandler} {l : List (Value × (Addr → Value → Option Addr → TS))} {hs : List (En → R Fl)} (hc : Names X x (.ref c))
      (hsu : ∀ (a : Addr) (pn : List (Addr × Obj)), PSs (X.suite a pn) (b₀ :: suite) (tS C h)) (r : HdsD X C hds l hs) :
      HdsD X C (.ExceptHandler (some (.Name x np)) none (b₀ :: suite) pos' :: hds) ((.ref c, fun _ _ _ => tS C h) :: l) (h :: hs)
theorem HdsD.ok {X : Cx} {C : Cd} {hds : List ExceptHandler} {l : List (Value × (Addr → Value → Option Addr → TS))} {hs : List (En → R Fl)} (h : HdsD X C hds l hs) : HdsOk X hds l := by
  induction h with
  | nil => exact .nil
  | cons hc hsu _ ih => exact .cons hc (fun a oe cls d pn _ _ => hsu a ((a, oe) :: pn)) ih
section
variable {X : Cx} {C : Cd} {e : Expr} {f : En → R D} {pos pos1 : Pos} {h₀ : ExceptHandler} {hds : List ExceptHandler} {l : List (Value × (Addr → Value → Option Addr → TS))} {hs : List (En → R Fl)} {tbl : List (Str × Nat)} {Wout : WX}
end
end DL
namespace DL
open PySem PySem.Spec PyProof.Rows L2
section
variable {X : Cx} {pins : List (Addr × Obj)} {σ : L2.St} {H : Hp} {s : Shared}
end
section
variable {X : Cx} {x n : Str} {c : Value} {i : Nat} {body suite : List Stmt} {b₀ : Stmt} {np pos pos' : Pos} {tb : WX → TS} {ts : Addr → Addr → TS} {Wout : WX}
end
def gone (i : Nat) : R Fl → R Fl
  | .ok (.next ρ) => .ok (.next (ρ.set i none))
  | .ok (.brk ρ) => .ok (.brk (ρ.set i none))
  | .ok (.cont ρ) => .ok (.cont (ρ.set i none))
  | r => r
def catchAs (i : Nat) (tbl : List (Str × Bool)) (h : En → R Fl) (c : Str) (ρ : En) : R Fl := match tbl.lookup c with
  | some true => gone i (h (ρ.set i (some (false, .exn c))))
  | some false => .err c
  | none => .bad
def sTryAs (i : Nat) (f : En → R D) (k : D → En → R Fl) (tbl : List (Str × Bool)) (h : En → R Fl) : En → R Fl := fun ρ => match f ρ with
  | .ok d => k d ρ
  | .err c => catchAs i tbl h c ρ
  | .bad => .bad
section
variable {X : Cx} {C : Cd} {e : Expr} {f : En → R D} {h : En → R Fl} {pos pos1 pos' np : Pos} {tbl : List (Str × Bool)} {Wout : WX} {i : Nat} {x n : Str} {dc : Addr} {b₀ : Stmt} {suite : List Stmt}
end
section
variable {X : Cx} {C : Cd} {a b : Expr} {f : En → R D} {pos p : Pos}
end
section
variable {ρ : En} {f : En → R D} {k : D → En → R Fl} {tbl : List (Str × Nat)} {tb : List (Str × Bool)} {hs : List (En → R Fl)} {h : En → R Fl} {i n N : Nat} {d : D} {ds : List D} {c : Str} {g : En → R Fl}
def tryK (x : R D) (k : D → En → R Fl) (tbl : List (Str × Nat)) (hs : List (En → R Fl)) (ρ : En) : R Fl := match x with
  | .ok d => k d ρ
  | .err c => catchD tbl hs c ρ
  | .bad => .bad
theorem ap_try : sTryE f k tbl hs ρ = tryK (f ρ) k tbl hs ρ := rfl
theorem try_ok : tryK (.ok d) k tbl hs ρ = k d ρ := rfl
theorem try_err : tryK (.err c) k tbl hs ρ = catchD tbl hs c ρ := rfl
def tryAsK (x : R D) (i : Nat) (k : D → En → R Fl) (tbl : List (Str × Bool)) (h : En → R Fl) (ρ : En) : R Fl := match x with
  | .ok d => k d ρ
  | .err c => catchAs i tbl h c ρ
  | .bad => .bad
theorem ap_tryAs : sTryAs i f k tb h ρ = tryAsK (f ρ) i k tb h ρ := rfl
theorem tryAs_ok : tryAsK (.ok d) i k tb h ρ = k d ρ := rfl
theorem tryAs_err : tryAsK (.err c) i k tb h ρ = catchAs i tb h c ρ := rfl
theorem gone_next : gone i (.ok (.next ρ)) = .ok (.next (ρ.set i none)) := rfl
theorem ap_raise : sRaise c ρ = .err c := rfl
theorem ap_bodyD (h : ds.length = n) : bodyD n N g ds = endD (g (args N ds)) := by unfold bodyD; rw [if_pos h]
theorem end_err : endD (.err c) = .err c := rfl
end
end DL
namespace DL
open PySem PySem.Spec PyProof.Rows L2
section
variable {X : Cx} {C : Cd} {e : Expr} {pos p : Pos} {ρ : En} {σ : L2.St} {F H : Hp} {i j : Nat} {d : D} {v : V} {ds : List D} {x : Str} {dd : D} {vv : V}
end
end DL
namespace DL
open PySem PySem.Spec PyProof.Rows L2
section
variable {X : Cx} {C : Cd} {e o : Expr} {pos p apos cpos : Pos} {σ : L2.St} {F H : Hp} {i j : Nat} {x : Str}
end
end DL
namespace DL
open PySem PySem.Spec PyProof.Rows L2
structure TupC (K : PySem.W.Frag) (mg : Str → Option Value) (x : Str) (a : Addr) (ss : List Str) : Prop where
  g : mg x = some (.ref a)
  t : ∀ H, SqT K H a (ss.map V.str)
theorem TupC.of {K : PySem.W.Frag} {mg : Str → Option Value} {x : Str} {a : Addr} {ss : List Str} {o : Obj} {its : Array Value} {n : Nat} (g : mg x = some (.ref a)) (l : K.lookup a = some o) (c : o.cls = .type "tuple") (d : o.data = .seq its n) (hs : its.size ≤ sizeLine) (v : Vals (ss.map V.str) its.toList) : TupC K mg x a ss :=
  ⟨g, fun H => .inr ⟨o, its, n, l, c, d, hs, v⟩⟩
section
variable {X : Cx} {C : Cd} {a : Expr} {f : En → R D} {pos p : Pos} {x : Str} {ad : Addr} {ss : List Str}
end
end DL
namespace DL
open PySem PySem.Spec PyProof.Rows L2
section
variable {K : Kx} {F F' H H' : Hp}
mutual
/-- each place of a tree holds a part with lists -/
theorem OwD.node (s : Same F' H') : ∀ {d : D} {v : V}, Rep K F' d v → dat1 d = true → ∀ b ∈ rch H' d v, ∃ d1, tO1 d1 = false ∧ dat1 d1 = true ∧ Rep K F' d1 (.ref b)
  | _, _, .lst (a := a) (vs := vs) (ds := ds) q t, z, b, hb => by
    simp only [rch, s _ _ q] at hb
    rcases List.mem_cons.mp hb with rfl | hb
    · exact ⟨.lst ds, rfl, z, .lst q t⟩
    · exact OwDs.node s t z b hb
  | _, _, .tup (a := a) (vs := vs) (ds := ds) q t, z, b, hb => by
    simp only [rch, s _ _ q] at hb
    split at hb
    · exact nomatch hb
    · rename_i h
      rcases List.mem_cons.mp hb with rfl | hb
      · exact ⟨.tup ds, Bool.eq_false_iff.mpr h, z, .tup q t⟩
      · exact OwDs.node s t z b hb
  | _, _, .non, _, b, hb => by simp only [rch] at hb; exact nomatch hb
  | _, _, .bl _, _, b, hb => by simp only [rch] at hb; exact nomatch hb
  | _, _, .int _, _, b, hb => by simp only [rch] at hb; exact nomatch hb
  | _, _, .str _, _, b, hb => by simp only [rch] at hb; exact nomatch hb
  | _, _, .scr _, z, _, _ => nomatch z
  | _, _, .dK _ _, z, _, _ => nomatch z
  | _, _, .dT _ _, z, _, _ => nomatch z
  | _, _, .ref _, z, _, _ => nomatch z
  | _, _, .rows _ _, z, _, _ => nomatch z
  | _, _, .exn _ _, z, _, _ => nomatch z
  | _, _, .deep _ _, z, _, _ => nomatch z
  | _, _, .obj _, z, _, _ => nomatch z
theorem OwDs.node (s : Same F' H') : ∀ {ds : List D} {vs : List V}, Reps K F' ds vs → dats ds = true → ∀ b ∈ rchs H' ds vs, ∃ d1, tO1 d1 = false ∧ dat1 d1 = true ∧ Rep K F' d1 (.ref b)
  | _, _, .nil, _, b, hb => by simp only [rchs] at hb; exact nomatch hb
  | _, _, .cons r t, z, b, hb => by
    have z := Bool.and_eq_true_iff.mp z
    simp only [rchs] at hb
    rcases List.mem_append.mp hb with hb | hb
    · exact OwD.node s r z.1 b hb
    · exact OwDs.node s t z.2 b hb
end
mutual
/-- one place holds a list within, or none -/
theorem Rep.same : ∀ {d : D} {v : V}, Rep K F d v → tO1 d = true → ∀ {d' : D}, Rep K F d' v → dat1 d' = true → tO1 d' = true
  | _, _, .non, _, _, r, z => by cases r; rfl
  | _, _, .bl b, _, _, r, z => by cases r; rfl
  | _, _, .int b, _, _, r, z => by cases r; rfl
  | _, _, .str b, _, _, r, z => by cases r; rfl
  | _, _, .tup q t, y, d', r, z => by
    cases r with
    | tup q' t' =>
      rw [q] at q'
      cases q'
      exact Reps.same t y t' z
    | lst q' t' => rw [q] at q'; cases q'
    | rows q' t' => exact nomatch z
    | scr q' => exact nomatch z
    | dK q' t' => exact nomatch z
    | dT q' t' => exact nomatch z
    | ref => exact nomatch z
    | exn q' t' => exact nomatch z
    | deep _ _ => exact nomatch z
    | obj _ => exact nomatch z
  | _, _, .lst _ _, z, _, _, _ => nomatch z
  | _, _, .scr _, z, _, _, _ => nomatch z
  | _, _, .dK _ _, z, _, _, _ => nomatch z
  | _, _, .dT _ _, z, _, _, _ => nomatch z
  | _, _, .ref _, z, _, _, _ => nomatch z
  | _, _, .rows _ _, z, _, _, _ => nomatch z
  | _, _, .exn _ _, z, _, _, _ => nomatch z
  | _, _, .deep _ _, z, _, _, _ => nomatch z
  | _, _, .obj _, z, _, _, _ => nomatch z
theorem Reps.same : ∀ {ds : List D} {vs : List V}, Reps K F ds vs → tOs ds = true → ∀ {ds' : List D}, Reps K F ds' vs → dats ds' = true → tOs ds' = true
  | _, _, .nil, _, _, r, _ => by cases r; rfl
  | _, _, .cons q t, y, _, r, z => by
    cases r with
    | cons q' t' =>
      have y := Bool.and_eq_true_iff.mp y
      have z := Bool.and_eq_true_iff.mp z
      exact Bool.and_eq_true_iff.mpr ⟨Rep.same q y.1 q' z.1, Reps.same t y.2 t' z.2⟩
end
def unF (A B : Hp) : Hp := fun a => match A a with | some o => some o | none => B a
theorem unF_l {A B : Hp} : Same A (unF A B) := fun a o h => by show (match A a with | some o => some o | none => B a) = _; rw [h]
theorem unF_h {A B : Hp} (h1 : Same A H) (h2 : Same B H) : Same (unF A B) H := fun a o h => by
  have h : (match A a with | some o => some o | none => B a) = some o := h
  split at h
  · rename_i e; cases h; exact h1 _ _ e
  · exact h2 _ _ h
theorem unF_r {A B : Hp} (h1 : Same A H) (h2 : Same B H) : Same B (unF A B) := fun a o h => by
  show (match A a with | some o => some o | none => B a) = _
  split
  · rename_i e
    have := h1 _ _ e
    rw [h2 _ _ h] at this
    exact this.symm
  · exact h
theorem unF_of {A B : Hp} {a : Addr} {o : HO} (h : unF A B a = some o) : A a = some o ∨ B a = some o := by
  have h : (match A a with | some o => some o | none => B a) = some o := h
  split at h
  · rename_i e; cases h; exact .inl e
  · exact .inr h
def TupF (K : Kx) (A : Hp) : Prop := ∀ a o, A a = some o → ∃ d0, tO1 d0 = true ∧ Rep K A d0 (.ref a)
theorem TupF.none : TupF K (fun _ => none) := fun _ _ h => nomatch h
theorem TupF.un {A B : Hp} (h1 : Same A H) (h2 : Same B H) (a : TupF K A) (b : TupF K B) : TupF K (unF A B) := fun c o h => by
  rcases unF_of h with h | h
  · obtain ⟨d0, z, r⟩ := a c o h
    exact ⟨d0, z, r.mono unF_l⟩
  · obtain ⟨d0, z, r⟩ := b c o h
    exact ⟨d0, z, r.mono (unF_r h1 h2)⟩
mutual
/-- a tree of tuples, settled: a part of the settled heap that holds tuples alone -/
theorem Rep.tpart : ∀ {d : D} {v : V}, Rep K F d v → tO1 d = true → ∃ A, Same A F ∧ TupF K A ∧ Rep K A d v
  | _, _, .non, _ => ⟨fun _ => none, (fun _ _ h => nomatch h), TupF.none, .non⟩
  | _, _, .bl b, _ => ⟨fun _ => none, (fun _ _ h => nomatch h), TupF.none, .bl b⟩
  | _, _, .int b, _ => ⟨fun _ => none, (fun _ _ h => nomatch h), TupF.none, .int b⟩
  | _, _, .str b, _ => ⟨fun _ => none, (fun _ _ h => nomatch h), TupF.none, .str b⟩
  | _, _, .tup (a := a) (vs := vs) (ds := ds) q t, z => by
    obtain ⟨A, h1, h2, h3⟩ := Reps.tpart t z
    have hB : Same (fun b => if b = a then some (.tup vs) else none : Hp) F := fun b o h => by
      have h : (if b = a then some (HO.tup vs) else none) = some o := h
      by_cases e : b = a
      · subst e; rw [if_pos rfl] at h; rw [q]; exact h
      · rw [if_neg e] at h; cases h
    have hr : Rep K (unF A (fun b => if b = a then some (.tup vs) else none)) (.tup ds) (.ref a) := .tup (unF_r h1 hB _ _ (if_pos rfl)) (h3.mono unF_l)
    refine ⟨_, unF_h h1 hB, fun b o h => ?_, hr⟩
    rcases unF_of h with h | h
    · obtain ⟨d0, y, r⟩ := h2 _ _ h
      exact ⟨d0, y, r.mono unF_l⟩
    · have h : (if b = a then some (HO.tup vs) else none) = some o := h
      by_cases e : b = a
      · subst e
        exact ⟨.tup ds, z, hr⟩
      · rw [if_neg e] at h; cases h
  | _, _, .lst _ _, z => nomatch z
  | _, _, .scr _, z => nomatch z
  | _, _, .dK _ _, z => nomatch z
  | _, _, .dT _ _, z => nomatch z
  | _, _, .ref _, z => nomatch z
  | _, _, .rows _ _, z => nomatch z
  | _, _, .exn _ _, z => nomatch z
  | _, _, .deep _ _, z => nomatch z
  | _, _, .obj _, z => nomatch z
theorem Reps.tpart : ∀ {ds : List D} {vs : List V}, Reps K F ds vs → tOs ds = true → ∃ A, Same A F ∧ TupF K A ∧ Reps K A ds vs
  | _, _, .nil, _ => ⟨fun _ => none, (fun _ _ h => nomatch h), TupF.none, .nil⟩
  | _, _, .cons r t, z => by
    have z := Bool.and_eq_true_iff.mp z
    obtain ⟨A, h1, h2, h3⟩ := Rep.tpart r z.1
    obtain ⟨B, g1, g2, g3⟩ := Reps.tpart t z.2
    exact ⟨unF A B, unF_h h1 g1, h2.un h1 g1 g2, .cons (h3.mono unF_l) (g3.mono (unF_r h1 g1))⟩
end
mutual
/-- what holds no list is settled anew beside the rest -/
theorem OwD.mix (s1 : Same F H') (s2 : Same F' H') : ∀ {d : D} {v : V}, Rep K F' d v → dat1 d = true → (∃ A, Same A F' ∧ TupF K A ∧ OwD K A H' d v)
  | _, _, .non, _ => ⟨fun _ => none, (fun _ _ h => nomatch h), TupF.none, .set rfl .non⟩
  | _, _, .bl b, _ => ⟨fun _ => none, (fun _ _ h => nomatch h), TupF.none, .set rfl (.bl b)⟩
  | _, _, .int b, _ => ⟨fun _ => none, (fun _ _ h => nomatch h), TupF.none, .set rfl (.int b)⟩
  | _, _, .str b, _ => ⟨fun _ => none, (fun _ _ h => nomatch h), TupF.none, .set rfl (.str b)⟩
  | _, _, .lst (ds := ds) q t, z => by
    obtain ⟨A, a1, a2, a3⟩ := OwDs.mix s1 s2 t z
    exact ⟨A, a1, a2, .lst (s2 _ _ q) a3⟩
  | _, _, .tup (ds := ds) q t, z => by
    cases h : tOs ds with
    | true =>
      obtain ⟨B, b1, b2, b3⟩ := Rep.tpart (.tup q t) (show tO1 (.tup ds) = true from h)
      exact ⟨B, b1, b2, .set h b3⟩
    | false =>
      obtain ⟨A, a1, a2, a3⟩ := OwDs.mix s1 s2 t z
      exact ⟨A, a1, a2, .tup h (s2 _ _ q) a3⟩
  | _, _, .scr _, z => nomatch z
  | _, _, .dK _ _, z => nomatch z
  | _, _, .dT _ _, z => nomatch z
  | _, _, .ref _, z => nomatch z
  | _, _, .rows _ _, z => nomatch z
  | _, _, .exn _ _, z => nomatch z
  | _, _, .deep _ _, z => nomatch z
  | _, _, .obj _, z => nomatch z
theorem OwDs.mix (s1 : Same F H') (s2 : Same F' H') : ∀ {ds : List D} {vs : List V}, Reps K F' ds vs → dats ds = true → (∃ A, Same A F' ∧ TupF K A ∧ OwDs K A H' ds vs)
  | _, _, .nil, _ => ⟨fun _ => none, (fun _ _ h => nomatch h), TupF.none, .nil⟩
  | _, _, .cons r t, z => by
    have z := Bool.and_eq_true_iff.mp z
    obtain ⟨A, a1, a2, a3⟩ := OwD.mix s1 s2 r z.1
    obtain ⟨B, b1, b2, b3⟩ := OwDs.mix s1 s2 t z.2
    exact ⟨unF A B, unF_h a1 b1, a2.un a1 b1 b2, .cons (OwD.mono unF_l (Same.refl _) a3) (OwDs.mono (unF_r a1 b1) (Same.refl _) b3)⟩
end
def rowT : D → Bool
  | .lst xs => tOs xs
  | _ => false
def argOk : D → Bool
  | .lst ds => tOs ds
  | .rows rs => rs.all rowT
  | d => tO1 d
theorem rows_part (s : Same F H) : ∀ {rs : List D} {vs : List V}, rs.all rowT = true → (Reps K F rs vs ∨ RowsAt K F H rs vs) → ∃ A, Same A F ∧ TupF K A ∧ RowsAt K A H rs vs
  | [], _, _, w => by
    rcases w with w | w <;> cases w <;> exact ⟨fun _ => none, (fun _ _ h => nomatch h), TupF.none, .nil⟩
  | r :: rs, _, z, w => by
    have z := Bool.and_eq_true_iff.mp (by rw [List.all_cons] at z; exact z)
    have step : ∀ {b : Addr} {us vs : List V} {xs : List D}, r = .lst xs → H b = some (.lst us) → Reps K F xs us → (Reps K F rs vs ∨ RowsAt K F H rs vs) → ∃ A, Same A F ∧ TupF K A ∧ RowsAt K A H (r :: rs) (.ref b :: vs) := fun {b us vs xs} e q t w' => by
      subst e
      obtain ⟨A, a1, a2, a3⟩ := Reps.tpart t (show tOs xs = true from z.1)
      obtain ⟨B, b1, b2, b3⟩ := rows_part s z.2 w'
      exact ⟨unF A B, unF_h a1 b1, a2.un a1 b1 b2, .cons q (a3.mono unF_l) (RowsAt.mono (unF_r a1 b1) b3 fun _ _ _ h => h)⟩
    rcases w with w | w
    · cases w with
      | cons q t =>
        cases q with
        | lst q' t' => exact step rfl (s _ _ q') t' (.inl t)
        | _ => exact nomatch z.1
    · cases w with
      | cons q t u => exact step rfl q t (.inr u)
theorem View.part (s : Same F H) {d : D} {v : V} (w : View K F H d v) (z : argOk d = true) : ∃ A, Same A F ∧ TupF K A ∧ View K A H d v := by
  cases d with
  | non => exact ⟨fun _ => none, (fun _ _ h => nomatch h), TupF.none, w⟩
  | bl b => exact ⟨fun _ => none, (fun _ _ h => nomatch h), TupF.none, w⟩
  | int b => exact ⟨fun _ => none, (fun _ _ h => nomatch h), TupF.none, w⟩
  | str b => exact ⟨fun _ => none, (fun _ _ h => nomatch h), TupF.none, w⟩
  | lst ds =>
    obtain ⟨a, vs, e, q, t⟩ := w
    obtain ⟨A, a1, a2, a3⟩ := Reps.tpart t z
    exact ⟨A, a1, a2, a, vs, e, q, a3⟩
  | tup ds =>
    obtain ⟨a, vs, e, q, t⟩ := w
    obtain ⟨A, a1, a2, a3⟩ := Reps.tpart t (show tOs ds = true from z)
    exact ⟨A, a1, a2, a, vs, e, q, a3⟩
  | rows rs =>
    obtain ⟨a, vs, e, q, t⟩ := w
    obtain ⟨A, a1, a2, a3⟩ := rows_part s z t
    exact ⟨A, a1, a2, a, vs, e, q, .inr a3⟩
  | _ => exact nomatch z
theorem Views.part (s : Same F H) : ∀ {ds : List D} {vs : List V}, Views K F H ds vs → ds.all argOk = true → ∃ A, Same A F ∧ TupF K A ∧ Views K A H ds vs
  | _, _, .nil, _ => ⟨fun _ => none, (fun _ _ h => nomatch h), TupF.none, .nil⟩
  | _, _, .cons w t, z => by
    have z := Bool.and_eq_true_iff.mp (by rw [List.all_cons] at z; exact z)
    obtain ⟨A, a1, a2, a3⟩ := w.part s z.1
    obtain ⟨B, b1, b2, b3⟩ := Views.part s t z.2
    refine ⟨unF A B, unF_h a1 b1, a2.un a1 b1 b2, .cons (a3.mono unF_l (Same.refl _)) ?_⟩
    have go : ∀ {ds : List D} {vs : List V}, Views K B H ds vs → Views K (unF A B) H ds vs := fun {ds vs} h => by
      induction h with
      | nil => exact .nil
      | cons w t ih => exact .cons (w.mono (unF_r a1 b1) (Same.refl _)) ih
    exact go b3
end
section
variable {X : Cx} {C : Cd} {e a : Expr} {es : List Expr} {fs : En → R (List D)} {f : En → R D} {pos p p1 apos cpos : Pos} {kk n : Nat} {fa : Addr} {fd : FuncData} {ps : List Str} {x : Str} {cls : Str → Addr} {den : Den} {CX : CXT} {E : XK} {ρ : En} {σ : L2.St} {F H : Hp}
end
mutual
def jkB : D → Nat
  | .lst ds => ds.length
  | .junk n => n
  | .tup ds => jkBs ds
  | _ => 0
def jkBs : List D → Nat
  | [] => 0
  | d :: ds => max (jkB d) (jkBs ds)
end
mutual
def jkD (N : Nat) : D → D
  | .lst _ => .junk N
  | .junk _ => .junk N
  | .tup ds => .tup (jkDs N ds)
  | d => d
def jkDs (N : Nat) : List D → List D
  | [] => []
  | d :: ds => jkD N d :: jkDs N ds
end
mutual
theorem jkD_id {N : Nat} : ∀ {d : D}, tO1 d = true → jkD N d = d
  | .tup ds, h => by
    simp only [jkD]
    rw [jkDs_id (show tOs ds = true from h)]
  | .non, _ => by simp only [jkD]
  | .bl _, _ => by simp only [jkD]
  | .int _, _ => by simp only [jkD]
  | .str _, _ => by simp only [jkD]
theorem jkDs_id {N : Nat} : ∀ {ds : List D}, tOs ds = true → jkDs N ds = ds
  | [], _ => by simp only [jkDs]
  | d :: ds, h => by
    have h := Bool.and_eq_true_iff.mp h
    simp only [jkDs]
    rw [jkD_id h.1, jkDs_id h.2]
end
theorem rch_flat {H : Hp} {d : D} {v : V} (h : tO1 d = true) : rch H d v = [] := by
  cases d with
  | tup ds =>
    have h : tOs ds = true := h
    cases v <;> simp only [rch, h, if_true]
  | lst ds => exact nomatch h
  | junk n => exact nomatch h
  | _ => cases v <;> simp only [rch]
theorem OwDs.length {K : Kx} {F H : Hp} : ∀ {ds : List D} {vs : List V}, OwDs K F H ds vs → vs.length = ds.length
  | _, _, .nil => rfl
  | _, _, .cons _ t => congrArg (· + 1) (OwDs.length t)
section
variable {K : Kx} {F H H' : Hp} {c : Addr} {us us' : List V} {N : Nat}
mutual
theorem OwD.jk (hH : ∀ b, b ≠ c → H' b = H b) (hc : H c = some (.lst us)) (hc' : H' c = some (.lst us')) (hl : us'.length ≤ us.length + 1) : ∀ {d : D} {v : V}, OwD K F H d v → jkB d + 1 ≤ N →
    OwD K F H' (jkD N d) v ∧ (∀ b ∈ rch H' (jkD N d) v, b ∈ rch H d v) ∧ tO1 (jkD N d) = tO1 d
  | d, v, .set z r, _ => by
    rw [jkD_id z]
    exact ⟨.set z r, (fun b hb => by rw [rch_flat z] at hb; exact nomatch hb), rfl⟩
  | _, _, .lst (a := a) (vs := vs) (ds := ds) q t, hN => by
    simp only [jkB] at hN
    simp only [jkD]
    refine ⟨?_, fun b hb => ?_, rfl⟩
    · by_cases e : a = c
      · subst e
        rw [q] at hc
        cases hc
        exact .junk hc' (by have := t.length; omega)
      · exact .junk ((hH a e).trans q) (by have := t.length; omega)
    · simp only [rch] at hb ⊢
      rw [List.mem_singleton.mp hb]
      exact List.mem_cons_self
  | _, _, .junk (a := a) (vs := vs) (n := n) q l, hN => by
    simp only [jkB] at hN
    simp only [jkD]
    refine ⟨?_, fun b hb => ?_, rfl⟩
    · by_cases e : a = c
      · subst e
        rw [q] at hc
        cases hc
        exact .junk hc' (by omega)
      · exact .junk ((hH a e).trans q) (by omega)
    · simp only [rch] at hb ⊢
      exact hb
  | _, _, .tup (a := a) (vs := vs) (ds := ds) z q t, hN => by
    simp only [jkB] at hN
    have ha : H' a = H a := hH a fun e => by subst e; rw [q] at hc; cases hc
    obtain ⟨t1, t2, t3⟩ := OwDs.jk hH hc hc' hl t hN
    have z' : tOs (jkDs N ds) = false := t3.trans z
    refine ⟨?_, fun b hb => ?_, ?_⟩
    · simp only [jkD]
      exact .tup z' (ha.trans q) t1
    · simp only [jkD, rch, z', z, Bool.false_eq_true, if_false, ha, q] at hb ⊢
      rcases List.mem_cons.mp hb with rfl | hb
      · exact List.mem_cons_self
      · exact List.mem_cons_of_mem _ (t2 b hb)
    · simp only [jkD]
      exact t3
theorem OwDs.jk (hH : ∀ b, b ≠ c → H' b = H b) (hc : H c = some (.lst us)) (hc' : H' c = some (.lst us')) (hl : us'.length ≤ us.length + 1) : ∀ {ds : List D} {vs : List V}, OwDs K F H ds vs → jkBs ds + 1 ≤ N →
    OwDs K F H' (jkDs N ds) vs ∧ (∀ b ∈ rchs H' (jkDs N ds) vs, b ∈ rchs H ds vs) ∧ tOs (jkDs N ds) = tOs ds
  | _, _, .nil, _ => by
    simp only [jkDs]
    exact ⟨.nil, (fun b hb => by simp only [rchs] at hb; exact nomatch hb), trivial⟩
  | _, _, .cons (d := d) (ds := ds) r t, hN => by
    simp only [jkBs] at hN
    obtain ⟨r1, r2, r3⟩ := OwD.jk hH hc hc' hl r (by omega)
    obtain ⟨t1, t2, t3⟩ := OwDs.jk hH hc hc' hl t (by omega)
    simp only [jkDs]
    refine ⟨.cons r1 t1, fun b hb => ?_, ?_⟩
    · simp only [rchs] at hb ⊢
      rcases List.mem_append.mp hb with hb | hb
      · exact List.mem_append_left _ (r2 b hb)
      · exact List.mem_append_right _ (t2 b hb)
    · show (tO1 (jkD N d) && tOs (jkDs N ds)) = (tO1 d && tOs ds)
      rw [r3, t3]
end
end
section
variable {X : Cx} {C : Cd} {e a o : Expr} {es : List Expr} {f : En → R D} {pos p p1 p2 apos cpos : Pos} {ρ : En} {σ : L2.St} {F H : Hp} {i : Nat} {ks : List Nat}
theorem Rel.jk {d : D} {l c : Addr} {us us' : List V} (r : Rel C ρ σ F H) (h : ρ[i]? = some (some (true, .deep d))) (q : σ[i]? = some (some (.ref l))) (hm : c ∈ rch H d (.ref l)) (hc : H c = some (.lst us)) (hl : us'.length ≤ us.length + 1) :
    Rel C (ρ.set i (some (true, .deep (jkD (jkB d + 1) d)))) σ F (upd H c (.lst us')) := by
  obtain ⟨a', q', n, nd, o⟩ := r.ownF i _ h
  rw [q] at q'
  cases q'
  obtain ⟨o1, o2, o3⟩ := OwD.jk (H' := upd H c (.lst us')) (N := jkB d + 1) (fun b hb => upd_ne hb) hc upd_same hl o.1 (Nat.le_refl _)
  have sub : ∀ b ∈ foot (upd H c (.lst us')) l (.deep (jkD (jkB d + 1) d)), b ∈ foot H l (.deep d) := fun b hb => by
    rcases deep_mem hb with rfl | hb
    · exact foot_head
    · exact mem_deep (o2 b hb)
  refine r.writeF h q (fun b hb => ?_) ⟨o1, o3.trans o.2⟩ (fun b hb => n b (sub b hb)) deep_nodup fun b hb => .inl (sub b hb)
  have : b = c := by
    by_cases z : b = c
    · exact z
    · exact absurd (upd_ne z) hb
  subst this
  exact ⟨.inl (mem_deep hm), n b (mem_deep hm)⟩
theorem OwDs.get {K : Kx} : ∀ {ds : List D} {vs : List V} {k : Nat} {d : D}, OwDs K F H ds vs → ds[k]? = some d → ∃ v, vs[k]? = some v ∧ OwD K F H d v ∧ ∀ b ∈ rch H d v, b ∈ rchs H ds vs
  | _, _, 0, _, .cons r t, h => by cases h; exact ⟨_, rfl, r, fun b hb => by simp only [rchs]; exact List.mem_append_left _ hb⟩
  | _, _, k + 1, _, .cons r t, h => by
    obtain ⟨v, h1, h2, h3⟩ := OwDs.get (k := k) t h
    exact ⟨v, h1, h2, fun b hb => by simp only [rchs]; exact List.mem_append_right _ (h3 b hb)⟩
end
section
variable {ρ ρ' : En} {i n : Nat} {d d0 : D} {den : Den} {ds : List D} {o : Bool} {ks : List Nat}
end
end DL
namespace DL
open PySem PySem.Spec PyProof.Rows L2
section
variable {K : Kx} {F F' H H' : Hp}
def NoLL (A : Hp) : Prop := ∀ b c us, A b = some (.lst (.ref c :: us)) → False
theorem NoLL.none : NoLL (fun _ => none) := fun _ _ _ h => nomatch h
theorem NoLL.un {A B : Hp} (a : NoLL A) (b : NoLL B) : NoLL (unF A B) := fun c d us h => by
  rcases unF_of h with h | h
  · exact a _ _ _ h
  · exact b _ _ _ h
theorem NoLL.tup {A : Hp} (h : TupF K A) : NoLL A := fun b c us e => by
  obtain ⟨d0, y, r⟩ := h _ _ e
  cases r with
  | tup q t => rw [q] at e; cases e
  | _ => exact nomatch y
end
section
variable {X : Cx} {C : Cd} {e a : Expr} {es : List Expr} {fs : En → R (List D)} {f : En → R D} {pos p p1 p2 p3 pt apos cpos : Pos} {kt kk n i j k : Nat} {fa : Addr} {fd : FuncData} {ps : List Str} {x x1 x2 x3 : Str} {cls : Str → Addr} {den : Den} {CX : CXT} {E : XK} {ρ : En} {σ : L2.St} {F H : Hp}
end
def sRetC (io : List Nat) (c : En → R (D × En)) : En → R Fl := fun ρ => bd (c ρ) fun r => retMK (.ok r.1) (ioOf r.2 io)
section
variable {X : Cx} {C : Cd} {e : Expr} {pos : Pos} {c : En → R (D × En)} {n : Nat} {io : List Nat} {ds : List D} {vs : List V}
end
theorem retC_ok {io : List Nat} {c : En → R (D × En)} {ρ ρ' : En} {d : D} {es : List D} (h : c ρ = .ok (d, ρ')) (h2 : ioOf ρ' io = some es) : sRetC io c ρ = .ok (.ret false (.tup (d :: es))) := by
  unfold sRetC
  rw [h, bd_ok]
  show retMK (.ok d) (ioOf ρ' io) = _
  rw [h2]; rfl
end DL
namespace DL
open PySem PySem.Spec PyProof.Rows L2
def ioEnvS (N : Nat) (io : List Nat) (ds : List D) : En := (List.range N).map fun i => match ds[i]? with | some d => some (decide (i ∈ io), d) | none => none
def bodyS (n N : Nat) (io : List Nat) (g : En → R Fl) : DenM := fun ds => if ds.length = n then endM io (noE (g (ioEnvS N io ds))) else .bad
theorem bodyS_len {n N : Nat} {io : List Nat} {g : En → R Fl} : ∀ ds z, bodyS n N io g ds = .ok z → ds.length = n := fun ds z h => by
  unfold bodyS at h
  split at h
  · assumption
  · cases h
def lnS (io : List Nat) (vs : List V) : Nat → Option (D × V) := fun i => if i ∈ io then some (.ref (addrAt vs i), .ref (addrAt vs i)) else none
theorem ioEnvS_get {N i : Nat} {io : List Nat} {ds : List D} {b : Bool} {d : D} (h : (ioEnvS N io ds)[i]? = some (some (b, d))) : b = decide (i ∈ io) ∧ ds[i]? = some d := by
  unfold ioEnvS at h
  rw [List.getElem?_map] at h
  cases hr : (List.range N)[i]? with
  | none => rw [hr] at h; cases h
  | some j =>
    rw [hr] at h
    have hj : j = i := by
      rw [List.getElem?_eq_some_iff] at hr
      obtain ⟨h1, h2⟩ := hr
      rw [List.getElem_range] at h2
      exact h2.symm
    subst hj
    have h : some (match ds[j]? with | some d => some (decide (j ∈ io), d) | none => none) = some (some (b, d)) := h
    cases hd : ds[j]? with
    | none => rw [hd] at h; cases h
    | some d' => rw [hd] at h; cases h; exact ⟨rfl, rfl⟩
structure ArgsS (K : Kx) (F H : Hp) (n : Nat) (io : List Nat) (ds : List D) (vs : List V) : Prop where
  sub : Same F (minus H (feet H (ioAs io vs) (ioDs io ds)))
  len : ds.length = n
  at_ : ∀ i ∈ io, i < n ∧ vs[i]? = some (.ref (addrAt vs i))
  own : OwnAll K F H (fun _ => none) (ioAs io vs) (ioDs io ds)
  rest : ∀ i, i < n → i ∉ io → ∃ d v, ds[i]? = some d ∧ vs[i]? = some v ∧ Rep K F d v
theorem start_relS {K : Kx} {F H : Hp} {N : List Str} {n : Nat} {io : List Nat} {ds : List D} {vs : List V} {XW : Str → L2.St → Hp → Prop} (hl : vs.length = n) (hN : n ≤ N.length) (m : ArgsS K F H n io ds vs) :
    Rel ⟨K, F, minus H (feet H (ioAs io vs) (ioDs io ds)), XW, lnS io vs, ioAs io vs, []⟩ (ioEnvS N.length io ds) (L2.start N vs) F H where
  ext := ⟨Same.refl _, same_minus, fun _ _ h => .inl h⟩
  sub := m.sub.trans same_minus
  len := by
    unfold L2.start ioEnvS
    simp only [List.length_append, List.length_map, List.length_replicate, List.length_range, hl]
    omega
  slot := fun i d h => by
    obtain ⟨hb, hd⟩ := ioEnvS_get h
    have hi : i ∉ io := of_decide_eq_false hb.symm
    have hlt : i < n := by rw [← m.len]; exact (List.getElem?_eq_some_iff.mp hd).1
    obtain ⟨d', v, e1, e2, w⟩ := m.rest i hlt hi
    rw [hd] at e1
    cases e1
    exact ⟨v, start_get e2, w⟩
  ownF := fun i d h => by
    obtain ⟨hb, hd⟩ := ioEnvS_get h
    have hi : i ∈ io := of_decide_eq_true hb.symm
    obtain ⟨k, hk⟩ := List.mem_iff_getElem?.mp hi
    obtain ⟨_, hv⟩ := m.at_ i hi
    have h1 := ioAs_get (vs := vs) hk
    have h2 := ioDs_get hk hd
    refine ⟨addrAt vs i, start_get hv, fun b hb => ?_, feet_nd m.own.2.1 h1 h2, m.own.2.2.2 k _ _ h1 h2⟩
    have hm := feet_mem h1 h2 hb
    exact ⟨(m.own.2.2.1 b hm).1, minus_in hm⟩
  apartF := fun i j d e a b c h1 h2 h3 h4 h5 h6 => by
    obtain ⟨hbi, hd⟩ := ioEnvS_get h1
    obtain ⟨hbj, he⟩ := ioEnvS_get h2
    have hi : i ∈ io := of_decide_eq_true hbi.symm
    have hj : j ∈ io := of_decide_eq_true hbj.symm
    obtain ⟨k, hk⟩ := List.mem_iff_getElem?.mp hi
    obtain ⟨k', hk'⟩ := List.mem_iff_getElem?.mp hj
    rw [start_get (m.at_ i hi).2] at h3
    rw [start_get (m.at_ j hj).2] at h4
    cases h3
    cases h4
    have := feet_apart m.own.2.1 (ioAs_get (vs := vs) hk) (ioDs_get hk hd) (ioAs_get (vs := vs) hk') (ioDs_get hk' he) h5 h6
    subst this
    rw [hk] at hk'
    cases hk'
    rfl
  wok := .nil
  lend := fun i d v h => by
    have h : lnS io vs i = some (d, v) := h
    unfold lnS at h
    by_cases hi : i ∈ io
    · rw [if_pos hi] at h
      cases h
      exact ⟨start_get (m.at_ i hi).2, rfl⟩
    · rw [if_neg hi] at h
      cases h
def spS (K : PySem.W.Frag) (cls : Str → Addr) (io : List Nat) (n : Nat) (den : DenM) : Sp := fun vs H Q E => vs.length = n ∧ ∃ (as : List Addr) (F : Hp) (ds : List D), ArgsS ⟨K, as⟩ F H n io ds vs ∧ match den ds with
  | .ok (d, es) => ∀ v F' H', Ext F (minus H (feet H (ioAs io vs) (ioDs io ds))) F' H' → Same F' H' → Rep ⟨K, as⟩ F' d v → OwnAll ⟨K, as⟩ F' H' (minus H (feet H (ioAs io vs) (ioDs io ds))) (ioAs io vs) es → Q v H'
  | _ => False
theorem ok_badS {K : PySem.W.Frag} {P : Program} {w : World} {mg : Str → Option Value} {base : Heap} {fa : Addr} {fd : FuncData} {ps : List Str} {k n : Nat} {cls : Str → Addr} {CX : CXT} {io : List Nat} (h : ps.length = n) : FnOk P w K mg base CX k fa fd ps (spS K cls io n (fun _ => .bad)) :=
  ⟨fun vs H Q E h' => h'.1.trans h.symm, fun A outer s H args us vs Q E _ _ _ _ h' => by
    obtain ⟨_, _, _, _, _, q⟩ := h'
    exact q.elim⟩
section
variable {X : Cx} {C : Cd} {e : Expr} {es : List Expr} {f : En → R D} {fs : En → R (List D)} {pos p : Pos} {kk n : Nat} {fa : Addr} {fd : FuncData} {ps : List Str} {x : Str} {cls : Str → Addr} {den : DenM} {CX : CXT} {E : XK} {ρ : En} {σ : L2.St} {F H : Hp} {io ios : List Nat} {ds : List D} {vs : List V}
theorem Rel.ownAllS {zs : List D} (r : Rel C ρ σ F H) (hc : C.ln = lnS io vs) (ha : C.io = ioAs io vs) (hnd : io.Nodup) (h : ioOf ρ io = some zs) : OwnAll C.K F H C.H0 C.io zs := by
  obtain ⟨h1, h2⟩ := ioOf_get h
  have key : ∀ (k : Nat) (a : Addr) (z : D), C.io[k]? = some a → zs[k]? = some z → ∃ i, io[k]? = some i ∧ ρ[i]? = some (some (true, z)) ∧ σ[i]? = some (some (.ref a)) ∧ (∀ b ∈ foot H a z, F b = none ∧ C.H0 b = none) ∧ (foot H a z).Nodup ∧ Own C.K F H a z := fun k a z hk hz => by
    rw [ha] at hk
    cases hi : io[k]? with
    | none =>
      unfold ioAs at hk
      rw [List.getElem?_map, hi] at hk
      cases hk
    | some i =>
      rw [ioAs_get hi] at hk
      cases hk
      obtain ⟨z', hz', hr⟩ := h2 k i hi
      rw [hz] at hz'
      cases hz'
      obtain ⟨a', q, n1, nd, o⟩ := r.ownF i z hr
      obtain ⟨q', _⟩ := r.lend i (.ref (addrAt vs i)) (.ref (addrAt vs i)) (by rw [hc]; unfold lnS; rw [if_pos (List.mem_of_getElem? hi)])
      rw [q] at q'
      cases q'
      exact ⟨i, rfl, hr, q, n1, nd, o⟩
  refine ⟨by rw [ha, h1]; unfold ioAs; rw [List.length_map], feet_nd_of (fun k a z hk hz => ?_) (fun k k' a a' z z' c hk hz hk' hz' hc1 hc2 => ?_), fun b hb => ?_, fun k a z hk hz => ?_⟩
  · obtain ⟨i, _, _, _, _, nd, _⟩ := key k a z hk hz
    exact nd
  · obtain ⟨i, e1, e2, e3, _⟩ := key k a z hk hz
    obtain ⟨j, f1, f2, f3, _⟩ := key k' a' z' hk' hz'
    have := r.apartF i j z z' a a' c e2 f2 e3 f3 hc1 hc2
    subst this
    obtain ⟨u1, u2⟩ := List.getElem?_eq_some_iff.mp e1
    obtain ⟨w1, w2⟩ := List.getElem?_eq_some_iff.mp f1
    exact (List.getElem_inj hnd).mp (u2.trans w2.symm)
  · obtain ⟨k, a, z, hk, hz, hb⟩ := feet_out hb
    obtain ⟨i, _, _, _, n1, _⟩ := key k a z hk hz
    exact n1 b hb
  · obtain ⟨i, _, _, _, _, _, o⟩ := key k a z hk hz
    exact o
theorem s_retS (he : PE X e (tE C f)) (hc : C.ln = lnS io vs := by rfl) (ha : C.io = ioAs io vs := by rfl) (hnd : io.Nodup := by decide) (hne : io ≠ [] := by decide) : PS X (.Return (some e) pos) (tS C (sRetM io f)) :=
  (ps_ret he).mono fun T σ H ⟨ρ, F, r, q⟩ => ⟨ρ, F, r, out_of (w := fun d => match ioOf ρ io with | some es => .ok (.ret false (.tup (d :: es))) | none => .bad) r q fun d v F' H' _ q x s r' w => by
    cases hz : ioOf ρ io with
    | none => rw [hz] at q; exact q.elim
    | some zs =>
      rw [hz] at q
      have oa := r'.ownAllS hc ha hnd hz
      refine q v F' H' r'.ext s ?_
      unfold RetV
      split
      · rename_i h0
        rw [ha] at h0
        cases io with
        | nil => exact absurd rfl hne
        | cons i is => cases h0
      · exact ⟨rfl, d, zs, rfl, w, oa⟩⟩
theorem ok_defS {K : PySem.W.Frag} {P : Program} {w : World} {mg : Str → Option Value} {base : Heap} {x qual : Str} {fs : Stmt} {fa : Addr} {fd : FuncData} {N ps : List Str} {k : Nat} {cls : Str → Addr} {io : List Nat} {g : En → R Fl} (Fn : Fun K x qual fs fa fd) (S : FnScope N ps (defScope fs))
    (hb : ∀ (vs : List V) (cdv : Value) (A : Around) (outer : List Env) (s : Shared) (H : Hp) (E : XK) (F0 H0 : Hp) (as : List Addr), Room k (A.deeper (envOfC qual (defScope fs) s.heap.objs.size fa cdv)) → PSs (cxOf CX0 P w K mg base N qual (defScope fs) fa cdv A outer s H E).nox (defBody fs) (tS ⟨⟨K, as⟩, F0, H0, fun _ _ _ => False, lnS io vs, ioAs io vs, []⟩ g))
    (hnd : io.Nodup := by decide) (hne : io ≠ [] := by decide) :
    FnOk P w K mg base CX0 (k + 1) fa fd ps (spS K cls io ps.length (bodyS ps.length N.length io g)) := by
  refine Fn.ok S (fun vs H Q E h => h.1) (fun cdv A outer s H vs Q E hr h => ?_)
  obtain ⟨hl, as, F, ds, m, q⟩ := h
  have hN : ps.length ≤ N.length := by
    have := congrArg List.length S.pre
    rw [List.length_take] at this
    omega
  refine ⟨_, hb vs cdv A outer s H E F _ as hr, ioEnvS N.length io ds, F, start_relS hl hN m, ?_⟩
  unfold bodyS at q
  rw [if_pos m.len] at q
  cases hgg : g (ioEnvS N.length io ds) with
  | bad => rw [hgg] at q; exact q.elim
  | err c => rw [hgg] at q; exact q.elim
  | ok fl =>
    rw [hgg] at q
    cases fl with
    | next ρ' =>
      intro σ' F' H' s' r'
      cases hz : ioOf ρ' io with
      | none =>
        have q : (match endMK (ioOf ρ' io) with | .ok (d, es) => _ | _ => False) := q
        rw [hz] at q
        exact q.elim
      | some zs =>
        rw [endM_next hz] at q
        exact q .non F' H' r'.ext r'.sub .non (r'.ownAllS rfl rfl hnd hz)
    | ret o d =>
      intro v F' H' x s' w
      unfold RetV at w
      split at w
      · rename_i h0
        cases io with
        | nil => exact absurd rfl hne
        | cons i is => cases h0
      · obtain ⟨rfl, d0, zs, rfl, w1, w2⟩ := w
        rw [endM_ret] at q
        exact q v F' H' x s' w1 w2
    | brk ρ' => exact q.elim
    | cont ρ' => exact q.elim
def chkS (n : Nat) (io ios : List Nat) (ks : List AK) : Bool :=
  decide (ks.length = n) && decide (io.length = ios.length) && (List.range n).all (fun i => match ks[i]? with
    | some (.io j) => (List.range io.length).any fun m => decide (io[m]? = some i) && decide (ios[m]? = some j)
    | some .e => decide (i ∉ io)
    | _ => false) && io.all (fun i => decide (i < n)) && decide io.Nodup && decide ios.Nodup
theorem callS_ok {ks : List AK} (hk : chkS n io ios ks = true) (hn : ∀ ds z, den ds = .ok z → ds.length = n) : ∀ σ H Q, tM C (callM den fs ios) σ H Q → tCall (spS C.K.fr cls io n den) [] E (tAM C ks fs) σ H Q := by
  rintro σ H Q ⟨ρ, F, r, q⟩
  unfold chkS at hk
  simp only [Bool.and_eq_true, decide_eq_true_eq] at hk
  obtain ⟨⟨⟨⟨⟨k1, k2⟩, k3⟩, k4⟩, k5⟩, k6⟩ := hk
  refine ⟨ρ, F, r, ?_⟩
  unfold callM at q
  cases hf : fs ρ with
  | bad => rw [hf] at q; exact q.elim
  | err c => rw [hf] at q; exact q.elim
  | ok ds =>
    rw [hf, bd_ok] at q
    cases hw : ioOf ρ ios with
    | none => rw [hw] at q; exact q.elim
    | some ws =>
      rw [hw] at q
      have q : (match noErr (callM2 (den ds) ios ρ) with | .ok (d, ρ') => ∀ v F' H', Same F F' → Rel C ρ' σ F' H' → Rep C.K F' d v → Q v H' | .err s => ∀ F' H', Ext F H F' H' → Same F' H' → C.XW s σ H' | .bad => False) := q
      unfold callM2 at q
      cases hden : den ds with
      | bad => rw [hden] at q; exact q.elim
      | err c => rw [hden] at q; exact q.elim
      | ok z =>
        obtain ⟨d, zs⟩ := z
        rw [hden, bd_ok] at q
        cases hput : putIO ρ ios zs with
        | none =>
          have q : (match noErr (putMK d (putIO ρ ios zs)) with | .ok (d, ρ') => ∀ v F' H', Same F F' → Rel C ρ' σ F' H' → Rep C.K F' d v → Q v H' | .err s => ∀ F' H', Ext F H F' H' → Same F' H' → C.XW s σ H' | .bad => False) := q
          rw [hput] at q
          exact q.elim
        | some ρ' =>
          have q : (match noErr (putMK d (putIO ρ ios zs)) with | .ok (d, ρ') => ∀ v F' H', Same F F' → Rel C ρ' σ F' H' → Rep C.K F' d v → Q v H' | .err s => ∀ F' H', Ext F H F' H' → Same F' H' → C.XW s σ H' | .bad => False) := q
          rw [hput] at q
          have q : ∀ v F' H', Same F F' → Rel C ρ' σ F' H' → Rep C.K F' d v → Q v H' := q
          intro vs F1 H1 x1 s1 w1
          have r1 := r.grow x1 s1
          obtain ⟨l1, gw⟩ := ioOf_get hw
          obtain ⟨a1, a2⟩ := ArgsOk.lens (ks := []) w1
          have hlen := hn ds _ hden
          -- the kinds
          have kind : ∀ i, i < n → ∃ k, ks[i]? = some k ∧ ((∃ j m, k = .io j ∧ io[m]? = some i ∧ ios[m]? = some j) ∨ (i ∉ io ∧ k = .e)) := fun i hi => by
            have h := List.all_eq_true.mp k3 i (List.mem_range.mpr hi)
            have hki : ks[i]? = some ks[i] := List.getElem?_eq_getElem (by omega)
            refine ⟨_, hki, ?_⟩
            rw [hki] at h
            cases hkk : ks[i] with
            | io j =>
              rw [hkk] at h
              obtain ⟨m, _, hm⟩ := List.any_eq_true.mp h
              simp only [Bool.and_eq_true, decide_eq_true_eq] at hm
              exact .inl ⟨j, m, rfl, hm.1, hm.2⟩
            | own j => rw [hkk] at h; cases h
            | ln j => rw [hkk] at h; cases h
            | e =>
              rw [hkk] at h
              exact .inr ⟨of_decide_eq_true h, rfl⟩
            | vw => rw [hkk] at h; cases h
          have ioat : ∀ (m i j : Nat), io[m]? = some i → ios[m]? = some j → i < n ∧ ∃ d, ds[i]? = some d ∧ ρ[j]? = some (some (true, d)) ∧ vs[i]? = some (.ref (addrAt vs i)) ∧ σ[j]? = some (some (.ref (addrAt vs i))) := fun m i j hm hj => by
            have hi : i < n := of_decide_eq_true (List.all_eq_true.mp k4 i (List.mem_of_getElem? hm))
            obtain ⟨k, hk, hc⟩ := kind i hi
            rcases hc with ⟨j', m', rfl, e1, e2⟩ | ⟨hc, _⟩
            · have : m' = m := by
                obtain ⟨u1, u2⟩ := List.getElem?_eq_some_iff.mp e1
                obtain ⟨w1, w2⟩ := List.getElem?_eq_some_iff.mp hm
                exact (List.getElem_inj k5).mp (u2.trans w2.symm)
              subst this
              rw [hj] at e2
              cases e2
              obtain ⟨d', v, f1, f2, f3, f4⟩ := w1.get hk
              obtain ⟨a, qa, _⟩ := r1.ownF j d' f3
              rw [f4] at qa
              cases qa
              have : addrAt vs i = a := by unfold addrAt; rw [f2]
              rw [this]
              exact ⟨hi, d', f1, f3, f2, f4⟩
            · exact absurd (List.mem_of_getElem? hm) hc
          have hDs : ioDs io ds = ws := by
            refine List.ext_getElem? fun m => ?_
            cases hm : io[m]? with
            | none =>
              have h1 : io.length ≤ m := List.getElem?_eq_none_iff.mp hm
              rw [List.getElem?_eq_none (by unfold ioDs; rw [List.length_map]; exact h1), List.getElem?_eq_none (by omega)]
            | some i =>
              have hm' : m < ios.length := by rw [← k2]; exact (List.getElem?_eq_some_iff.mp hm).1
              have hj : ios[m]? = some ios[m] := List.getElem?_eq_getElem hm'
              obtain ⟨_, d', e1, e2, _⟩ := ioat m i _ hm hj
              obtain ⟨w, g1, g2⟩ := gw m _ hj
              rw [e2] at g2
              cases g2
              rw [ioDs_get hm e1, g1]
          have hAs : (ioAs io vs).length = ios.length := by unfold ioAs; rw [List.length_map]; exact k2
          have hat : ∀ (m j : Nat), ios[m]? = some j → ∃ a, (ioAs io vs)[m]? = some a ∧ σ[j]? = some (some (.ref a)) := fun m j hj => by
            have hm' : m < io.length := by rw [k2]; exact (List.getElem?_eq_some_iff.mp hj).1
            have hm : io[m]? = some io[m] := List.getElem?_eq_getElem hm'
            obtain ⟨_, d', _, _, _, e3⟩ := ioat m _ j hm hj
            exact ⟨_, ioAs_get hm, e3⟩
          have key : ∀ (k : Nat) (a : Addr) (z : D), (ioAs io vs)[k]? = some a → ws[k]? = some z → ∃ j, ios[k]? = some j ∧ ρ[j]? = some (some (true, z)) ∧ σ[j]? = some (some (.ref a)) := fun k a z ha hz => by
            have hk' : k < ios.length := by rw [← hAs]; exact (List.getElem?_eq_some_iff.mp ha).1
            have hj : ios[k]? = some ios[k] := List.getElem?_eq_getElem hk'
            obtain ⟨z', g1, g2⟩ := gw k _ hj
            rw [hz] at g1
            cases g1
            obtain ⟨a', g3, g4⟩ := hat k _ hj
            rw [ha] at g3
            cases g3
            exact ⟨_, hj, g2, g4⟩
          have hS0 : ∀ c ∈ feet H1 (ioAs io vs) ws, F1 c = none ∧ C.H0 c = none := fun c hc => by
            obtain ⟨m, a, z, e1, e2, e3⟩ := feet_out hc
            obtain ⟨j, g1, g2, g3⟩ := key m a z e1 e2
            obtain ⟨a', qa, n1, _⟩ := r1.ownF j z g2
            rw [g3] at qa
            cases qa
            exact n1 c e3
          have hown : OwnAll C.K F1 H1 (fun _ => none) (ioAs io vs) ws := by
            refine ⟨by rw [hAs, l1], feet_nd_of (fun k a z ha hz => ?_) (fun k k' a a' z z' c ha hz ha' hz' c1 c2 => ?_), fun b hb => ⟨(hS0 b hb).1, rfl⟩, fun k a z ha hz => ?_⟩
            · obtain ⟨j, g1, g2, g3⟩ := key k a z ha hz
              obtain ⟨a', qa, _, nd, _⟩ := r1.ownF j z g2
              rw [g3] at qa
              cases qa
              exact nd
            · obtain ⟨j, g1, g2, g3⟩ := key k a z ha hz
              obtain ⟨j', g1', g2', g3'⟩ := key k' a' z' ha' hz'
              have := r1.apartF j j' z z' a a' c g2 g2' g3 g3' c1 c2
              subst this
              obtain ⟨u1, u2⟩ := List.getElem?_eq_some_iff.mp g1
              obtain ⟨w1, w2⟩ := List.getElem?_eq_some_iff.mp g1'
              exact (List.getElem_inj k6).mp (u2.trans w2.symm)
            · obtain ⟨j, g1, g2, g3⟩ := key k a z ha hz
              obtain ⟨a', qa, _, _, o⟩ := r1.ownF j z g2
              rw [g3] at qa
              cases qa
              exact o
          have hsub : Same F1 (minus H1 (feet H1 (ioAs io vs) ws)) := same_minus_of s1 fun b hb => (hS0 b hb).1
          have h0m : Same C.H0 (minus H1 (feet H1 (ioAs io vs) ws)) := fun b u h => by
            rw [minus_out fun hb => by rw [(hS0 b hb).2] at h; cases h]
            exact r1.ext.h b u h
          refine ⟨by rw [List.append_nil]; omega, C.K.as, F1, ds, ?_, ?_⟩
          · rw [List.append_nil]
            refine ⟨by rw [hDs]; exact hsub, hlen, fun i hi => ?_, by rw [hDs]; exact hown, fun i hi hio => ?_⟩
            · obtain ⟨m, hm⟩ := List.mem_iff_getElem?.mp hi
              have hm' : m < ios.length := by rw [← k2]; exact (List.getElem?_eq_some_iff.mp hm).1
              obtain ⟨h1, _, _, _, h3, _⟩ := ioat m i _ hm (List.getElem?_eq_getElem hm')
              exact ⟨h1, h3⟩
            · obtain ⟨k, hk, hc⟩ := kind i hi
              rcases hc with ⟨j, m, _, e1, _⟩ | ⟨_, c1⟩
              · exact absurd (List.mem_of_getElem? e1) hio
              · obtain ⟨d', v, f1, f2, f3⟩ := w1.get hk
                subst c1
                exact ⟨d', v, f1, f2, f3⟩
          · rw [List.append_nil, hDs, hden]
            exact fun v F' H' x s w o => q v F' H' (x1.f.trans x.f) (r1.putIO k6 hw hAs hat x s o hput) w
theorem d_callS {ks : List AK} (Fo : FnOk X.prog X.w X.K X.mg X.base CX kk fa fd ps (spS C.K.fr cls io n den)) (hn : ∀ ds z, den ds = .ok z → ds.length = n) (hr : Room kk X.A) (hm : X.mg x = some (.ref fa)) (hk : PySem.W.keepIn X.K (.ref fa) = true) (hb : Binds X.K fd ps []) (hx : Passes CX X E)
    (ha : PA X (e :: es) (tAM C ks fs)) (hc : chkS n io ios ks = true := by decide) (hg : Gl X x := by rfl) (hdb : (x == ("__debug__" : Str)) = false := by decide) (he : starEach (e :: es) X.env = (false, eval e X.env) :: starEach es X.env := by rfl) (hpl : (backTo pos (starEach es X.env)).any (·.1) = false := by rfl) :
    PE X (.Call (.Name x p) (e :: es) [] pos) (tM C (callM den fs ios)) := (pe_call Fo hr hg hm hk hb .nil hx ha hdb he hpl).mono (callS_ok hc hn)
variable {c : En → R (D × En)}
theorem s_retCS (he : PE X e (tM C c)) (hc : C.ln = lnS io vs := by rfl) (ha : C.io = ioAs io vs := by rfl) (hnd : io.Nodup := by decide) (hne : io ≠ [] := by decide) : PS X (.Return (some e) pos) (tS C (sRetC io c)) :=
  (ps_ret he).mono fun T σ H ⟨ρ, F, r, q⟩ => tM_of (w := fun r => retMK (.ok r.1) (ioOf r.2 io)) r q fun d ρ' v F' H' q r' w => by
    cases hz : ioOf ρ' io with
    | none =>
      have q : Post C T F' (retMK (.ok d) (ioOf ρ' io)) := q
      rw [hz] at q; exact q.elim
    | some zs =>
      have q : Post C T F' (retMK (.ok d) (ioOf ρ' io)) := q
      rw [hz] at q
      have oa := r'.ownAllS hc ha hnd hz
      refine q v F' H' r'.ext r'.sub ?_
      unfold RetV
      split
      · rename_i h0
        rw [ha] at h0
        cases io with
        | nil => exact absurd rfl hne
        | cons i is => cases h0
      · exact ⟨rfl, d, zs, rfl, w, oa⟩
end
end DL
namespace DL
open PySem PySem.Spec PyProof.Rows L2
section
variable {X : Cx} {C : Cd} {e a b tg iter elt : Expr} {es : List Expr} {f : En → R D} {fs : En → R (List D)} {pos p : Pos} {ρ : En} {σ : L2.St} {F H F' H' H0' : Hp}
theorem Rel.chg {D : Addr} {XW' : Str → L2.St → Hp → Prop} {wd' : Wd} (r : Rel C ρ σ F H) (ap : ∀ (j : Nat) (e : DL.D) (b : Addr), ρ[j]? = some (some (true, e)) → σ[j]? = some (some (.ref b)) → D ∉ foot H b e)
    (hF : Same F F') (hF' : ∀ c, c ≠ D → F' c = F c) (hH' : ∀ c, c ≠ D → H' c = H c) (sub : Same F' H') (h0 : Same H0' H') (hn : ∀ a u, F' a = some u → C.F0 a = some u ∨ H0' a = none) (hz : ∀ c, c ≠ D → C.H0 c = none → H0' c = none)
    (hv : ∀ (i : Nat) (d : DL.D) (v : V), C.ln i = some (d, v) → View C.K C.F0 H0' d v) (hw : WV C.K C.F0 H0' wd') : Rel ⟨C.K, C.F0, H0', XW', C.ln, C.io, wd'⟩ ρ σ F' H' := by
  have ft : ∀ (j : Nat) (e : DL.D) (b : Addr), ρ[j]? = some (some (true, e)) → σ[j]? = some (some (.ref b)) → foot H' b e = foot H b e := fun j e b h1 h2 => by
    obtain ⟨b', q, _, _, o⟩ := r.ownF j e h1
    rw [h2] at q
    cases q
    exact foot_same o fun c hc => hH' c fun z => ap j e b h1 h2 (z ▸ hc)
  refine ⟨⟨r.ext.f.trans hF, h0, hn⟩, sub, r.len, fun i d h => ?_, fun i d h => ?_, fun i j d e a b c h1 h2 h3 h4 h5 h6 => ?_, fun i d v h => ⟨(r.lend i d v h).1, hv i d v h⟩, hw⟩
  · obtain ⟨v, q, w⟩ := r.slot i d h
    exact ⟨v, q, w.mono hF⟩
  · obtain ⟨a, q, n, nd, o⟩ := r.ownF i d h
    have hp := ap i d a h q
    refine ⟨a, q, fun c hc => ?_, by rw [ft i d a h q]; exact nd, o.at hF fun c hc u hu => (hH' c fun z => hp (z ▸ hc)).trans hu⟩
    rw [ft i d a h q] at hc
    have hne : c ≠ D := fun z => hp (z ▸ hc)
    exact ⟨(hF' c hne).trans (n c hc).1, hz c hne (n c hc).2⟩
  · rw [ft i d a h1 h3] at h5
    rw [ft j e b h2 h4] at h6
    exact r.apartF i j d e a b c h1 h2 h3 h4 h5 h6
theorem Rel.sig {σ2 : L2.St} (r : Rel C ρ σ F H) (hl : σ2.length = σ.length) (h : ∀ j, (∃ b d, ρ[j]? = some (some (b, d))) ∨ C.ln j ≠ none → σ2[j]? = σ[j]?) : Rel C ρ σ2 F H := by
  refine ⟨r.ext, r.sub, hl.trans r.len, fun i d e => ?_, fun i d e => ?_, fun i j d e a b c h1 h2 h3 h4 => ?_, fun i d v e => ?_, r.wok⟩
  · rw [h i (.inl ⟨_, _, e⟩)]; exact r.slot i d e
  · rw [h i (.inl ⟨_, _, e⟩)]; exact r.ownF i d e
  · rw [h i (.inl ⟨_, _, h1⟩)] at h3
    rw [h j (.inl ⟨_, _, h2⟩)] at h4
    exact r.apartF i j d e a b c h1 h2 h3 h4
  · rw [h i (.inr fun z => by rw [z] at e; cases e)]; exact r.lend i d v e
theorem wipeR_get : ∀ {own : List Nat} {ρ : En} {j : Nat} {x : Bool × D}, (wipeR ρ own)[j]? = some (some x) → j ∉ own
  | [], _, _, _, _ => by simp
  | v :: own, ρ, j, x, h => by
    have h : ((wipeR ρ own).set v none)[j]? = some (some x) := h
    rcases get_set h with ⟨_, z⟩ | ⟨n, z⟩
    · cases z
    · intro hm
      rcases List.mem_cons.mp hm with rfl | hm
      · exact n rfl
      · exact wipeR_get z hm
theorem wipe_get : ∀ {own : List Nat} {σ : L2.St} {j : Nat}, j ∉ own → (L2.wipe σ own)[j]? = σ[j]?
  | [], _, _, _ => rfl
  | v :: own, σ, j, h => by
    show ((L2.wipe σ own).set v none)[j]? = _
    rw [List.getElem?_set_ne fun (z : v = j) => h (z ▸ List.mem_cons_self)]
    exact wipe_get fun z => h (List.mem_cons_of_mem _ z)
theorem Rel.unwipe {own : List Nat} (r : Rel C (wipeR ρ own) (L2.wipe σ own) F H) (hln : (own.all fun v => (C.ln v).isNone) = true) : Rel C (wipeR ρ own) σ F H :=
  r.sig (L2.wipe_length σ own).symm fun j h => by
    refine (wipe_get fun hm => ?_).symm
    rcases h with ⟨b, d, h⟩ | h
    · exact wipeR_get h hm
    · have := List.all_eq_true.mp hln j hm
      exact h (by simpa using this)
def lcMgo (own : List Nat) (g : D → En → Option En) (c : En → R (D × En)) : List D → En → R (List D × En)
  | [], ρ => .ok ([], ρ)
  | d :: ds, ρ => match g d (wipeR ρ own) with
    | none => .bad
    | some ρ1 => match c ρ1 with
      | .ok z => bd (lcMgo own g c ds z.2) fun r => .ok (z.1 :: r.1, r.2)
      | _ => .bad
def lcM (own : List Nat) (fi : En → R (List D)) (g : D → En → Option En) (c : En → R (D × En)) : En → R (D × En) := fun ρ => bd (fi ρ) fun ds =>
  grd (decide (ds.length < sizeLine)) (bd (lcMgo own g c ds ρ) fun r => .ok (.lst r.1, wipeR r.2 own))
theorem lcMgo_err {own : List Nat} {g : D → En → Option En} {c : En → R (D × En)} {s : Str} : ∀ {ds : List D} {ρ : En}, lcMgo own g c ds ρ ≠ .err s
  | [], _, h => by cases h
  | d :: ds, ρ, h => by
    unfold lcMgo at h
    cases hg : g d (wipeR ρ own) with
    | none => rw [hg] at h; cases h
    | some ρ1 =>
      rw [hg] at h
      dsimp only at h
      cases hc : c ρ1 with
      | bad => rw [hc] at h; cases h
      | err s => rw [hc] at h; cases h
      | ok z =>
        rw [hc] at h
        dsimp only at h
        cases hr : lcMgo own g c ds z.2 with
        | bad => rw [hr] at h; cases h
        | err s => exact lcMgo_err hr
        | ok r => rw [hr] at h; cases h
theorem lcMgo_cons {own : List Nat} {g : D → En → Option En} {c : En → R (D × En)} {d : D} {ds : List D} {ρ : En} {z : List D × En} (h : lcMgo own g c (d :: ds) ρ = .ok z) : ∃ ρ1 y r, g d (wipeR ρ own) = some ρ1 ∧ c ρ1 = .ok y ∧ lcMgo own g c ds y.2 = .ok r ∧ z = (y.1 :: r.1, r.2) := by
  unfold lcMgo at h
  cases hg : g d (wipeR ρ own) with
  | none => rw [hg] at h; cases h
  | some ρ1 =>
    rw [hg] at h
    dsimp only at h
    cases hc : c ρ1 with
    | bad => rw [hc] at h; cases h
    | err s => rw [hc] at h; cases h
    | ok y =>
      rw [hc] at h
      dsimp only at h
      cases hr : lcMgo own g c ds y.2 with
      | bad => rw [hr] at h; cases h
      | err s => exact absurd hr lcMgo_err
      | ok r => rw [hr] at h; cases h; exact ⟨ρ1, y, r, rfl, hc, hr, rfl⟩
def Cd.atH (C : Cd) (H0' : Hp) : Cd := ⟨C.K, C.F0, H0', fun _ _ _ => False, C.ln, C.io, []⟩
def tGany (C : Cd) (vs : List Nat) (g : D → En → Option En) : TG := fun v σ H Q => ∃ H0', tG (C.atH H0') vs g v σ H Q
def tMany (C : Cd) (c : En → R (D × En)) : TE := fun σ H Q => ∃ H0', tM (C.atH H0') c σ H Q
theorem lcM_ok {fi : En → R (List D)} {gg : D → En → Option En} {c : En → R (D × En)} {own : List Nat} (hln : (own.all fun v => (C.ln v).isNone) = true) : ∀ σ H Q, tM C (lcM own fi gg c) σ H Q → tLc (tI C true fi) (tGany C own gg) tYes (tMany C c) own σ H Q := by
  rintro σ H Q ⟨ρ, F, r, q⟩
  refine ⟨ρ, F, r, ?_⟩
  unfold lcM at q
  cases hfi : fi ρ with
  | bad => rw [hfi] at q; exact q
  | err c => rw [hfi] at q; exact q
  | ok ds =>
    rw [hfi, bd_ok] at q
    intro J F1 H1 x1 s1 it
    replace it : IterOk C.K J (jn F1 C.H0) F1 ds := by rw [if_pos rfl] at it; exact it
    cases hz : decide (ds.length < sizeLine) with
    | false => rw [hz] at q; exact q.elim
    | true =>
    rw [hz] at q
    have z := of_decide_eq_true hz
    intro D hD
    cases hgo : lcMgo own gg c ds ρ with
    | bad => rw [hgo] at q; exact q.elim
    | err c => exact absurd hgo lcMgo_err
    | ok all =>
      rw [hgo] at q
      have q : ∀ v F' H', Same F F' → Rel C (wipeR all.2 own) σ F' H' → Rep C.K F' (.lst all.1) v → Q v H' := q
      have r1 := r.grow x1 s1
      have d0 : C.H0 D = none := r1.ext.h.free hD
      have fd : F1 D = none := s1.free hD
      have f0 : C.F0 D = none := by
        cases h : C.F0 D with
        | none => rfl
        | some u => have := r1.ext.f _ _ h; rw [fd] at this; cases this
      have views : ∀ (o : HO) (i : Nat) (d : DL.D) (v : V), C.ln i = some (d, v) → View C.K C.F0 (upd C.H0 D o) d v := fun o i d v h => (r1.lend i d v h).2.mono (Same.refl _) (same_upd d0)
      -- what is known of a relation at such a heap
      have know : ∀ {o : HO} {ρ2 : En} {σ2 : L2.St} {F2 H2 : Hp}, Rel (C.atH (upd C.H0 D o)) ρ2 σ2 F2 H2 → H2 D = some o ∧ F2 D = none ∧ (∀ (j : Nat) (e : DL.D) (b : Addr), ρ2[j]? = some (some (true, e)) → σ2[j]? = some (some (.ref b)) → D ∉ foot H2 b e) ∧ Same C.H0 H2 := fun {o ρ2 σ2 F2 H2} r2 => by
        refine ⟨r2.ext.h _ _ upd_same, ?_, fun j e b h1 h2 h3 => ?_, (same_upd d0).trans r2.ext.h⟩
        · cases h : F2 D with
          | none => rfl
          | some u =>
            rcases r2.ext.n _ _ h with h | h
            · have h : C.F0 D = some u := h
              rw [f0] at h; cases h
            · have h : upd C.H0 D o D = none := h
              rw [upd_same] at h; cases h
        · obtain ⟨b', q1, n1, _⟩ := r2.ownF j e h1
          rw [h2] at q1
          cases q1
          have := (n1 D h3).2
          have this : upd C.H0 D o D = none := this
          rw [upd_same] at this; cases this
      have next : ∀ {o o' : HO} {ρ2 : En} {σ2 : L2.St} {F2 H2 : Hp}, Rel (C.atH (upd C.H0 D o)) ρ2 σ2 F2 H2 → Rel (C.atH (upd C.H0 D o')) ρ2 σ2 F2 (upd H2 D o') := fun {o o' ρ2 σ2 F2 H2} r2 => by
        obtain ⟨k1, k2, k3, k4⟩ := know r2
        refine r2.chg (D := D) k3 (Same.refl _) (fun _ _ => rfl) (fun c hc => upd_ne hc) (same_upd2 r2.sub k2) (fun b u h => ?_) (fun b u h => ?_) (fun b hb h => ?_) (views o') .nil
        · by_cases hb : b = D
          · subst hb; rw [upd_same] at h ⊢; exact h
          · rw [upd_ne hb] at h ⊢; exact k4 _ _ h
        · by_cases hb : b = D
          · subst hb; rw [k2] at h; cases h
          · rw [upd_ne hb]
            rcases r2.ext.n _ _ h with h | h
            · exact .inl h
            · have h : upd C.H0 D o b = none := h
              rw [upd_ne hb] at h; exact .inr h
        · have h : upd C.H0 D o b = none := h
          rw [upd_ne hb] at h ⊢; exact h
      have first : Rel (C.atH (upd C.H0 D (.lst []))) ρ σ F1 (upd H1 D (.lst [])) := by
        refine r1.chg (D := D) (fun j e b h1 h2 h3 => ?_) (Same.refl _) (fun _ _ => rfl) (fun c hc => upd_ne hc) (same_upd2 r1.sub fd) (fun b u h => ?_) (fun b u h => ?_) (fun b hb h => ?_) (views _) .nil
        · obtain ⟨b', q1, _, _, o⟩ := r1.ownF j e h1
          rw [h2] at q1
          cases q1
          obtain ⟨u, hu⟩ := o.foot D h3
          rw [hD] at hu; cases hu
        · by_cases hb : b = D
          · subst hb; rw [upd_same] at h ⊢; exact h
          · rw [upd_ne hb] at h ⊢; exact r1.ext.h _ _ h
        · by_cases hb : b = D
          · subst hb; rw [fd] at h; cases h
          · rw [upd_ne hb]; exact r1.ext.n _ _ h
        · rw [upd_ne hb]; exact h
      -- back
      have last : ∀ {acc : List V} {ρ2 : En} {σ2 : L2.St} {F2 H2 : Hp}, Rel (C.atH (upd C.H0 D (.lst acc))) ρ2 σ2 F2 H2 → Rel C ρ2 σ2 (upd F2 D (.lst acc)) H2 := fun {acc ρ2 σ2 F2 H2} r2 => by
        obtain ⟨k1, k2, k3, k4⟩ := know r2
        have := r2.chg (H0' := C.H0) (XW' := C.XW) (wd' := C.wd) (H' := H2) (F' := upd F2 D (.lst acc)) (D := D) k3 (same_upd k2) (fun c hc => upd_ne hc) (fun c hc => rfl) (same_settle r2.sub k1) k4 (fun b u h => ?_) (fun b hb h => ?_) (fun i d v h => (r1.lend i d v h).2) r1.wok
        · exact this
        · by_cases hb : b = D
          · subst hb; exact .inr d0
          · rw [upd_ne hb] at h
            rcases r2.ext.n _ _ h with h | h
            · exact .inl h
            · have h : upd C.H0 D (.lst acc) b = none := h
              rw [upd_ne hb] at h; exact .inr h
        · have h : upd C.H0 D (.lst acc) b = none := h
          rw [upd_ne hb] at h; exact h
      refine ⟨fun i m H => m = ds.length - i ∧ i ≤ ds.length ∧ ∃ F2 acc zs ws ρ2 σ2, Rel (C.atH (upd C.H0 D (.lst acc))) ρ2 σ2 F2 H ∧ L2.wipe σ2 own = L2.wipe σ own ∧ Same F1 F2 ∧ Reps C.K F2 zs acc ∧ zs.length ≤ i ∧ lcMgo own gg c (ds.drop i) ρ2 = .ok ws ∧ all = (zs ++ ws.1, ws.2),
        ⟨_, rfl, Nat.zero_le _, F1, [], [], all, ρ, σ, first, rfl, Same.refl _, .nil, Nat.zero_le _, hgo, rfl⟩, ?_⟩
      rintro i m H2 ⟨rfl, hi, F2, acc, zs, ws, ρ2, σ2, r2, e2, f2, rz, lz, hw, ha⟩
      obtain ⟨k1, k2, k3, k4⟩ := know r2
      obtain ⟨it1, it2⟩ := it i F2 H2 (jn_in (f2.trans r2.sub) k4) f2 r2.sub
      have wlen : σ2.length = σ.length := by rw [← L2.wipe_length σ2 own, e2, L2.wipe_length]
      by_cases hlt : i < ds.length
      · obtain ⟨go, y⟩ := it1 hlt
        have e : ds.drop i = ds[i] :: ds.drop (i + 1) := List.drop_eq_getElem_cons hlt
        rw [e] at hw
        obtain ⟨ρ3, yy, rr, g1, g2, g3, g4⟩ := lcMgo_cons hw
        refine .inr ⟨go, fun H => ∃ F2 acc zs ws ρ2 σ2, Rel (C.atH (upd C.H0 D (.lst acc))) ρ2 σ2 F2 H ∧ L2.wipe σ2 own = L2.wipe σ own ∧ Same F1 F2 ∧ Reps C.K F2 zs acc ∧ zs.length ≤ i + 1 ∧ lcMgo own gg c (ds.drop (i + 1)) ρ2 = .ok ws ∧ all = (zs ++ ws.1, ws.2),
          fun H' p => ⟨_, by omega, rfl, hlt, p⟩, fun v H3 yl => ?_⟩
        obtain ⟨F3, d, hd, x3, s3, w3⟩ := y v H3 yl
        rw [List.getElem?_eq_getElem hlt] at hd
        cases hd
        have r3 := r2.grow x3 s3
        have r3w : Rel (C.atH (upd C.H0 D (.lst acc))) (wipeR ρ2 own) (L2.wipe σ own) F3 H3 := by
          have := r3.wipe own hln
          rw [e2] at this
          exact this
        refine ⟨upd C.H0 D (.lst acc), wipeR ρ2 own, F3, ds[i], r3w, w3, ?_⟩
        rw [g1]
        intro σ4 e4 r4
        have e4' : L2.wipe σ4 own = L2.wipe σ own := e4.trans (wipe_wipe own own σ fun _ h => h)
        refine ⟨e4', ?_⟩
        unfold tYes
        dsimp only
        rw [if_pos rfl]
        refine ⟨upd C.H0 D (.lst acc), ρ3, F3, r4, ?_⟩
        rw [g2]
        intro yv F6 H6 x6 r6 w6
        obtain ⟨l1, l2, l3, l4⟩ := know r6
        refine ⟨acc, l1, by rw [rz.length]; omega, F6, acc ++ [yv], zs ++ [yy.1], rr, yy.2, σ4, next r6, e4', (f2.trans x3.f).trans x6, ((rz.mono x3.f).mono x6).append (.cons w6 .nil), by rw [List.length_append]; exact Nat.succ_le_succ lz, g3, ?_⟩
        rw [ha, g4, List.append_assoc]; rfl
      · have e : i = ds.length := by omega
        subst e
        rw [List.drop_length] at hw
        cases hw
        rw [List.append_nil] at ha
        subst ha
        refine .inl ⟨it2 rfl, q (.ref D) (upd F2 D (.lst acc)) H2 ((x1.f.trans f2).trans (same_upd k2)) ?_ (.lst upd_same (rz.mono (same_upd k2)))⟩
        have := (last r2).wipe own hln
        rw [e2] at this
        exact this.unwipe hln
theorem e_lcM {elt iter : Expr} {scope : Scope} {own : List (Str × Nat)} {fi : En → R (List D)} {gg : D → En → Option En} {c : En → R (D × En)} (hc : X.calm = true) (hN : X.N.Nodup) (hi : PI X tg iter (tI C true fi)) (ok : BlkOk X.N X.env.scope scope own)
    (hg : ∀ (H0' : Hp) (s : Shared) (H : Hp) (A : Addr) (cl : List (Str × Addr)) (fp : List Addr), PG (X.blk s H scope (compEnvC scope cl A X.env) fp) tg (tG (C.atH H0') (own.map (·.2)) gg))
    (he : ∀ (H0' : Hp) (s : Shared) (H : Hp) (A : Addr) (cl : List (Str × Addr)) (fp : List Addr), PE (X.blk s H scope (compEnvC scope cl A X.env) fp) elt (tM (C.atH H0') c)) (hs : ∀ x, foldedSetIterable iter X.env x = pure x := by intro _; rfl) (hw : ((own.map (·.2)).all fun v => (C.ln v).isNone) = true := by rfl) :
    PE X (.ListComp elt [⟨tg, iter, [], 0⟩] scope pos) (tM C (lcM (own.map (·.2)) fi gg c)) :=
  (pe_lc (g := tGany C (own.map (·.2)) gg) (te := tMany C c) hc hN hi ok
    (fun s H1 A cl fp => ⟨fun pins s' σ H v u Q I r ⟨H0', h⟩ => (hg H0' s H1 A cl fp).run pins s' σ H v u Q I r h⟩)
    (fun s H1 A cl fp => pts_nil)
    (fun s H1 A cl fp => ⟨fun pins s' σ H Q I ⟨H0', h⟩ => (he H0' s H1 A cl fp).run pins s' σ H Q I h⟩) hs).mono (lcM_ok hw)
def tupM (f : En → R D) (c : En → R (D × En)) : En → R (D × En) := fun ρ => bd (f ρ) fun d => bd (c ρ) fun r => .ok (.tup [d, r.1], r.2)
theorem e_tupM {c : En → R (D × En)} {x1 : Nat} (ha : PE X a (tE C f)) (hb : PE X b (tM C c)) (h1 : starEach [a, b] X.env = (false, eval a X.env) :: starEach [b] X.env := by rfl) (h2 : starEach [b] X.env = (false, eval b X.env) :: starEach [] X.env := by rfl) :
    PE X (.Tuple [a, b] x1 pos) (tM C (tupM f c)) :=
  (pe_tup (pa_cons ha (pa_cons hb pa_nil h2) h1)).mono fun σ H Q ⟨ρ, F, r, q⟩ => by
    refine ⟨ρ, F, r, ?_⟩
    unfold tupM at q
    cases hf : f ρ with
    | bad => rw [hf] at q; exact q.elim
    | err s => rw [hf] at q; exact q
    | ok d =>
      rw [hf, bd_ok] at q
      intro v F1 H1 x1 s1 w1
      refine ⟨ρ, F1, r.grow x1 s1, ?_⟩
      cases hc : c ρ with
      | bad => rw [hc] at q; exact q.elim
      | err s => rw [hc] at q; exact fun F' H' x s => q F' H' (x1.trans x) s
      | ok z =>
        obtain ⟨d2, ρ2⟩ := z
        rw [hc] at q
        have q : ∀ v F' H', Same F F' → Rel C ρ2 σ F' H' → Rep C.K F' (.tup [d, d2]) v → Q v H' := q
        intro v2 F2 H2 s2 r2 w2
        refine ⟨by show 2 ≤ sizeLine; decide, fun p hp => ?_⟩
        have nf : F2 p = none := r2.sub.free hp
        have x3 : Ext F2 H2 (upd F2 p (.tup [v, v2])) (upd H2 p (.tup [v, v2])) := ⟨same_upd nf, same_upd hp, fun a u e => by
          by_cases h : a = p
          · subst h; exact .inr hp
          · rw [upd_ne h] at e; exact .inl e⟩
        have s3 : Same (upd F2 p (.tup [v, v2])) (upd H2 p (.tup [v, v2])) := fun a u e => by
          by_cases h : a = p
          · subst h; rw [upd_same] at e ⊢; exact e
          · rw [upd_ne h] at e ⊢; exact r2.sub _ _ e
        exact q (.ref p) _ _ ((x1.f.trans s2).trans (same_upd nf)) (r2.grow x3 s3) (.tup upd_same (.cons (((w1.mono s2)).mono (same_upd nf)) (.cons (w2.mono (same_upd nf)) .nil)))
end
section
variable {X : Cx} {C : Cd} {e : Expr} {pos : Pos} {c : En → R (D × En)}
end
def dUpper : D → R D
  | .str x => grd (decide (x.length ≤ 5592405)) (.ok (.str (Txt.upper x)))
  | _ => .bad
section
variable {X : Cx} {C : Cd} {a : Expr} {f : En → R D} {pos apos : Pos}
theorem d_upper (ha : PE X a (tR C f)) (hbase : attributeBase a "upper" X.env (eval a X.env) = eval a X.env := by rfl) (hline : (apos.endLine == pos.line) = true := by rfl) :
    PE X (.Call (.Attribute a "upper" apos) [] [] pos) (tO C (uop f dUpper)) := (pe_upper ha hbase hline).mono fun σ H Q ⟨ρ, F, rl, o⟩ => by
  refine ⟨ρ, F, rl, ?_⟩
  unfold uop at o
  cases hf : f ρ with
  | bad => rw [hf] at o; exact o.elim
  | err c => rw [hf] at o; exact o
  | ok d =>
    rw [hf, bd_ok] at o
    intro v F1 H1 x1 s1 w1
    unfold dUpper at o
    split at o
    · rename_i x
      cases hz : decide (x.length ≤ 5592405) with
      | false => rw [hz] at o; exact o.elim
      | true =>
        rw [hz] at o
        have w1 : v = .str x := w1
        subst w1
        have o : ∀ v F' H', Ext F H F' H' → Same F' H' → New C.K H F' H' (.str (Txt.upper x)) v → Q v H' := o
        exact ⟨⟨x, rfl⟩, x, rfl, rfl, of_decide_eq_true hz, o _ F1 H1 x1 s1 (.of_rep rfl (.str _))⟩
    · exact o.elim
end
theorem tupM_ok {f : En → R D} {c : En → R (D × En)} {ρ ρ' : En} {d d2 : D} (h1 : f ρ = .ok d) (h2 : c ρ = .ok (d2, ρ')) : tupM f c ρ = .ok (.tup [d, d2], ρ') := by
  unfold tupM; rw [h1, bd_ok, h2]; rfl
theorem lcM_of {own : List Nat} {fi : En → R (List D)} {g : D → En → Option En} {c : En → R (D × En)} {ρ ρ' : En} {ds zs : List D} (h1 : fi ρ = .ok ds) (hl : ds.length ≤ 1000000) (h2 : lcMgo own g c ds ρ = .ok (zs, ρ')) : lcM own fi g c ρ = .ok (.lst zs, wipeR ρ' own) := by
  unfold lcM
  have hz : sizeLine = 16777216 := rfl
  rw [h1, bd_ok, decide_eq_true (by omega)]
  show bd (lcMgo own g c ds ρ) _ = _
  rw [h2]; rfl
theorem lcMgo_step {own : List Nat} {g : D → En → Option En} {c : En → R (D × En)} {ρ ρ1 ρ2 ρ3 : En} {d z : D} {ds zs : List D} (h1 : g d (wipeR ρ own) = some ρ1) (h2 : c ρ1 = .ok (z, ρ2)) (h3 : lcMgo own g c ds ρ2 = .ok (zs, ρ3)) : lcMgo own g c (d :: ds) ρ = .ok (z :: zs, ρ3) := by
  unfold lcMgo; rw [h1]; dsimp only; rw [h2]; dsimp only; rw [h3]; rfl
end DL
namespace Fn
open PySem DL
def is_whole_9e39_g : En → R Fl :=
  (sRetO (eAnd (uop (rd 0) (isiD "int")) (uop (uop (rd 0) (isiD "bool")) eNot)))
def is_whole_9e39 : Den := bodyN 1 1 is_whole_9e39_g
end Fn
namespace Fn
open PySem DL
def common_38af_e1 (ds : List D) : En → R D :=
  (rdE 2)
def common_38af_t2 (ds : List D) : En → R Bool :=
  (tst (bop (rd 2) (rdL ds 1) (dIn false)))
def common_38af_g (ds : List D) : En → R Fl :=
  (sRetO (lcD [2] (itr (rdL ds 0)) (gSet 2) (common_38af_t2 ds) (common_38af_e1 ds)))
def common_38af : Den := bodyV 2 3 common_38af_g
end Fn
namespace Fn
open PySem DL
def without_7dfd_e1 : En → R D :=
  (rdE 2)
def without_7dfd_t2 : En → R Bool :=
  (tst (bop (rd 2) (rd 1) (dIn true)))
def without_7dfd_g : En → R Fl :=
  (sRetO (lcD [2] (itr (rd 0)) (gSet 2) without_7dfd_t2 without_7dfd_e1))
def without_7dfd : Den := bodyN 2 3 without_7dfd_g
end Fn
namespace Fn
open PySem DL
def width_9fdd_g : En → R Fl :=
  (sRetO (bop (bop (rd 0) (uop (cst (.int 1)) dNeg) dMaxDef) (cst (.int 1)) dAdd))
def width_9fdd : Den := bodyN 1 1 width_9fdd_g
end Fn
namespace Fn
open PySem DL
def breaks_a702_b1 : En → R Fl :=
  (sIf (tst (bop (rd 4) (nop (aCons (rd 0) aNil) dLen) dLt)) (sPut 2 (cst (.bl true)) (bop (rd 0) (rd 4) dIxA)) (sSet 3 (bop (rd 3) (cst (.int 1)) dAdd)))
def breaks_a702_g : En → R Fl :=
  (sSeq (sUnp (rdE 1) (gSeqD 3 (gsCons (gSet 5) (gsCons (gSet 6) (gsCons (gSet 7) gsNil)))))
  (sSeq (sSetO 2 (cst (.dK [])))
  (sSeq (sSet 3 (cst (.int 0)))
  (sSeq (sFor (itr (rdE 7)) (gSet 4) breaks_a702_b1)
  (sSeq (sIf (tst (bop (rd 5) (cst (.str (Str.ofString "most"))) (dEq false))) (sRetO (bop (nop (aCons (rd 2) aNil) dLen) (rd 6) dGt)) sSkip)
  (sRetO (bop (bop (nop (aCons (rd 2) aNil) dLen) (rd 3) dAdd) (rd 6) dLt)))))))
def breaks_a702 : Den := bodyN 2 8 breaks_a702_g
end Fn
namespace Fn
open PySem DL
def law_cell_547d_g : En → R Fl :=
  (sSeq (sIf (tst (bop (rd 1) (nop (aCons (rd 0) aNil) dLen) dLt)) (sRet (bop (rd 0) (rd 1) dIxA)) sSkip)
  (sSeq (sIf (tst (bop (rd 0) (nop aNil mkLst) (dEq false))) (sRetO (bop (bop (bop (rd 1) (rd 1) dMul) (cst (.int 7919)) dMul) (bop (cst (.int 13)) (rd 1) dMul) dAdd)) sSkip)
  (sRetO (bop (bop (bop (bop (bop (rd 0) (bop (rd 1) (nop (aCons (rd 0) aNil) dLen) dMod) dIxA) (bop (bop (rd 1) (rd 1) dMul) (cst (.int 7919)) dMul) dAdd) (cst (.int 1)) dAdd) (cst (.int 48271)) dMul) (cst (.int 2147483647)) dMod))))
def law_cell_547d : Den := bodyN 2 2 law_cell_547d_g
end Fn
namespace Fn
open PySem DL
def law_whole_9e39_g : En → R Fl :=
  (sRetO (eAnd (uop (rd 0) (isiD "int")) (uop (uop (rd 0) (isiD "bool")) eNot)))
def law_whole_9e39 : Den := bodyN 1 1 law_whole_9e39_g
end Fn
namespace Fn
open PySem DL
def law_bond_8e48_e1 : En → R D :=
  (rdE 5)
def law_bond_8e48_t2 : En → R Bool :=
  (tst (bop (bop (bop (rd 2) (bop (nop (aCons (cst (.int 1)) (aCons (cst (.int 2)) (aCons (cst (.int 4)) (aCons (cst (.int 8)) (aCons (cst (.int 16)) (aCons (cst (.int 32)) aNil)))))) mkLst) (rd 5) dIxA) dDiv) (cst (.int 2)) dMod) (cst (.int 1)) (dEq false)))
def law_bond_8e48_g : En → R Fl :=
  (sSeq (sSet 2 (bop (cst (.int 1)) (bop (bop (rd 0) (cst (.int 12)) dDiv) (bop (nop (aCons (cst (.int 1)) (aCons (cst (.int 3)) (aCons (cst (.int 7)) (aCons (cst (.int 15)) (aCons (cst (.int 31)) (aCons (cst (.int 63)) aNil)))))) mkLst) (bop (rd 1) (cst (.int 1)) dSub) dIxA) dMod) dAdd))
  (sSeq (sSet 3 (lcD [5] (irg (aCons (rd 1) aNil) rng1) (gSet 5) law_bond_8e48_t2 law_bond_8e48_e1))
  (sSeq (sSet 4 (bop (cst (.int 1)) (bop (bop (rd 0) (cst (.int 2)) dDiv) (cst (.int 6)) dMod) dAdd))
  (sSeq (sIf (tst (bop (bop (bop (rd 0) (cst (.int 1000)) dDiv) (cst (.int 8)) dMod) (cst (.int 0)) dGt)) (sSet 4 (bop (cst (.int 1)) (bop (bop (rd 4) (cst (.int 1)) dSub) (nop (aCons (rd 3) aNil) dLen) dMod) dAdd)) sSkip)
  (sRetO (nop (aCons (bop (nop (aCons (cst (.str (Str.ofString "most"))) (aCons (cst (.str (Str.ofString "least"))) aNil)) mkLst) (bop (rd 0) (cst (.int 2)) dMod) dIxA) (aCons (rdE 4) (aCons (nop (aCons (rd 3) aNil) dTuple) aNil))) mkTup))))))
def law_bond_8e48 : Den := bodyN 2 6 law_bond_8e48_g
end Fn
namespace Fn
open PySem DL
def law_unlike_f766_e1 : En → R D :=
  (bop (rd 0) (rd 4) dIxA)
def law_unlike_f766_b2 : En → R Fl :=
  (sIf (tst (bop (bop (rd 0) (bop (rd 1) (rd 3) dIxA) dIxA) (lcD [4] (itr (slc (rd 1) pNone (pSome (uop (rdE 3) flatO)))) (gSet 4) tYesD law_unlike_f766_e1) (dIn true))) (sSet 2 (bop (rd 2) (cst (.int 1)) dAdd)) sSkip)
def law_unlike_f766_g : En → R Fl :=
  (sSeq (sSet 2 (cst (.int 0)))
  (sSeq (sFor (irg (aCons (nop (aCons (rd 1) aNil) dLen) aNil) rng1) (gSet 3) law_unlike_f766_b2)
  (sRet (rdE 2))))
def law_unlike_f766 : Den := bodyN 2 5 law_unlike_f766_g
end Fn
namespace Fn
open PySem DL
def law_in_all_ba70_b1 : En → R Fl :=
  (sIf (tst (bop (rd 0) (bop (rd 1) (rd 3) dIxA) (dIn true))) (sRetO (cst (.bl false))) sSkip)
def law_in_all_ba70_g : En → R Fl :=
  (sSeq (sFor (itr (rdE 2)) (gSet 3) law_in_all_ba70_b1)
  (sRetO (cst (.bl true))))
def law_in_all_ba70 : Den := bodyN 3 4 law_in_all_ba70_g
end Fn
namespace Fn
open PySem DL
def law_odd_c3c0_g : En → R Fl :=
  (sSeq (sSet 1 (nop (aCons (cst .non) (aCons (cst (.bl true)) (aCons (cst (.int 0)) (aCons (cst (.str (Str.ofString "tie"))) (aCons (cst (.str (Str.ofString ""))) (aCons (nop aNil mkLst) (aCons (nop aNil mkTup) (aCons (nop (aCons (cst (.str (Str.ofString "tie"))) aNil) mkTup) (aCons (nop (aCons (cst (.str (Str.ofString "tie"))) (aCons (cst .non) aNil)) mkTup) (aCons (nop (aCons (cst (.str (Str.ofString "tie"))) (aCons (cst (.bl true)) aNil)) mkTup) (aCons (nop (aCons (cst (.str (Str.ofString "tie"))) (aCons (cst (.bl false)) aNil)) mkTup) (aCons (nop (aCons (cst (.str (Str.ofString "tie"))) (aCons (uop (cst (.int 1)) dNeg) aNil)) mkTup) aNil)))))))))))) mkLst))
  (sSeq (sSet 1 (bop (rd 1) (nop (aCons (nop (aCons (cst (.str (Str.ofString "tie"))) (aCons (nop (aCons (cst (.int 0)) aNil) mkLst) aNil)) mkTup) (aCons (nop (aCons (cst (.str (Str.ofString "tie"))) (aCons (cst (.int 0)) aNil)) mkLst) (aCons (nop (aCons (cst (.str (Str.ofString "tie"))) (aCons (cst (.int 0)) (aCons (cst (.int 0)) aNil))) mkTup) (aCons (nop (aCons (cst (.str (Str.ofString "tie"))) (aCons (cst (.str (Str.ofString "0"))) aNil)) mkTup) (aCons (nop (aCons (cst (.str (Str.ofString "tie"))) (aCons (nop (aCons (cst (.int 0)) aNil) mkTup) aNil)) mkTup) (aCons (nop (aCons (cst (.str (Str.ofString "short"))) (aCons (cst .non) aNil)) mkTup) (aCons (nop (aCons (cst (.str (Str.ofString "short"))) (aCons (cst (.int 0)) aNil)) mkTup) aNil))))))) mkLst) dAdd))
  (sSeq (sSet 1 (bop (rd 1) (nop (aCons (nop (aCons (cst (.str (Str.ofString "short"))) (aCons (nop (aCons (cst (.int 0)) aNil) mkTup) aNil)) mkTup) (aCons (nop (aCons (cst (.str (Str.ofString "short"))) (aCons (nop (aCons (cst (.bl false)) aNil) mkLst) aNil)) mkTup) (aCons (nop (aCons (cst (.str (Str.ofString "short"))) (aCons (nop (aCons (cst .non) aNil) mkLst) aNil)) mkTup) (aCons (nop (aCons (cst (.str (Str.ofString "short"))) (aCons (nop (aCons (cst (.str (Str.ofString "0"))) aNil) mkLst) aNil)) mkTup) (aCons (nop (aCons (cst (.str (Str.ofString "short"))) (aCons (nop (aCons (cst (.int 0)) (aCons (cst (.int 0)) aNil)) mkLst) aNil)) mkTup) aNil))))) mkLst) dAdd))
  (sSeq (sSet 1 (bop (rd 1) (nop (aCons (nop (aCons (cst (.str (Str.ofString "short"))) (aCons (nop (aCons (uop (cst (.int 1)) dNeg) aNil) mkLst) aNil)) mkTup) (aCons (nop (aCons (cst (.str (Str.ofString "short"))) (aCons (nop (aCons (nop (aCons (cst (.int 0)) aNil) mkLst) aNil) mkLst) aNil)) mkTup) (aCons (nop (aCons (cst (.str (Str.ofString "split"))) (aCons (cst .non) aNil)) mkTup) (aCons (nop (aCons (cst (.str (Str.ofString "split"))) (aCons (nop aNil mkTup) aNil)) mkTup) (aCons (nop (aCons (cst (.str (Str.ofString "split"))) (aCons (nop aNil mkLst) aNil)) mkTup) (aCons (nop (aCons (cst (.str (Str.ofString "split"))) (aCons (cst (.int 0)) aNil)) mkTup) aNil)))))) mkLst) dAdd))
  (sSeq (sSet 1 (bop (rd 1) (nop (aCons (nop (aCons (cst (.str (Str.ofString "split"))) (aCons (cst (.str (Str.ofString "split"))) aNil)) mkTup) (aCons (nop (aCons (cst (.str (Str.ofString "split"))) (aCons (nop (aCons (cst .non) (aCons (cst .non) aNil)) mkLst) aNil)) mkTup) (aCons (nop (aCons (cst (.str (Str.ofString "Tie"))) (aCons (cst (.int 0)) aNil)) mkTup) (aCons (nop (aCons (cst (.int 0)) (aCons (cst (.str (Str.ofString "tie"))) aNil)) mkTup) (aCons (nop (aCons (cst (.str (Str.ofString "plan"))) (aCons (nop (aCons (cst (.int 1)) aNil) mkLst) aNil)) mkTup) (aCons (nop (aCons (cst .non) (aCons (cst .non) aNil)) mkTup) aNil)))))) mkLst) dAdd))
  (sSeq (sSet 1 (bop (rd 1) (nop (aCons (nop (aCons (cst (.str (Str.ofString "none"))) (aCons (nop (aCons (cst (.str (Str.ofString "tie"))) (aCons (cst (.int 0)) aNil)) mkTup) aNil)) mkTup) (aCons (nop (aCons (nop (aCons (cst (.str (Str.ofString "tie"))) aNil) mkLst) (aCons (cst (.int 0)) aNil)) mkTup) (aCons (nop (aCons (cst (.str (Str.ofString "short"))) (aCons (nop (aCons (bop (bop (rd 0) (cst (.int 41)) dDiv) (bop (cst (.int 10)) (cst (.int 60)) dPow) dMod) aNil) mkLst) aNil)) mkTup) (aCons (bop (cst (.int 0)) (bop (bop (rd 0) (cst (.int 41)) dDiv) (bop (cst (.int 10)) (cst (.int 60)) dPow) dMod) dSub) aNil)))) mkLst) dAdd))
  (sRet (bop (rd 1) (bop (rd 0) (nop (aCons (rd 1) aNil) dLen) dMod) dIxA))))))))
def law_odd_c3c0 : Den := bodyN 1 2 law_odd_c3c0_g
end Fn
namespace Fn
open PySem DL
def law_truths_d54f_e1 : En → R D :=
  (bop (rd 1) (cst (.int 1)) (dEq false))
def law_truths_d54f_g : En → R Fl :=
  (sSeq (sIf (tst (uop (rd 0) (isiD "list"))) (sRetO (lcD [1] (itr (rd 0)) (gSet 1) tYesD law_truths_d54f_e1)) sSkip)
  (sRetO (bop (rd 0) (cst (.int 1)) (dEq false))))
def law_truths_d54f : Den := bodyN 1 2 law_truths_d54f_g
end Fn
namespace Fn
open PySem DL
def law_wrapped_697f_b1 : En → R Fl :=
  (sSet 0 (bop (nop (aCons (nop (aCons (rdE 0) aNil) mkLst) (aCons (nop (aCons (rdE 0) aNil) mkTup) (aCons (nop (aCons (cst (.str (Str.ofString "split"))) (aCons (nop (aCons (rdE 0) aNil) mkLst) aNil)) mkTup) (aCons (nop (aCons (cst (.str (Str.ofString "tie"))) (aCons (rdE 0) aNil)) mkTup) (aCons (nop (aCons (cst (.str (Str.ofString "short"))) (aCons (nop (aCons (rdE 0) aNil) mkLst) aNil)) mkTup) aNil))))) mkLst) (bop (rd 2) (cst (.int 5)) dMod) dIxA))
def law_wrapped_697f_g : En → R Fl :=
  (sSeq (sFor (itr (rdE 1)) (gSet 2) law_wrapped_697f_b1)
  (sRet (rdE 0)))
def law_wrapped_697f : Den := bodyN 2 3 law_wrapped_697f_g
end Fn
namespace Fn
open PySem DL
def joined_a161_g : En → R Fl :=
  (sRetO (nop (aCons (bop (rd 0) (nop (aCons (rdE 1) (aCons (rdE 0) aNil)) (callE Fn.without_7dfd)) dAdd) aNil) dSorted))
def joined_a161 : Den := bodyN 2 2 joined_a161_g
end Fn
namespace Fn
open PySem DL
def grown_0f21_e1 : En → R D :=
  (bop (rd 0) (nop (aCons (rdE 1) aNil) mkLst) dAdd)
def grown_0f21_g : En → R Fl :=
  (sRetO (lcD [1] (irg (aCons (bop (nop (aCons (rdE 0) aNil) (callE Fn.width_9fdd)) (cst (.int 1)) dAdd) aNil) rng1) (gSet 1) tYesD grown_0f21_e1))
def grown_0f21 : Den := bodyN 1 2 grown_0f21_g
end Fn
namespace Fn
open PySem DL
def pools_of_4d0e_b1 : En → R Fl :=
  (sIf (tst (bop (rd 4) (nop (aCons (rd 2) aNil) dLen) (dEq false))) (sAppend 2 (nop (aCons (bop (rd 1) (rd 3) dIxA) aNil) dList)) (sPut 2 (nop (aCons (bop (rd 2) (rd 4) dIxA) (aCons (bop (rd 1) (rd 3) dIxA) aNil)) (callE Fn.common_38af)) (rd 4)))
def pools_of_4d0e_g : En → R Fl :=
  (sSeq (sSetO 2 (nop aNil mkLst))
  (sSeq (sFor (irg (aCons (rdE 0) aNil) itEnum) (gSeqD 2 (gsCons (gSet 3) (gsCons (gSet 4) gsNil))) pools_of_4d0e_b1)
  (sRetO (rdO 2))))
def pools_of_4d0e : Den := bodyN 2 5 pools_of_4d0e_g
end Fn
namespace Fn
open PySem DL
def law_menu_2938_b1 : En → R Fl :=
  (sSeq (sSet 5 (nop (aCons (rdE 0) (aCons (bop (rd 1) (rd 4) dAdd) aNil)) (callE Fn.law_cell_547d)))
  (sAppend 3 (bop (cst (.int 1)) (bop (bop (rd 5) (cst (.int 3)) dDiv) (bop (nop (aCons (cst (.int 7)) (aCons (cst (.int 30)) (aCons (bop (cst (.int 10)) (cst (.int 18)) dPow) aNil))) mkLst) (bop (rd 5) (cst (.int 3)) dMod) dIxA) dMod) dAdd)))
def law_menu_2938_g : En → R Fl :=
  (sSeq (sSetO 3 (nop aNil mkLst))
  (sSeq (sFor (irg (aCons (rd 2) aNil) rng1) (gSet 4) law_menu_2938_b1)
  (sRetO (nop (aCons (rd 3) aNil) sortS))))
def law_menu_2938 : Den := bodyN 3 6 law_menu_2938_g
end Fn
namespace Fn
open PySem DL
def law_breaks_a0c3_e1 : En → R D :=
  (rdE 4)
def law_breaks_a0c3_t2 : En → R Bool :=
  (tst (bop (rd 4) (nop (aCons (rd 0) aNil) dLen) dLt))
def law_breaks_a0c3_g : En → R Fl :=
  (sSeq (sSet 2 (lcD [4] (itr (bop (rd 1) (cst (.int 2)) dIxA)) (gSet 4) law_breaks_a0c3_t2 law_breaks_a0c3_e1))
  (sSeq (sSet 3 (nop (aCons (rdE 0) (aCons (rdE 2) aNil)) (callE Fn.law_unlike_f766)))
  (sSeq (sIf (tst (bop (bop (rd 1) (cst (.int 0)) dIxA) (cst (.str (Str.ofString "most"))) (dEq false))) (sRetO (bop (rd 3) (bop (rd 1) (cst (.int 1)) dIxA) dGt)) sSkip)
  (sRetO (bop (bop (bop (rd 3) (nop (aCons (bop (rd 1) (cst (.int 2)) dIxA) aNil) dLen) dAdd) (nop (aCons (rd 2) aNil) dLen) dSub) (bop (rd 1) (cst (.int 1)) dIxA) dLt)))))
def law_breaks_a0c3 : Den := bodyN 2 5 law_breaks_a0c3_g
end Fn
namespace Fn
open PySem DL
def law_pool_875c_e1 : En → R D :=
  (rdE 4)
def law_pool_875c_t2 : En → R Bool :=
  (tst (bop (bop (rd 0) (rd 4) dIxA) (rd 2) (dEq false)))
def law_pool_875c_e3 : En → R D :=
  (rdE 5)
def law_pool_875c_t4 : En → R Bool :=
  (tst (nop (aCons (rdE 5) (aCons (rdE 1) (aCons (rdE 3) aNil))) (callO Fn.law_in_all_ba70)))
def law_pool_875c_g : En → R Fl :=
  (sSeq (sSet 3 (lcD [4] (irg (aCons (nop (aCons (rd 0) aNil) dLen) aNil) rng1) (gSet 4) law_pool_875c_t2 law_pool_875c_e1))
  (sRetO (lcD [5] (itr (bop (rd 1) (bop (rd 3) (cst (.int 0)) dIxA) dIxA)) (gSet 5) law_pool_875c_t4 law_pool_875c_e3)))
def law_pool_875c : Den := bodyN 3 6 law_pool_875c_g
end Fn
namespace Fn
open PySem DL
def law_turned_7c04_g : En → R Fl :=
  (sSeq (sUnp (rdE 0) (gSeqD 2 (gsCons (gSet 3) (gsCons (gSet 4) gsNil))))
  (sSeq (sSet 2 (bop (bop (rd 1) (cst (.int 2)) dDiv) (cst (.int 8)) dMod))
  (sSeq (sIf (tst (bop (bop (rd 1) (cst (.int 2)) dMod) (cst (.int 0)) (dEq false))) (sRet (nop (aCons (bop (rd 1) (cst (.int 2)) dDiv) aNil) (callE Fn.law_odd_c3c0))) sSkip)
  (sSeq (sIf (tst (bop (rd 2) (cst (.int 0)) (dEq false))) (sRetO (nop (aCons (rdE 3) (aCons (rdE 4) aNil)) mkLst)) sSkip)
  (sSeq (sIf (tst (bop (rd 2) (cst (.int 1)) (dEq false))) (sRetO (nop (aCons (rdE 3) (aCons (rdE 4) (aCons (rdE 4) aNil))) mkTup)) sSkip)
  (sSeq (sIf (tst (bop (rd 2) (cst (.int 2)) (dEq false))) (sRetO (nop (aCons (rdE 3) aNil) mkTup)) sSkip)
  (sSeq (sIf (bAnd (tst (bop (rd 2) (cst (.int 3)) (dEq false))) (tst (uop (rd 4) (isiD "list")))) (sRetO (nop (aCons (rdE 3) (aCons (nop (aCons (rd 4) aNil) dTuple) aNil)) mkTup)) sSkip)
  (sSeq (sIf (bAnd (tst (bop (rd 2) (cst (.int 4)) (dEq false))) (tst (uop (rd 4) (isiD "list")))) (sRetO (nop (aCons (rdE 3) (aCons (bop (rd 4) (nop (aCons (cst .non) aNil) mkLst) dAdd) aNil)) mkTup)) sSkip)
  (sSeq (sIf (tst (bop (rd 2) (cst (.int 5)) (dEq false))) (sRetO (nop (aCons (uop (rd 3) dUpper) (aCons (rdE 4) aNil)) mkTup)) sSkip)
  (sSeq (sIf (tst (bop (rd 2) (cst (.int 6)) (dEq false))) (sRetO (nop (aCons (rdE 3) (aCons (cst .non) aNil)) mkTup)) sSkip)
  (sRetO (nop (aCons (rdE 3) (aCons (nop (aCons (rdE 4) aNil) (callE Fn.law_truths_d54f)) aNil)) mkTup))))))))))))
def law_turned_7c04 : Den := bodyN 2 5 law_turned_7c04_g
end Fn
namespace Fn
open PySem DL
def are_short_b850_b1 : En → R Fl :=
  (sSeq (sIf (bOr (bNot (tst (nop (aCons (rdE 4) aNil) (callO Fn.is_whole_9e39)))) (bOr (tst (bop (rd 4) (rd 2) dLe)) (tst (bop (rd 4) (nop (aCons (rd 0) aNil) dLen) dGe)))) (sRetO (cst (.bl false))) sSkip)
  (sSeq (sSet 3 (nop (aCons (rdE 3) (aCons (bop (rd 0) (rd 4) dIxA) aNil)) (callE Fn.joined_a161)))
  (sSet 2 (rdE 4))))
def are_short_b850_g : En → R Fl :=
  (sSeq (sIf (bNot (tst (uop (rd 1) (isiD "list")))) (sRetO (cst (.bl false))) sSkip)
  (sSeq (sSet 2 (uop (cst (.int 1)) dNeg))
  (sSeq (sSet 3 (nop aNil mkLst))
  (sSeq (sFor (itr (rdE 1)) (gSet 4) are_short_b850_b1)
  (sRetO (bop (nop (aCons (rd 3) aNil) dLen) (nop (aCons (rd 1) aNil) dLen) dLt))))))
def are_short_b850 : Den := bodyN 2 5 are_short_b850_g
end Fn
namespace Fn
open PySem DL
def law_drawn_8e11_e1 : En → R D :=
  (nop (aCons (rd 3) aNil) dList)
def law_drawn_8e11_b2 : En → R Fl :=
  (sSeq (sSet 9 (nop (aCons (rdE 0) (aCons (rdE 8) aNil)) (callE Fn.law_cell_547d)))
  (sSeq (sSet 10 (bop (rd 3) (bop (bop (rd 9) (rd 5) dDiv) (nop (aCons (rd 3) aNil) dLen) dMod) dIxA))
  (sIf (bAnd (tst (bop (bop (rd 9) (rd 5) dMod) (cst (.int 0)) (dEq false))) (tst (bop (nop (aCons (rd 7) aNil) dLen) (cst (.int 12)) dLt))) (sAppend 7 (nop (aCons (bop (rd 9) (rd 5) dDiv) (aCons (rdE 4) aNil)) (callE Fn.law_bond_8e48))) (sIf (tst (bop (rd 10) (bop (rd 6) (bop (rd 8) (rd 4) dMod) dIxR) (dIn false))) (sRowM 6 (bop (rd 8) (rd 4) dMod) (rd 10) wRemove) (sRowM 6 (bop (rd 8) (rd 4) dMod) (rdE 10) wAppend)))))
def law_drawn_8e11_e3 : En → R D :=
  (nop (aCons (rd 11) aNil) dSorted)
def law_drawn_8e11_g : En → R Fl :=
  (sSeq (sSet 2 (nop (aCons (rdE 0) (aCons (cst (.int 0)) aNil)) (callE Fn.law_cell_547d)))
  (sSeq (sSet 3 (nop (aCons (rdE 0) (aCons (cst (.int 1)) (aCons (bop (nop (aCons (cst (.int 3)) (aCons (cst (.int 5)) (aCons (cst (.int 5)) (aCons (cst (.int 8)) aNil)))) mkLst) (bop (bop (rd 2) (cst (.int 24)) dDiv) (cst (.int 4)) dMod) dIxA) aNil))) (callE Fn.law_menu_2938)))
  (sSeq (sSet 4 (nop (aCons (rd 1) (aCons (bop (nop (aCons (cst (.int 1)) (aCons (cst (.int 2)) (aCons (cst (.int 3)) (aCons (cst (.int 4)) (aCons (cst (.int 4)) (aCons (cst (.int 5)) (aCons (cst (.int 3)) (aCons (cst (.int 6)) aNil)))))))) mkLst) (bop (rd 2) (cst (.int 8)) dMod) dIxA) aNil)) dMin))
  (sSeq (sSet 5 (bop (nop (aCons (cst (.int 6)) (aCons (cst (.int 14)) (aCons (cst (.int 40)) aNil))) mkLst) (bop (bop (rd 2) (cst (.int 8)) dDiv) (cst (.int 3)) dMod) dIxA))
  (sSeq (sSetO 6 (lcR [8] (irg (aCons (rd 4) aNil) rng1) (gSet 8) tYesD law_drawn_8e11_e1))
  (sSeq (sSetO 7 (nop aNil mkLst))
  (sSeq (sFor (irg (aCons (cst (.int 9)) (aCons (nop (aCons (nop (aCons (rd 0) aNil) dLen) (aCons (cst (.int 21)) aNil)) dMax) aNil)) rng2) (gSet 8) law_drawn_8e11_b2)
  (sNrm [6] (sStl [7] (sRetO (nop (aCons (rdE 3) (aCons (lcD [11] (itr (rd 6)) (gSet 11) tYesD law_drawn_8e11_e3) (aCons (rdE 7) aNil))) mkLst)))))))))))
def law_drawn_8e11 : Den := bodyN 2 12 law_drawn_8e11_g
end Fn
namespace Fn
open PySem DL
def law_short_f143_b1 : En → R Fl :=
  (sPut 3 (cst (.bl true)) (rd 5))
def law_short_f143_b2 : En → R Fl :=
  (sSeq (sIf (bOr (bNot (tst (nop (aCons (bop (rd 2) (rd 4) dIxA) aNil) (callO Fn.law_whole_9e39)))) (tst (bop (bop (rd 2) (rd 4) dIxA) (rd 0) (dIn true)))) (sRetO (cst (.bl false))) sSkip)
  (sSeq (sIf (bAnd (tst (bop (rd 4) (cst (.int 0)) dGt)) (tst (bop (bop (rd 2) (rd 4) dIxA) (bop (rd 2) (bop (rd 4) (cst (.int 1)) dSub) dIxA) dLe))) (sRetO (cst (.bl false))) sSkip)
  (sFor (itr (nop (aCons (rdE 0) (aCons (rdE 1) (aCons (bop (rd 2) (rd 4) dIxA) aNil))) (callE Fn.law_pool_875c))) (gSet 5) law_short_f143_b1)))
def law_short_f143_g : En → R Fl :=
  (sSeq (sIf (bNot (tst (uop (rd 2) (isiD "list")))) (sRetO (cst (.bl false))) sSkip)
  (sSeq (sSetO 3 (cst (.dK [])))
  (sSeq (sFor (irg (aCons (nop (aCons (rd 2) aNil) dLen) aNil) rng1) (gSet 4) law_short_f143_b2)
  (sRetO (bop (nop (aCons (rd 3) aNil) dLen) (nop (aCons (rd 2) aNil) dLen) dLt)))))
def law_short_f143 : Den := bodyN 3 6 law_short_f143_g
end Fn
namespace Fn
open PySem DL
def shows_for_df5e_b1 (self : Den) : En → R Fl :=
  (sIf (bNot (tst (nop (aCons (rdE 7) (aCons (rdE 1) (aCons (rdE 2) (aCons (rdE 8) aNil)))) (callO self)))) (sRetO (cst (.bl false))) sSkip)
def shows_for_df5e_g (self : Den) : En → R Fl :=
  (sSeq (sIf (bOr (bNot (tst (uop (rd 3) (isiD "tuple")))) (tst (bop (nop (aCons (rd 3) aNil) dLen) (cst (.int 2)) (dEq true)))) (sRetO (cst (.bl false))) sSkip)
  (sSeq (sUnp (rdE 3) (gSeqD 2 (gsCons (gSet 5) (gsCons (gSet 6) gsNil))))
  (sSeq (sIf (tst (bop (rd 5) (cst (.str (Str.ofString "tie"))) (dEq false))) (sRetO (eAnd (nop (aCons (rdE 6) aNil) (callO Fn.is_whole_9e39)) (eAnd (eChain dLe dLt (cst (.int 0)) (rd 6) (nop (aCons (rd 2) aNil) dLen)) (nop (aCons (rdE 0) (aCons (bop (rd 2) (rd 6) dIxA) aNil)) (callO Fn.breaks_a702))))) sSkip)
  (sSeq (sIf (tst (bop (rd 5) (cst (.str (Str.ofString "short"))) (dEq false))) (sRetO (nop (aCons (nop (aCons (rdE 0) (aCons (rdE 1) aNil)) (callE Fn.pools_of_4d0e)) (aCons (rdE 6) aNil)) (callO Fn.are_short_b850))) sSkip)
  (sSeq (sIf (bOr (tst (bop (rd 5) (cst (.str (Str.ofString "split"))) (dEq true))) (bOr (bNot (tst (uop (rd 6) (isiD "list")))) (tst (bop (nop (aCons (rd 0) aNil) dLen) (nop (aCons (rd 1) aNil) dLen) (dEq false))))) (sRetO (cst (.bl false))) sSkip)
  (sSeq (sSet 4 (nop (aCons (rdE 0) aNil) (callE Fn.grown_0f21)))
  (sSeq (sIf (tst (bop (nop (aCons (rd 6) aNil) dLen) (nop (aCons (rd 4) aNil) dLen) (dEq true))) (sRetO (cst (.bl false))) sSkip)
  (sSeq (sFor (irg (aCons (rdE 4) (aCons (rdE 6) aNil)) itZip) (gSeqD 2 (gsCons (gSet 7) (gsCons (gSet 8) gsNil))) (shows_for_df5e_b1 self))
  (sRetO (cst (.bl true)))))))))))
def shows_for_df5e : Nat → Den
  | 0 => fun _ => .bad
  | n + 1 => bodyN 4 9 (shows_for_df5e_g (shows_for_df5e n))
theorem shows_for_df5e_len : ∀ (n : Nat) (ds : List D), shows_for_df5e n ds ≠ .bad → ds.length = 4
  | 0, _, h => absurd rfl h
  | n + 1, ds, h => bodyN_len (n := 4) (N := 9) (g := shows_for_df5e_g (shows_for_df5e n)) ds h
end Fn
namespace Fn
open PySem DL
def law_shows_e19d_b1 (self : Den) : En → R Fl :=
  (sIf (bOr (tst (bop (nop (aCons (rd 0) aNil) dLen) (nop (aCons (rd 1) aNil) dLen) (dEq false))) (bNot (tst (nop (aCons (bop (rd 0) (nop (aCons (rdE 6) aNil) mkLst) dAdd) (aCons (rdE 1) (aCons (rdE 2) (aCons (bop (rd 4) (rd 6) dIxA) aNil)))) (callO self))))) (sRetO (cst (.bl false))) sSkip)
def law_shows_e19d_g (self : Den) : En → R Fl :=
  (sSeq (sIf (bOr (bNot (tst (uop (rd 3) (isiD "tuple")))) (tst (bop (nop (aCons (rd 3) aNil) dLen) (cst (.int 2)) (dEq true)))) (sRetO (cst (.bl false))) sSkip)
  (sSeq (sSet 4 (bop (rd 3) (cst (.int 1)) dIxA))
  (sSeq (sIf (tst (bop (bop (rd 3) (cst (.int 0)) dIxA) (cst (.str (Str.ofString "tie"))) (dEq false))) (sRetO (eAnd (nop (aCons (rdE 4) aNil) (callO Fn.law_whole_9e39)) (eAnd (eChain dLe dLt (cst (.int 0)) (rd 4) (nop (aCons (rd 2) aNil) dLen)) (nop (aCons (rdE 0) (aCons (bop (rd 2) (rd 4) dIxA) aNil)) (callO Fn.law_breaks_a0c3))))) sSkip)
  (sSeq (sIf (tst (bop (bop (rd 3) (cst (.int 0)) dIxA) (cst (.str (Str.ofString "short"))) (dEq false))) (sRetO (nop (aCons (rdE 0) (aCons (rdE 1) (aCons (rdE 4) aNil))) (callO Fn.law_short_f143))) sSkip)
  (sSeq (sSet 5 (nop (aCons (rd 0) aNil) lenS))
  (sSeq (sIf (bOr (tst (bop (bop (rd 3) (cst (.int 0)) dIxA) (cst (.str (Str.ofString "split"))) (dEq true))) (bOr (bNot (tst (uop (rd 4) (isiD "list")))) (tst (bop (nop (aCons (rd 4) aNil) dLen) (bop (rd 5) (cst (.int 1)) dAdd) (dEq true))))) (sRetO (cst (.bl false))) sSkip)
  (sSeq (sFor (irg (aCons (bop (rd 5) (cst (.int 1)) dAdd) aNil) rng1) (gSet 6) (law_shows_e19d_b1 self))
  (sRetO (cst (.bl true))))))))))
def law_shows_e19d : Nat → Den
  | 0 => fun _ => .bad
  | n + 1 => bodyN 4 7 (law_shows_e19d_g (law_shows_e19d n))
theorem law_shows_e19d_len : ∀ (n : Nat) (ds : List D), law_shows_e19d n ds ≠ .bad → ds.length = 4
  | 0, _, h => absurd rfl h
  | n + 1, ds, h => bodyN_len (n := 4) (N := 7) (g := law_shows_e19d_g (law_shows_e19d n)) ds h
end Fn
namespace Fn
open PySem DL
def law_blocks_7e69_b1 : En → R Fl :=
  (sIf (tst (nop (aCons (rdE 0) (aCons (rdE 1) (aCons (nop (aCons (rdE 5) (aCons (rdE 3) aNil)) mkLst) aNil))) (callO Fn.law_short_f143))) (sRetO (nop (aCons (rdE 5) (aCons (rdE 3) aNil)) mkLst)) sSkip)
def law_blocks_7e69_b2 : En → R Fl :=
  (sSeq (sIf (tst (nop (aCons (rdE 0) (aCons (rdE 1) (aCons (nop (aCons (rdE 3) aNil) mkLst) aNil))) (callO Fn.law_short_f143))) (sRetO (nop (aCons (rdE 3) aNil) mkLst)) sSkip)
  (sFor (irg (aCons (rd 3) aNil) rng1) (gSet 5) law_blocks_7e69_b1))
def law_blocks_7e69_g : En → R Fl :=
  (sSeq (sSet 2 (nop (aCons (rd 0) aNil) lenS))
  (sSeq (sFor (irg (aCons (rd 2) aNil) rng1) (gSet 3) law_blocks_7e69_b2)
  (sSeq (sSet 4 (uop (rd 2) dLR1))
  (sSeq (sIf (tst (nop (aCons (rdE 0) (aCons (rdE 1) (aCons (rdE 4) aNil))) (callO Fn.law_short_f143))) (sRet (rdE 4)) sSkip)
  (sRetO (nop aNil mkLst))))))
def law_blocks_7e69 : Den := bodyN 2 6 law_blocks_7e69_g
end Fn
namespace Fn
open PySem DL
def shows_0c85_g : En → R Fl :=
  (sRetO (nop (aCons (nop aNil mkLst) (aCons (rdE 0) (aCons (rdE 1) (aCons (rdE 2) aNil)))) (callO (Fn.shows_for_df5e 12))))
def shows_0c85 : Den := bodyN 3 3 shows_0c85_g
end Fn
namespace Fn
open PySem DL
def law_honest_3311_b1 (self : DenM) : En → R Fl :=
  (sIf (tst (nop (aCons (rdE 0) (aCons (bop (rd 2) (rd 5) dIxA) aNil)) (callO Fn.law_breaks_a0c3))) (sRetM [3] (nop (aCons (cst (.str (Str.ofString "tie"))) (aCons (rdE 5) aNil)) mkTup)) sSkip)
def law_honest_3311_c2 (self : DenM) : En → R (D × En) :=
  (callM self (aCons (bop (rd 0) (nop (aCons (rdE 8) aNil) mkLst) dAdd) (aCons (rdE 1) (aCons (rdE 2) (aCons (rdI 3) (aCons (rdE 4) aNil))))) [3])
def law_honest_3311_g (self : DenM) : En → R Fl :=
  (sSeq (sFor (irg (aCons (nop (aCons (rd 2) aNil) dLen) aNil) rng1) (gSet 5) (law_honest_3311_b1 self))
  (sSeq (sSet 6 (nop (aCons (rdE 0) (aCons (rdE 1) aNil)) (callE Fn.law_blocks_7e69)))
  (sSeq (sIf (bOr (tst (bop (rd 6) (nop aNil mkLst) (dEq true))) (tst (bop (nop (aCons (rd 0) aNil) dLen) (nop (aCons (rd 1) aNil) dLen) (dEq false)))) (sRetM [3] (nop (aCons (cst (.str (Str.ofString "short"))) (aCons (rdE 6) aNil)) mkTup)) sSkip)
  (sSeq (sSet 7 (nop (aCons (rd 0) aNil) lenS))
  (sRetC [3] (tupM (cst (.str (Str.ofString "split"))) (lcM [8] (irg (aCons (bop (rd 7) (cst (.int 1)) dAdd) aNil) rng1) (gSet 8) (law_honest_3311_c2 self))))))))
def law_honest_3311 (self : DenM) : DenM := bodyS 5 9 [3] (law_honest_3311_g self)
end Fn
namespace Fn
open PySem DL
def law_paper_14a1_g (self : DenM) : En → R Fl :=
  (sSeq (sPut 3 (bop (bop (rd 3) (cst (.int 0)) dIxA) (cst (.int 1)) dSub) (cst (.int 0)))
  (sSeq (sSet 5 (bop (bop (rd 3) (cst (.int 0)) dIxA) (cst (.int 0)) (dEq false)))
  (sSeq (sSetM 6 (callM (Fn.law_honest_3311 self) (aCons (rdE 0) (aCons (rdE 1) (aCons (rdE 2) (aCons (rdI 3) (aCons (rdE 4) aNil))))) [3]))
  (sSeq (sIf (tst (uop (rdE 5) flatO)) (sRetM [3] (nop (aCons (rdE 6) (aCons (rdE 4) aNil)) (callE Fn.law_turned_7c04))) sSkip)
  (sRetM [3] (rdE 6))))))
def law_paper_14a1 : Nat → DenM
  | 0 => fun _ => .bad
  | n + 1 => bodyS 5 7 [3] (law_paper_14a1_g (law_paper_14a1 n))
theorem law_paper_14a1_len : ∀ (n : Nat) (ds : List D) (z : D × List D), law_paper_14a1 n ds = .ok z → ds.length = 5
  | 0, _, _, h => nomatch h
  | n + 1, ds, z, h => bodyS_len (n := 5) (N := 7) (io := [3]) (g := law_paper_14a1_g (law_paper_14a1 n)) ds z h
end Fn
namespace Fn
open PySem DL
def law_ab80_e1 : En → R D :=
  (nop (aCons (rd 8) aNil) dList)
def law_ab80_g : En → R Fl :=
  (sSeq (sUnp (nop (aCons (rdE 0) (aCons (cst (.int 4)) aNil)) (callE Fn.law_drawn_8e11)) (gSeqD 3 (gsCons (gSet 5) (gsCons (gSet 6) (gsCons (gSet 7) gsNil)))))
  (sSeq (sSetO 1 (nop (aCons (bop (cst (.int 1)) (bop (nop (aCons (rdE 0) (aCons (bop (nop (aCons (rd 0) aNil) dLen) (cst (.int 2)) dDiv) aNil)) (callE Fn.law_cell_547d)) (cst (.int 12)) dMod) dAdd) aNil) mkLst))
  (sSeq (sSetM 2 (callM (Fn.law_paper_14a1 12) (aCons (nop aNil mkLst) (aCons (rdE 6) (aCons (rdE 7) (aCons (rdI 1) (aCons (nop (aCons (rdE 0) (aCons (bop (bop (nop (aCons (rd 0) aNil) dLen) (cst (.int 2)) dDiv) (cst (.int 1)) dAdd) aNil)) (callE Fn.law_cell_547d)) aNil))))) [1]))
  (sSeq (sIf (tst (bop (bop (bop (nop (aCons (rdE 0) (aCons (cst (.int 0)) aNil)) (callE Fn.law_cell_547d)) (cst (.int 96)) dDiv) (cst (.int 4)) dMod) (cst (.int 1)) (dEq false))) (sSet 2 (nop (aCons (rdE 2) (aCons (slc (rd 0) (pSome (cst (.int 9))) (pSome (cst (.int 39)))) aNil)) (callE Fn.law_wrapped_697f))) sSkip)
  (sSeq (sSet 3 (nop (aCons (lcD [8] (itr (rd 6)) (gSet 8) tYesD law_ab80_e1) (aCons (nop (aCons (rd 7) aNil) dList) aNil)) mkLst))
  (sSeq (sSet 4 (nop (aCons (bop (rd 3) (cst (.int 0)) dIxA) (aCons (bop (rd 3) (cst (.int 1)) dIxA) (aCons (rdE 2) aNil))) (callE Fn.shows_0c85)))
  (sSeq (sIf (bOr (bNot (tst (uop (rd 4) (isiD "bool")))) (tst (bop (rd 3) (nop (aCons (rdE 6) (aCons (rdE 7) aNil)) mkLst) (dEq true)))) (sRetO (cst (.bl false))) sSkip)
  (sRetO (bop (rd 4) (nop (aCons (nop aNil mkLst) (aCons (rdE 6) (aCons (rdE 7) (aCons (rdE 2) aNil)))) (callE (Fn.law_shows_e19d 12))) (dEq false))))))))))
def law_ab80 : Den := bodyN 1 9 law_ab80_g
end Fn
namespace Lk24
open PySem PySem.Spec PyProof.Rows L2 DL
def topS (i : Nat) : Stmt := PySem.Challenge.pw_deskround_k24_papers_of_anything.main.body.getD i (.Pass ⟨0, 0, 0, 0⟩)
abbrev s_is_whole : Stmt := topS 1
abbrev N_is_whole : List Str := ["thing"]
theorem sc_is_whole : FnScope N_is_whole ["thing"] (defScope s_is_whole) := ⟨rfl, rfl, rfl, by decide +kernel, rfl, by decide +kernel, by decide +kernel⟩
abbrev s_common : Stmt := topS 2
abbrev N_common : List Str := ["one", "other", "thing"]
theorem sc_common : FnScope N_common ["one", "other"] (defScope s_common) := ⟨rfl, rfl, rfl, by decide +kernel, rfl, by decide +kernel, by decide +kernel⟩
abbrev s_without : Stmt := topS 3
abbrev N_without : List Str := ["one", "other", "thing"]
theorem sc_without : FnScope N_without ["one", "other"] (defScope s_without) := ⟨rfl, rfl, rfl, by decide +kernel, rfl, by decide +kernel, by decide +kernel⟩
abbrev s_width : Stmt := topS 6
abbrev N_width : List Str := ["pattern"]
theorem sc_width : FnScope N_width ["pattern"] (defScope s_width) := ⟨rfl, rfl, rfl, by decide +kernel, rfl, by decide +kernel, by decide +kernel⟩
abbrev s_breaks : Stmt := topS 9
abbrev N_breaks : List Str := ["pattern", "tie", "there", "to_come", "step", "word", "limit", "steps"]
theorem sc_breaks : FnScope N_breaks ["pattern", "tie"] (defScope s_breaks) := ⟨rfl, rfl, rfl, by decide +kernel, rfl, by decide +kernel, by decide +kernel⟩
abbrev s__law_cell : Stmt := topS 16
abbrev N__law_cell : List Str := ["script", "k"]
theorem sc__law_cell : FnScope N__law_cell ["script", "k"] (defScope s__law_cell) := ⟨rfl, rfl, rfl, by decide +kernel, rfl, by decide +kernel, by decide +kernel⟩
abbrev s__law_whole : Stmt := topS 17
abbrev N__law_whole : List Str := ["found"]
theorem sc__law_whole : FnScope N__law_whole ["found"] (defScope s__law_whole) := ⟨rfl, rfl, rfl, by decide +kernel, rfl, by decide +kernel, by decide +kernel⟩
abbrev s__law_bond : Stmt := topS 19
abbrev N__law_bond : List Str := ["cell", "many", "mask", "steps", "limit", "k"]
theorem sc__law_bond : FnScope N__law_bond ["cell", "many"] (defScope s__law_bond) := ⟨rfl, rfl, rfl, by decide +kernel, rfl, by decide +kernel, by decide +kernel⟩
abbrev s__law_unlike : Stmt := topS 21
abbrev N__law_unlike : List Str := ["things", "steps", "count", "k", "step"]
theorem sc__law_unlike : FnScope N__law_unlike ["things", "steps"] (defScope s__law_unlike) := ⟨rfl, rfl, rfl, by decide +kernel, rfl, by decide +kernel, by decide +kernel⟩
abbrev s__law_in_all : Stmt := topS 23
abbrev N__law_in_all : List Str := ["badge", "lists", "steps", "step"]
theorem sc__law_in_all : FnScope N__law_in_all ["badge", "lists", "steps"] (defScope s__law_in_all) := ⟨rfl, rfl, rfl, by decide +kernel, rfl, by decide +kernel, by decide +kernel⟩
abbrev s__law_odd : Stmt := topS 28
abbrev N__law_odd : List Str := ["cell", "odd"]
theorem sc__law_odd : FnScope N__law_odd ["cell"] (defScope s__law_odd) := ⟨rfl, rfl, rfl, by decide +kernel, rfl, by decide +kernel, by decide +kernel⟩
abbrev s__law_truths : Stmt := topS 29
abbrev N__law_truths : List Str := ["rest", "number"]
theorem sc__law_truths : FnScope N__law_truths ["rest"] (defScope s__law_truths) := ⟨rfl, rfl, rfl, by decide +kernel, rfl, by decide +kernel, by decide +kernel⟩
abbrev s__law_wrapped : Stmt := topS 33
abbrev N__law_wrapped : List Str := ["thing", "cells", "cell"]
theorem sc__law_wrapped : FnScope N__law_wrapped ["thing", "cells"] (defScope s__law_wrapped) := ⟨rfl, rfl, rfl, by decide +kernel, rfl, by decide +kernel, by decide +kernel⟩
abbrev s_joined : Stmt := topS 4
abbrev N_joined : List Str := ["one", "other"]
theorem sc_joined : FnScope N_joined ["one", "other"] (defScope s_joined) := ⟨rfl, rfl, rfl, by decide +kernel, rfl, by decide +kernel, by decide +kernel⟩
abbrev s_grown : Stmt := topS 7
abbrev N_grown : List Str := ["pattern", "number"]
theorem sc_grown : FnScope N_grown ["pattern"] (defScope s_grown) := ⟨rfl, rfl, rfl, by decide +kernel, rfl, by decide +kernel, by decide +kernel⟩
abbrev s_pools_of : Stmt := topS 11
abbrev N_pools_of : List Str := ["pattern", "may", "pools", "step", "block"]
theorem sc_pools_of : FnScope N_pools_of ["pattern", "may"] (defScope s_pools_of) := ⟨rfl, rfl, rfl, by decide +kernel, rfl, by decide +kernel, by decide +kernel⟩
abbrev s__law_menu : Stmt := topS 18
abbrev N__law_menu : List Str := ["script", "at", "wide", "badges", "k", "cell"]
theorem sc__law_menu : FnScope N__law_menu ["script", "at", "wide"] (defScope s__law_menu) := ⟨rfl, rfl, rfl, by decide +kernel, rfl, by decide +kernel, by decide +kernel⟩
abbrev s__law_breaks : Stmt := topS 22
abbrev N__law_breaks : List Str := ["pattern", "tie", "here", "many", "step"]
theorem sc__law_breaks : FnScope N__law_breaks ["pattern", "tie"] (defScope s__law_breaks) := ⟨rfl, rfl, rfl, by decide +kernel, rfl, by decide +kernel, by decide +kernel⟩
abbrev s__law_pool : Stmt := topS 24
abbrev N__law_pool : List Str := ["pattern", "lists", "block", "steps", "k", "badge"]
theorem sc__law_pool : FnScope N__law_pool ["pattern", "lists", "block"] (defScope s__law_pool) := ⟨rfl, rfl, rfl, by decide +kernel, rfl, by decide +kernel, by decide +kernel⟩
abbrev s__law_turned : Stmt := topS 30
abbrev N__law_turned : List Str := ["paper", "cell", "way", "word", "rest"]
theorem sc__law_turned : FnScope N__law_turned ["paper", "cell"] (defScope s__law_turned) := ⟨rfl, rfl, rfl, by decide +kernel, rfl, by decide +kernel, by decide +kernel⟩
abbrev s_are_short : Stmt := topS 12
abbrev N_are_short : List Str := ["pools", "blocks", "last", "some", "block"]
theorem sc_are_short : FnScope N_are_short ["pools", "blocks"] (defScope s_are_short) := ⟨rfl, rfl, rfl, by decide +kernel, rfl, by decide +kernel, by decide +kernel⟩
abbrev s__law_drawn : Stmt := topS 20
abbrev N__law_drawn : List Str := ["script", "top", "first", "menu", "count", "rare", "lists", "ties", "k", "cell", "badge", "row"]
theorem sc__law_drawn : FnScope N__law_drawn ["script", "top"] (defScope s__law_drawn) := ⟨rfl, rfl, rfl, by decide +kernel, rfl, by decide +kernel, by decide +kernel⟩
abbrev s__law_short : Stmt := topS 25
abbrev N__law_short : List Str := ["pattern", "lists", "blocks", "some", "k", "badge"]
theorem sc__law_short : FnScope N__law_short ["pattern", "lists", "blocks"] (defScope s__law_short) := ⟨rfl, rfl, rfl, by decide +kernel, rfl, by decide +kernel, by decide +kernel⟩
abbrev s_shows_for : Stmt := topS 13
abbrev N_shows_for : List Str := ["pattern", "may", "ties", "paper", "longer", "word", "rest", "more", "part"]
theorem sc_shows_for : FnScope N_shows_for ["pattern", "may", "ties", "paper"] (defScope s_shows_for) := ⟨rfl, rfl, rfl, by decide +kernel, rfl, by decide +kernel, by decide +kernel⟩
abbrev s__law_shows : Stmt := topS 26
abbrev N__law_shows : List Str := ["pattern", "lists", "ties", "paper", "rest", "wide", "k"]
theorem sc__law_shows : FnScope N__law_shows ["pattern", "lists", "ties", "paper"] (defScope s__law_shows) := ⟨rfl, rfl, rfl, by decide +kernel, rfl, by decide +kernel, by decide +kernel⟩
abbrev s__law_blocks : Stmt := topS 27
abbrev N__law_blocks : List Str := ["pattern", "lists", "wide", "one", "every", "two"]
theorem sc__law_blocks : FnScope N__law_blocks ["pattern", "lists"] (defScope s__law_blocks) := ⟨rfl, rfl, rfl, by decide +kernel, rfl, by decide +kernel, by decide +kernel⟩
abbrev s_shows : Stmt := topS 14
abbrev N_shows : List Str := ["may", "ties", "paper"]
theorem sc_shows : FnScope N_shows ["may", "ties", "paper"] (defScope s_shows) := ⟨rfl, rfl, rfl, by decide +kernel, rfl, by decide +kernel, by decide +kernel⟩
abbrev s__law_honest : Stmt := topS 31
abbrev N__law_honest : List Str := ["pattern", "lists", "ties", "left", "cell", "place", "blocks", "wide", "k"]
theorem sc__law_honest : FnScope N__law_honest ["pattern", "lists", "ties", "left", "cell"] (defScope s__law_honest) := ⟨rfl, rfl, rfl, by decide +kernel, rfl, by decide +kernel, by decide +kernel⟩
abbrev s__law_paper : Stmt := topS 32
abbrev N__law_paper : List Str := ["pattern", "lists", "ties", "left", "cell", "here", "paper"]
theorem sc__law_paper : FnScope N__law_paper ["pattern", "lists", "ties", "left", "cell"] (defScope s__law_paper) := ⟨rfl, rfl, rfl, by decide +kernel, rfl, by decide +kernel, by decide +kernel⟩
abbrev s_law : Stmt := topS 34
abbrev N_law : List Str := ["script", "left", "paper", "handed", "found", "menu", "lists", "ties", "row"]
theorem sc_law : FnScope N_law ["script"] (defScope s_law) := ⟨rfl, rfl, rfl, by decide +kernel, rfl, by decide +kernel, by decide +kernel⟩
structure Txt (K : PySem.W.Frag) (mg : Str → Option Value) where
  a_is_whole : Addr
  d_is_whole : FuncData
  F_is_whole : Fun K "is_whole" "is_whole" s_is_whole a_is_whole d_is_whole
  m_is_whole : mg "is_whole" = some (.ref a_is_whole)
  b_is_whole : Binds K d_is_whole ["thing"] []
  a_common : Addr
  d_common : FuncData
  F_common : Fun K "common" "common" s_common a_common d_common
  m_common : mg "common" = some (.ref a_common)
  b_common : Binds K d_common ["one", "other"] []
  a_without : Addr
  d_without : FuncData
  F_without : Fun K "without" "without" s_without a_without d_without
  m_without : mg "without" = some (.ref a_without)
  b_without : Binds K d_without ["one", "other"] []
  a_width : Addr
  d_width : FuncData
  F_width : Fun K "width" "width" s_width a_width d_width
  m_width : mg "width" = some (.ref a_width)
  b_width : Binds K d_width ["pattern"] []
  a_breaks : Addr
  d_breaks : FuncData
  F_breaks : Fun K "breaks" "breaks" s_breaks a_breaks d_breaks
  m_breaks : mg "breaks" = some (.ref a_breaks)
  b_breaks : Binds K d_breaks ["pattern", "tie"] []
  a__law_cell : Addr
  d__law_cell : FuncData
  F__law_cell : Fun K "_law_cell" "_law_cell" s__law_cell a__law_cell d__law_cell
  m__law_cell : mg "_law_cell" = some (.ref a__law_cell)
  b__law_cell : Binds K d__law_cell ["script", "k"] []
  a__law_whole : Addr
  d__law_whole : FuncData
  F__law_whole : Fun K "_law_whole" "_law_whole" s__law_whole a__law_whole d__law_whole
  m__law_whole : mg "_law_whole" = some (.ref a__law_whole)
  b__law_whole : Binds K d__law_whole ["found"] []
  a__law_bond : Addr
  d__law_bond : FuncData
  F__law_bond : Fun K "_law_bond" "_law_bond" s__law_bond a__law_bond d__law_bond
  m__law_bond : mg "_law_bond" = some (.ref a__law_bond)
  b__law_bond : Binds K d__law_bond ["cell", "many"] []
  a__law_unlike : Addr
  d__law_unlike : FuncData
  F__law_unlike : Fun K "_law_unlike" "_law_unlike" s__law_unlike a__law_unlike d__law_unlike
  m__law_unlike : mg "_law_unlike" = some (.ref a__law_unlike)
  b__law_unlike : Binds K d__law_unlike ["things", "steps"] []
  a__law_in_all : Addr
  d__law_in_all : FuncData
  F__law_in_all : Fun K "_law_in_all" "_law_in_all" s__law_in_all a__law_in_all d__law_in_all
  m__law_in_all : mg "_law_in_all" = some (.ref a__law_in_all)
  b__law_in_all : Binds K d__law_in_all ["badge", "lists", "steps"] []
  a__law_odd : Addr
  d__law_odd : FuncData
  F__law_odd : Fun K "_law_odd" "_law_odd" s__law_odd a__law_odd d__law_odd
  m__law_odd : mg "_law_odd" = some (.ref a__law_odd)
  b__law_odd : Binds K d__law_odd ["cell"] []
  a__law_truths : Addr
  d__law_truths : FuncData
  F__law_truths : Fun K "_law_truths" "_law_truths" s__law_truths a__law_truths d__law_truths
  m__law_truths : mg "_law_truths" = some (.ref a__law_truths)
  b__law_truths : Binds K d__law_truths ["rest"] []
  a__law_wrapped : Addr
  d__law_wrapped : FuncData
  F__law_wrapped : Fun K "_law_wrapped" "_law_wrapped" s__law_wrapped a__law_wrapped d__law_wrapped
  m__law_wrapped : mg "_law_wrapped" = some (.ref a__law_wrapped)
  b__law_wrapped : Binds K d__law_wrapped ["thing", "cells"] []
  a_joined : Addr
  d_joined : FuncData
  F_joined : Fun K "joined" "joined" s_joined a_joined d_joined
  m_joined : mg "joined" = some (.ref a_joined)
  b_joined : Binds K d_joined ["one", "other"] []
  a_grown : Addr
  d_grown : FuncData
  F_grown : Fun K "grown" "grown" s_grown a_grown d_grown
  m_grown : mg "grown" = some (.ref a_grown)
  b_grown : Binds K d_grown ["pattern"] []
  a_pools_of : Addr
  d_pools_of : FuncData
  F_pools_of : Fun K "pools_of" "pools_of" s_pools_of a_pools_of d_pools_of
  m_pools_of : mg "pools_of" = some (.ref a_pools_of)
  b_pools_of : Binds K d_pools_of ["pattern", "may"] []
  a__law_menu : Addr
  d__law_menu : FuncData
  F__law_menu : Fun K "_law_menu" "_law_menu" s__law_menu a__law_menu d__law_menu
  m__law_menu : mg "_law_menu" = some (.ref a__law_menu)
  b__law_menu : Binds K d__law_menu ["script", "at", "wide"] []
  a__law_breaks : Addr
  d__law_breaks : FuncData
  F__law_breaks : Fun K "_law_breaks" "_law_breaks" s__law_breaks a__law_breaks d__law_breaks
  m__law_breaks : mg "_law_breaks" = some (.ref a__law_breaks)
  b__law_breaks : Binds K d__law_breaks ["pattern", "tie"] []
  a__law_pool : Addr
  d__law_pool : FuncData
  F__law_pool : Fun K "_law_pool" "_law_pool" s__law_pool a__law_pool d__law_pool
  m__law_pool : mg "_law_pool" = some (.ref a__law_pool)
  b__law_pool : Binds K d__law_pool ["pattern", "lists", "block"] []
  a__law_turned : Addr
  d__law_turned : FuncData
  F__law_turned : Fun K "_law_turned" "_law_turned" s__law_turned a__law_turned d__law_turned
  m__law_turned : mg "_law_turned" = some (.ref a__law_turned)
  b__law_turned : Binds K d__law_turned ["paper", "cell"] []
  a_are_short : Addr
  d_are_short : FuncData
  F_are_short : Fun K "are_short" "are_short" s_are_short a_are_short d_are_short
  m_are_short : mg "are_short" = some (.ref a_are_short)
  b_are_short : Binds K d_are_short ["pools", "blocks"] []
  a__law_drawn : Addr
  d__law_drawn : FuncData
  F__law_drawn : Fun K "_law_drawn" "_law_drawn" s__law_drawn a__law_drawn d__law_drawn
  m__law_drawn : mg "_law_drawn" = some (.ref a__law_drawn)
  b__law_drawn : Binds K d__law_drawn ["script", "top"] []
  a__law_short : Addr
  d__law_short : FuncData
  F__law_short : Fun K "_law_short" "_law_short" s__law_short a__law_short d__law_short
  m__law_short : mg "_law_short" = some (.ref a__law_short)
  b__law_short : Binds K d__law_short ["pattern", "lists", "blocks"] []
  a_shows_for : Addr
  d_shows_for : FuncData
  F_shows_for : Fun K "shows_for" "shows_for" s_shows_for a_shows_for d_shows_for
  m_shows_for : mg "shows_for" = some (.ref a_shows_for)
  b_shows_for : Binds K d_shows_for ["pattern", "may", "ties", "paper"] []
  a__law_shows : Addr
  d__law_shows : FuncData
  F__law_shows : Fun K "_law_shows" "_law_shows" s__law_shows a__law_shows d__law_shows
  m__law_shows : mg "_law_shows" = some (.ref a__law_shows)
  b__law_shows : Binds K d__law_shows ["pattern", "lists", "ties", "paper"] []
  a__law_blocks : Addr
  d__law_blocks : FuncData
  F__law_blocks : Fun K "_law_blocks" "_law_blocks" s__law_blocks a__law_blocks d__law_blocks
  m__law_blocks : mg "_law_blocks" = some (.ref a__law_blocks)
  b__law_blocks : Binds K d__law_blocks ["pattern", "lists"] []
  a_shows : Addr
  d_shows : FuncData
  F_shows : Fun K "shows" "shows" s_shows a_shows d_shows
  m_shows : mg "shows" = some (.ref a_shows)
  b_shows : Binds K d_shows ["may", "ties", "paper"] []
  a__law_honest : Addr
  d__law_honest : FuncData
  F__law_honest : Fun K "_law_honest" "_law_honest" s__law_honest a__law_honest d__law_honest
  m__law_honest : mg "_law_honest" = some (.ref a__law_honest)
  b__law_honest : Binds K d__law_honest ["pattern", "lists", "ties", "left", "cell"] []
  a__law_paper : Addr
  d__law_paper : FuncData
  F__law_paper : Fun K "_law_paper" "_law_paper" s__law_paper a__law_paper d__law_paper
  m__law_paper : mg "_law_paper" = some (.ref a__law_paper)
  b__law_paper : Binds K d__law_paper ["pattern", "lists", "ties", "left", "cell"] []
  a_law : Addr
  d_law : FuncData
  F_law : Fun K "law" "law" s_law a_law d_law
  m_law : mg "law" = some (.ref a_law)
  b_law : Binds K d_law ["script"] []
  z_bool : mg "bool" = none
  z_enumerate : mg "enumerate" = none
  z_int : mg "int" = none
  z_isinstance : mg "isinstance" = none
  z_len : mg "len" = none
  z_list : mg "list" = none
  z_max : mg "max" = none
  z_min : mg "min" = none
  z_range : mg "range" = none
  z_set : mg "set" = none
  z_sorted : mg "sorted" = none
  z_tuple : mg "tuple" = none
  z_zip : mg "zip" = none
section
variable {P : Program} {w : World} {K : PySem.W.Frag} {mg : Str → Option Value} {base : Heap}
theorem ok_is_whole (T : Txt K mg) : FnOk P w K mg base CX0 1 T.a_is_whole T.d_is_whole ["thing"] (spD K (fun _ => 0) 1 Fn.is_whole_9e39) :=
  ok_def T.F_is_whole sc_is_whole fun cdv A outer s H E F0 as hr =>
  (ss_one (s_retO (d_and (d_isi rfl (v_R (pv 0)) (ty_of T.z_int (by decide +kernel)) (by decide +kernel) T.z_isinstance) (d_one (d_not (d_isi rfl (v_R (pv 0)) (ty_of T.z_bool (by decide +kernel)) (by decide +kernel) T.z_isinstance))))))
theorem ok_common (T : Txt K mg) : FnOk P w K mg base CX0 1 T.a_common T.d_common ["one", "other"] (spV K (fun _ => 0) 2 Fn.common_38af) :=
  ok_defV T.F_common sc_common fun ds vs cdv A outer s H E F0 as hr =>
  (ss_one (s_retO (d_lc (own := [("thing", 2)]) rfl sc_common.nd (i_seqR rfl (v_L (pv 0))) (blkOk_by (own := [("thing", 2)]) (N := N_common) (sc := defScope s_common) (by decide +kernel)) (fun _ _ _ _ _ => (g_name (i := 2) (own := [2]) sc_common.nd)) (fun _ _ _ _ _ => (ts_one (dt_in rfl hr (v_R (pv 2)) (v_L (pv 1))))) (fun _ _ _ _ _ => (v_E (pv 2))))))
theorem ok_without (T : Txt K mg) : FnOk P w K mg base CX0 1 T.a_without T.d_without ["one", "other"] (spD K (fun _ => 0) 2 Fn.without_7dfd) :=
  ok_def T.F_without sc_without fun cdv A outer s H E F0 as hr =>
  (ss_one (s_retO (d_lc (own := [("thing", 2)]) rfl sc_without.nd (i_seqR rfl (v_R (pv 0))) (blkOk_by (own := [("thing", 2)]) (N := N_without) (sc := defScope s_without) (by decide +kernel)) (fun _ _ _ _ _ => (g_name (i := 2) (own := [2]) sc_without.nd)) (fun _ _ _ _ _ => (ts_one (dt_notin rfl hr (v_R (pv 2)) (v_R (pv 1))))) (fun _ _ _ _ _ => (v_E (pv 2))))))
theorem ok_width (T : Txt K mg) : FnOk P w K mg base CX0 1 T.a_width T.d_width ["pattern"] (spD K (fun _ => 0) 1 Fn.width_9fdd) :=
  ok_def T.F_width sc_width fun cdv A outer s H E F0 as hr =>
  (ss_one (s_retO (d_add rfl (r_of_o (d_maxDef rfl rfl T.z_max (v_R (pv 0)) (r_of_o (d_neg (r_of_o c_int))))) (r_of_o c_int))))
theorem ok_breaks (T : Txt K mg) : FnOk P w K mg base CX0 1 T.a_breaks T.d_breaks ["pattern", "tie"] (spD K (fun _ => 0) 2 Fn.breaks_a702) :=
  ok_def T.F_breaks sc_breaks fun cdv A outer s H E F0 as hr =>
  (ss_cons (s_unp (v_E (pv 1)) (g_seq rfl (gs_cons (g_name (i := 5) (own := [5, 6, 7]) sc_breaks.nd) (gs_cons (g_name (i := 6) (own := [5, 6, 7]) sc_breaks.nd) (gs_cons (g_name (i := 7) (own := [5, 6, 7]) sc_breaks.nd) gs_nil)))))
  (ss_cons (s_setO (i := 2) d_dictK sc_breaks.nd)
  (ss_cons (s_set (i := 3) (e_of_o c_int) sc_breaks.nd)
  (ss_cons (s_for rfl (i_seqE rfl (v_E (pv 7))) (g_name (i := 4) (own := [4]) sc_breaks.nd) (ss_one (s_if (dt_lt (v_R (pv 4)) (r_of_o (DL.d_len rfl T.z_len (w_cons (v_R (pv 0)) w_nil)))) (ss_one (s_put (eu1 hr) (pv 2) (e_of_o c_bl) (r_of_e (d_ixA rfl (eu1 hr) (v_R (pv 0)) (v_R (pv 4)))))) (ss_one (s_set (i := 3) (e_of_o (d_add rfl (v_R (pv 3)) (r_of_o c_int))) sc_breaks.nd)))) PassesOwn.never)
  (ss_cons (s_if (dt_eq rfl hr (v_R (pv 5)) (r_of_o c_str)) (ss_one (s_retO (d_gt (r_of_o (DL.d_len rfl T.z_len (w_cons (v_R (pv 2)) w_nil))) (v_R (pv 6))))) ss_nil)
  (ss_one (s_retO (d_lt (r_of_o (d_add rfl (r_of_o (DL.d_len rfl T.z_len (w_cons (v_R (pv 2)) w_nil))) (v_R (pv 3)))) (v_R (pv 6))))))))))
theorem ok__law_cell (T : Txt K mg) : FnOk P w K mg base CX0 1 T.a__law_cell T.d__law_cell ["script", "k"] (spD K (fun _ => 0) 2 Fn.law_cell_547d) :=
  ok_def T.F__law_cell sc__law_cell fun cdv A outer s H E F0 as hr =>
  (ss_cons (s_if (dt_lt (v_R (pv 1)) (r_of_o (DL.d_len rfl T.z_len (w_cons (v_R (pv 0)) w_nil)))) (ss_one (s_ret (d_ixA rfl (eu1 hr) (v_R (pv 0)) (v_R (pv 1))))) ss_nil)
  (ss_cons (s_if (dt_eq rfl hr (v_R (pv 0)) (r_of_o (d_lst a_nil))) (ss_one (s_retO (d_add rfl (r_of_o (d_mul (r_of_o (d_mul (v_R (pv 1)) (v_R (pv 1)))) (r_of_o c_int))) (r_of_o (d_mul (r_of_o c_int) (v_R (pv 1))))))) ss_nil)
  (ss_one (s_retO (d_mod (r_of_o (d_mul (r_of_o (d_add rfl (r_of_o (d_add rfl (r_of_e (d_ixA rfl (eu1 hr) (v_R (pv 0)) (r_of_o (d_mod (v_R (pv 1)) (r_of_o (DL.d_len rfl T.z_len (w_cons (v_R (pv 0)) w_nil))))))) (r_of_o (d_mul (r_of_o (d_mul (v_R (pv 1)) (v_R (pv 1)))) (r_of_o c_int))))) (r_of_o c_int))) (r_of_o c_int))) (r_of_o c_int))))))
theorem ok__law_whole (T : Txt K mg) : FnOk P w K mg base CX0 1 T.a__law_whole T.d__law_whole ["found"] (spD K (fun _ => 0) 1 Fn.law_whole_9e39) :=
  ok_def T.F__law_whole sc__law_whole fun cdv A outer s H E F0 as hr =>
  (ss_one (s_retO (d_and (d_isi rfl (v_R (pv 0)) (ty_of T.z_int (by decide +kernel)) (by decide +kernel) T.z_isinstance) (d_one (d_not (d_isi rfl (v_R (pv 0)) (ty_of T.z_bool (by decide +kernel)) (by decide +kernel) T.z_isinstance))))))
theorem ok__law_bond (T : Txt K mg) : FnOk P w K mg base CX0 1 T.a__law_bond T.d__law_bond ["cell", "many"] (spD K (fun _ => 0) 2 Fn.law_bond_8e48) :=
  ok_def T.F__law_bond sc__law_bond fun cdv A outer s H E F0 as hr =>
  (ss_cons (s_set (i := 2) (e_of_o (d_add rfl (r_of_o c_int) (r_of_o (d_mod (r_of_o (d_div (v_R (pv 0)) (r_of_o c_int))) (r_of_e (d_ixA rfl (eu1 hr) (r_of_o (d_lst (a_cons (e_of_o c_int) (a_cons (e_of_o c_int) (a_cons (e_of_o c_int) (a_cons (e_of_o c_int) (a_cons (e_of_o c_int) (a_cons (e_of_o c_int) a_nil)))))))) (r_of_o (d_sub (v_R (pv 1)) (r_of_o c_int))))))))) sc__law_bond.nd)
  (ss_cons (s_toC (s_setLc (i := 3) (own := [("k", 5)]) rfl sc__law_bond.nd (i_range1 T.z_range (w_cons (v_R (pv 1)) w_nil)) (blkOk_by (own := [("k", 5)]) (N := N__law_bond) (sc := defScope s__law_bond) (by decide +kernel)) (fun _ _ _ _ _ => (g_name (i := 5) (own := [5]) sc__law_bond.nd)) (fun _ _ _ _ _ => (ts_one (dt_eq rfl hr (r_of_o (d_mod (r_of_o (d_div (v_R (pv 2)) (r_of_e (d_ixA rfl (eu1 hr) (r_of_o (d_lst (a_cons (e_of_o c_int) (a_cons (e_of_o c_int) (a_cons (e_of_o c_int) (a_cons (e_of_o c_int) (a_cons (e_of_o c_int) (a_cons (e_of_o c_int) a_nil)))))))) (v_R (pv 5)))))) (r_of_o c_int))) (r_of_o c_int)))) (fun _ _ _ _ _ => (v_E (pv 5))) (sw_true rfl rfl rfl (by decide +kernel))))
  (ss_cons (s_set (i := 4) (e_of_o (d_add rfl (r_of_o c_int) (r_of_o (d_mod (r_of_o (d_div (v_R (pv 0)) (r_of_o c_int))) (r_of_o c_int))))) sc__law_bond.nd)
  (ss_cons (s_if (dt_gt (r_of_o (d_mod (r_of_o (d_div (v_R (pv 0)) (r_of_o c_int))) (r_of_o c_int))) (r_of_o c_int)) (ss_one (s_set (i := 4) (e_of_o (d_add rfl (r_of_o c_int) (r_of_o (d_mod (r_of_o (d_sub (v_R (pv 4)) (r_of_o c_int))) (r_of_o (DL.d_len rfl T.z_len (w_cons (v_R (pv 3)) w_nil))))))) sc__law_bond.nd)) ss_nil)
  (ss_one (s_retO (d_tup (a_cons (d_ixA rfl (eu1 hr) (r_of_o (d_lst (a_cons (e_of_o c_str) (a_cons (e_of_o c_str) a_nil)))) (r_of_o (d_mod (v_R (pv 0)) (r_of_o c_int)))) (a_cons (v_E (pv 4)) (a_cons (e_of_o (DL.d_tuple rfl T.z_tuple (w_cons (v_R (pv 3)) w_nil))) a_nil))))))))))
theorem ok__law_unlike (T : Txt K mg) : FnOk P w K mg base CX0 1 T.a__law_unlike T.d__law_unlike ["things", "steps"] (spD K (fun _ => 0) 2 Fn.law_unlike_f766) :=
  ok_def T.F__law_unlike sc__law_unlike fun cdv A outer s H E F0 as hr =>
  (ss_cons (s_set (i := 2) (e_of_o c_int) sc__law_unlike.nd)
  (ss_cons (s_for rfl (i_range1 T.z_range (w_cons (r_of_o (DL.d_len rfl T.z_len (w_cons (v_R (pv 1)) w_nil))) w_nil)) (g_name (i := 3) (own := [3]) sc__law_unlike.nd) (ss_one (s_if (dt_notin rfl hr (r_of_e (d_ixA rfl (eu1 hr) (v_R (pv 0)) (r_of_e (d_ixA rfl (eu1 hr) (v_R (pv 1)) (v_R (pv 3)))))) (r_of_o (d_lc (own := [("step", 4)]) rfl sc__law_unlike.nd (i_seqR rfl (r_of_o (d_slice rfl (v_R (pv 1)) p_none (p_some (o_of_e (v_E (pv 3))))))) (blkOk_by (own := [("step", 4)]) (N := N__law_unlike) (sc := defScope s__law_unlike) (by decide +kernel)) (fun _ _ _ _ _ => (g_name (i := 4) (own := [4]) sc__law_unlike.nd)) (fun _ _ _ _ _ => ts_nil) (fun _ _ _ _ _ => (d_ixA rfl (eu1 hr) (v_R (pv 0)) (v_R (pv 4))))))) (ss_one (s_set (i := 2) (e_of_o (d_add rfl (v_R (pv 2)) (r_of_o c_int))) sc__law_unlike.nd)) ss_nil)) PassesOwn.never)
  (ss_one (s_ret (v_E (pv 2))))))
theorem ok__law_in_all (T : Txt K mg) : FnOk P w K mg base CX0 1 T.a__law_in_all T.d__law_in_all ["badge", "lists", "steps"] (spD K (fun _ => 0) 3 Fn.law_in_all_ba70) :=
  ok_def T.F__law_in_all sc__law_in_all fun cdv A outer s H E F0 as hr =>
  (ss_cons (s_for rfl (i_seqE rfl (v_E (pv 2))) (g_name (i := 3) (own := [3]) sc__law_in_all.nd) (ss_one (s_if (dt_notin rfl hr (v_R (pv 0)) (r_of_e (d_ixA rfl (eu1 hr) (v_R (pv 1)) (v_R (pv 3))))) (ss_one (s_retO c_bl)) ss_nil)) PassesOwn.never)
  (ss_one (s_retO c_bl)))
theorem ok__law_odd (T : Txt K mg) : FnOk P w K mg base CX0 1 T.a__law_odd T.d__law_odd ["cell"] (spD K (fun _ => 0) 1 Fn.law_odd_c3c0) :=
  ok_def T.F__law_odd sc__law_odd fun cdv A outer s H E F0 as hr =>
  (ss_cons (s_set (i := 1) (e_of_o (d_lst (a_cons (e_of_o c_non) (a_cons (e_of_o c_bl) (a_cons (e_of_o c_int) (a_cons (e_of_o c_str) (a_cons (e_of_o c_str) (a_cons (e_of_o (d_lst a_nil)) (a_cons (e_of_o (d_tup a_nil)) (a_cons (e_of_o (d_tup (a_cons (e_of_o c_str) a_nil))) (a_cons (e_of_o (d_tup (a_cons (e_of_o c_str) (a_cons (e_of_o c_non) a_nil)))) (a_cons (e_of_o (d_tup (a_cons (e_of_o c_str) (a_cons (e_of_o c_bl) a_nil)))) (a_cons (e_of_o (d_tup (a_cons (e_of_o c_str) (a_cons (e_of_o c_bl) a_nil)))) (a_cons (e_of_o (d_tup (a_cons (e_of_o c_str) (a_cons (e_of_o (d_neg (r_of_o c_int))) a_nil)))) a_nil)))))))))))))) sc__law_odd.nd)
  (ss_cons (s_set (i := 1) (e_of_o (d_add rfl (v_R (pv 1)) (r_of_o (d_lst (a_cons (e_of_o (d_tup (a_cons (e_of_o c_str) (a_cons (e_of_o (d_lst (a_cons (e_of_o c_int) a_nil))) a_nil)))) (a_cons (e_of_o (d_lst (a_cons (e_of_o c_str) (a_cons (e_of_o c_int) a_nil)))) (a_cons (e_of_o (d_tup (a_cons (e_of_o c_str) (a_cons (e_of_o c_int) (a_cons (e_of_o c_int) a_nil))))) (a_cons (e_of_o (d_tup (a_cons (e_of_o c_str) (a_cons (e_of_o c_str) a_nil)))) (a_cons (e_of_o (d_tup (a_cons (e_of_o c_str) (a_cons (e_of_o (d_tup (a_cons (e_of_o c_int) a_nil))) a_nil)))) (a_cons (e_of_o (d_tup (a_cons (e_of_o c_str) (a_cons (e_of_o c_non) a_nil)))) (a_cons (e_of_o (d_tup (a_cons (e_of_o c_str) (a_cons (e_of_o c_int) a_nil)))) a_nil))))))))))) sc__law_odd.nd)
  (ss_cons (s_set (i := 1) (e_of_o (d_add rfl (v_R (pv 1)) (r_of_o (d_lst (a_cons (e_of_o (d_tup (a_cons (e_of_o c_str) (a_cons (e_of_o (d_tup (a_cons (e_of_o c_int) a_nil))) a_nil)))) (a_cons (e_of_o (d_tup (a_cons (e_of_o c_str) (a_cons (e_of_o (d_lst (a_cons (e_of_o c_bl) a_nil))) a_nil)))) (a_cons (e_of_o (d_tup (a_cons (e_of_o c_str) (a_cons (e_of_o (d_lst (a_cons (e_of_o c_non) a_nil))) a_nil)))) (a_cons (e_of_o (d_tup (a_cons (e_of_o c_str) (a_cons (e_of_o (d_lst (a_cons (e_of_o c_str) a_nil))) a_nil)))) (a_cons (e_of_o (d_tup (a_cons (e_of_o c_str) (a_cons (e_of_o (d_lst (a_cons (e_of_o c_int) (a_cons (e_of_o c_int) a_nil)))) a_nil)))) a_nil))))))))) sc__law_odd.nd)
  (ss_cons (s_set (i := 1) (e_of_o (d_add rfl (v_R (pv 1)) (r_of_o (d_lst (a_cons (e_of_o (d_tup (a_cons (e_of_o c_str) (a_cons (e_of_o (d_lst (a_cons (e_of_o (d_neg (r_of_o c_int))) a_nil))) a_nil)))) (a_cons (e_of_o (d_tup (a_cons (e_of_o c_str) (a_cons (e_of_o (d_lst (a_cons (e_of_o (d_lst (a_cons (e_of_o c_int) a_nil))) a_nil))) a_nil)))) (a_cons (e_of_o (d_tup (a_cons (e_of_o c_str) (a_cons (e_of_o c_non) a_nil)))) (a_cons (e_of_o (d_tup (a_cons (e_of_o c_str) (a_cons (e_of_o (d_tup a_nil)) a_nil)))) (a_cons (e_of_o (d_tup (a_cons (e_of_o c_str) (a_cons (e_of_o (d_lst a_nil)) a_nil)))) (a_cons (e_of_o (d_tup (a_cons (e_of_o c_str) (a_cons (e_of_o c_int) a_nil)))) a_nil)))))))))) sc__law_odd.nd)
  (ss_cons (s_set (i := 1) (e_of_o (d_add rfl (v_R (pv 1)) (r_of_o (d_lst (a_cons (e_of_o (d_tup (a_cons (e_of_o c_str) (a_cons (e_of_o c_str) a_nil)))) (a_cons (e_of_o (d_tup (a_cons (e_of_o c_str) (a_cons (e_of_o (d_lst (a_cons (e_of_o c_non) (a_cons (e_of_o c_non) a_nil)))) a_nil)))) (a_cons (e_of_o (d_tup (a_cons (e_of_o c_str) (a_cons (e_of_o c_int) a_nil)))) (a_cons (e_of_o (d_tup (a_cons (e_of_o c_int) (a_cons (e_of_o c_str) a_nil)))) (a_cons (e_of_o (d_tup (a_cons (e_of_o c_str) (a_cons (e_of_o (d_lst (a_cons (e_of_o c_int) a_nil))) a_nil)))) (a_cons (e_of_o (d_tup (a_cons (e_of_o c_non) (a_cons (e_of_o c_non) a_nil)))) a_nil)))))))))) sc__law_odd.nd)
  (ss_cons (s_set (i := 1) (e_of_o (d_add rfl (v_R (pv 1)) (r_of_o (d_lst (a_cons (e_of_o (d_tup (a_cons (e_of_o c_str) (a_cons (e_of_o (d_tup (a_cons (e_of_o c_str) (a_cons (e_of_o c_int) a_nil)))) a_nil)))) (a_cons (e_of_o (d_tup (a_cons (e_of_o (d_lst (a_cons (e_of_o c_str) a_nil))) (a_cons (e_of_o c_int) a_nil)))) (a_cons (e_of_o (d_tup (a_cons (e_of_o c_str) (a_cons (e_of_o (d_lst (a_cons (e_of_o (d_mod (r_of_o (d_div (v_R (pv 0)) (r_of_o c_int))) (r_of_o (d_pow (r_of_o c_int) (r_of_o c_int))))) a_nil))) a_nil)))) (a_cons (e_of_o (d_sub (r_of_o c_int) (r_of_o (d_mod (r_of_o (d_div (v_R (pv 0)) (r_of_o c_int))) (r_of_o (d_pow (r_of_o c_int) (r_of_o c_int))))))) a_nil)))))))) sc__law_odd.nd)
  (ss_one (s_ret (d_ixA rfl (eu1 hr) (v_R (pv 1)) (r_of_o (d_mod (v_R (pv 0)) (r_of_o (DL.d_len rfl T.z_len (w_cons (v_R (pv 1)) w_nil))))))))))))))
theorem ok__law_truths (T : Txt K mg) : FnOk P w K mg base CX0 1 T.a__law_truths T.d__law_truths ["rest"] (spD K (fun _ => 0) 1 Fn.law_truths_d54f) :=
  ok_def T.F__law_truths sc__law_truths fun cdv A outer s H E F0 as hr =>
  (ss_cons (s_if (dt_val (d_isi rfl (v_R (pv 0)) (ty_of T.z_list (by decide +kernel)) (by decide +kernel) T.z_isinstance)) (ss_one (s_retO (d_lc (own := [("number", 1)]) rfl sc__law_truths.nd (i_seqR rfl (v_R (pv 0))) (blkOk_by (own := [("number", 1)]) (N := N__law_truths) (sc := defScope s__law_truths) (by decide +kernel)) (fun _ _ _ _ _ => (g_name (i := 1) (own := [1]) sc__law_truths.nd)) (fun _ _ _ _ _ => ts_nil) (fun _ _ _ _ _ => (e_of_o (d_eq rfl hr (v_R (pv 1)) (r_of_o c_int))))))) ss_nil)
  (ss_one (s_retO (d_eq rfl hr (v_R (pv 0)) (r_of_o c_int)))))
theorem ok__law_wrapped (T : Txt K mg) : FnOk P w K mg base CX0 1 T.a__law_wrapped T.d__law_wrapped ["thing", "cells"] (spD K (fun _ => 0) 2 Fn.law_wrapped_697f) :=
  ok_def T.F__law_wrapped sc__law_wrapped fun cdv A outer s H E F0 as hr =>
  (ss_cons (s_for rfl (i_seqE rfl (v_E (pv 1))) (g_name (i := 2) (own := [2]) sc__law_wrapped.nd) (ss_one (s_set (i := 0) (d_ixA rfl (eu1 hr) (r_of_o (d_lst (a_cons (e_of_o (d_lst (a_cons (v_E (pv 0)) a_nil))) (a_cons (e_of_o (d_tup (a_cons (v_E (pv 0)) a_nil))) (a_cons (e_of_o (d_tup (a_cons (e_of_o c_str) (a_cons (e_of_o (d_lst (a_cons (v_E (pv 0)) a_nil))) a_nil)))) (a_cons (e_of_o (d_tup (a_cons (e_of_o c_str) (a_cons (v_E (pv 0)) a_nil)))) (a_cons (e_of_o (d_tup (a_cons (e_of_o c_str) (a_cons (e_of_o (d_lst (a_cons (v_E (pv 0)) a_nil))) a_nil)))) a_nil))))))) (r_of_o (d_mod (v_R (pv 2)) (r_of_o c_int)))) sc__law_wrapped.nd)) PassesOwn.never)
  (ss_one (s_ret (v_E (pv 0)))))
theorem ok_joined (T : Txt K mg) : FnOk P w K mg base CX0 2 T.a_joined T.d_joined ["one", "other"] (spD K (fun _ => 0) 2 Fn.joined_a161) :=
  ok_def T.F_joined sc_joined fun cdv A outer s H E F0 as hr =>
  (ss_one (s_retO (DL.d_sorted rfl T.z_sorted (w_cons (r_of_o (d_add rfl (v_R (pv 0)) (r_of_e (d_callE (ok_without T) bodyN_len (hr.mono (by decide)) T.m_without T.F_without.kp T.b_without pass0 (fun _ _ _ h => h) (a_cons (v_E (pv 1)) (a_cons (v_E (pv 0)) a_nil)))))) w_nil))))
theorem ok_grown (T : Txt K mg) : FnOk P w K mg base CX0 2 T.a_grown T.d_grown ["pattern"] (spD K (fun _ => 0) 1 Fn.grown_0f21) :=
  ok_def T.F_grown sc_grown fun cdv A outer s H E F0 as hr =>
  (ss_one (s_retO (d_lc (own := [("number", 1)]) rfl sc_grown.nd (i_range1 T.z_range (w_cons (r_of_o (d_add rfl (r_of_e (d_callE (ok_width T) bodyN_len (hr.mono (by decide)) T.m_width T.F_width.kp T.b_width pass0 (fun _ _ _ h => h) (a_cons (v_E (pv 0)) a_nil))) (r_of_o c_int))) w_nil)) (blkOk_by (own := [("number", 1)]) (N := N_grown) (sc := defScope s_grown) (by decide +kernel)) (fun _ _ _ _ _ => (g_name (i := 1) (own := [1]) sc_grown.nd)) (fun _ _ _ _ _ => ts_nil) (fun _ _ _ _ _ => (e_of_o (d_add rfl (v_R (pv 0)) (r_of_o (d_lst (a_cons (v_E (pv 1)) a_nil)))))))))
theorem ok_pools_of (T : Txt K mg) : FnOk P w K mg base CX0 2 T.a_pools_of T.d_pools_of ["pattern", "may"] (spD K (fun _ => 0) 2 Fn.pools_of_4d0e) :=
  ok_def T.F_pools_of sc_pools_of fun cdv A outer s H E F0 as hr =>
  (ss_cons (s_setO (i := 2) (d_lst a_nil) sc_pools_of.nd)
  (ss_cons (s_for rfl (i_enumE rfl T.z_enumerate (a_cons (v_E (pv 0)) a_nil)) (g_seq rfl (gs_cons (g_name (i := 3) (own := [3, 4]) sc_pools_of.nd) (gs_cons (g_name (i := 4) (own := [3, 4]) sc_pools_of.nd) gs_nil))) (ss_one (s_if (dt_eq rfl hr (v_R (pv 4)) (r_of_o (DL.d_len rfl T.z_len (w_cons (v_R (pv 2)) w_nil)))) (ss_one (s_append (pv 2) (e_of_o (DL.d_list rfl T.z_list (w_cons (r_of_e (d_ixA rfl (eu1 hr) (v_R (pv 1)) (v_R (pv 3)))) w_nil))))) (ss_one (s_put (eu1 hr) (pv 2) (d_callEV (ok_common T) bodyV_len (hr.mono (by decide)) T.m_common T.F_common.kp T.b_common pass0 (fun _ _ _ h => h) (w_cons (r_of_e (d_ixA rfl (eu1 hr) (v_R (pv 2)) (v_R (pv 4)))) (w_cons (r_of_e (d_ixA rfl (eu1 hr) (v_R (pv 1)) (v_R (pv 3)))) w_nil))) (v_R (pv 4)))))) PassesOwn.never)
  (ss_one (s_retN (pv 2)))))
theorem ok__law_menu (T : Txt K mg) : FnOk P w K mg base CX0 2 T.a__law_menu T.d__law_menu ["script", "at", "wide"] (spD K (fun _ => 0) 3 Fn.law_menu_2938) :=
  ok_def T.F__law_menu sc__law_menu fun cdv A outer s H E F0 as hr =>
  (ss_cons (s_setO (i := 3) (d_lst a_nil) sc__law_menu.nd)
  (ss_cons (s_for rfl (i_range1 T.z_range (w_cons (v_R (pv 2)) w_nil)) (g_name (i := 4) (own := [4]) sc__law_menu.nd) (ss_cons (s_set (i := 5) (d_callE (ok__law_cell T) bodyN_len (hr.mono (by decide)) T.m__law_cell T.F__law_cell.kp T.b__law_cell pass0 (fun _ _ _ h => h) (a_cons (v_E (pv 0)) (a_cons (e_of_o (d_add rfl (v_R (pv 1)) (v_R (pv 4)))) a_nil))) sc__law_menu.nd)
  (ss_one (s_append (pv 3) (e_of_o (d_add rfl (r_of_o c_int) (r_of_o (d_mod (r_of_o (d_div (v_R (pv 5)) (r_of_o c_int))) (r_of_e (d_ixA rfl (eu1 hr) (r_of_o (d_lst (a_cons (e_of_o c_int) (a_cons (e_of_o c_int) (a_cons (e_of_o (d_pow (r_of_o c_int) (r_of_o c_int))) a_nil))))) (r_of_o (d_mod (v_R (pv 5)) (r_of_o c_int)))))))))))) PassesOwn.never)
  (ss_one (s_retO (d_sortedSet rfl rfl T.z_sorted T.z_set (w_cons (v_R (pv 3)) w_nil))))))
theorem ok__law_breaks (T : Txt K mg) : FnOk P w K mg base CX0 2 T.a__law_breaks T.d__law_breaks ["pattern", "tie"] (spD K (fun _ => 0) 2 Fn.law_breaks_a0c3) :=
  ok_def T.F__law_breaks sc__law_breaks fun cdv A outer s H E F0 as hr =>
  (ss_cons (s_toC (s_setLc (i := 2) (own := [("step", 4)]) rfl sc__law_breaks.nd (i_seqR rfl (r_of_e (d_ixA rfl (eu1 hr) (v_R (pv 1)) (r_of_o c_int)))) (blkOk_by (own := [("step", 4)]) (N := N__law_breaks) (sc := defScope s__law_breaks) (by decide +kernel)) (fun _ _ _ _ _ => (g_name (i := 4) (own := [4]) sc__law_breaks.nd)) (fun _ _ _ _ _ => (ts_one (dt_lt (v_R (pv 4)) (r_of_o (DL.d_len rfl T.z_len (w_cons (v_R (pv 0)) w_nil)))))) (fun _ _ _ _ _ => (v_E (pv 4))) (sw_true rfl rfl rfl (by decide +kernel))))
  (ss_cons (s_set (i := 3) (d_callE (ok__law_unlike T) bodyN_len (hr.mono (by decide)) T.m__law_unlike T.F__law_unlike.kp T.b__law_unlike pass0 (fun _ _ _ h => h) (a_cons (v_E (pv 0)) (a_cons (v_E (pv 2)) a_nil))) sc__law_breaks.nd)
  (ss_cons (s_if (dt_eq rfl hr (r_of_e (d_ixA rfl (eu1 hr) (v_R (pv 1)) (r_of_o c_int))) (r_of_o c_str)) (ss_one (s_retO (d_gt (v_R (pv 3)) (r_of_e (d_ixA rfl (eu1 hr) (v_R (pv 1)) (r_of_o c_int)))))) ss_nil)
  (ss_one (s_retO (d_lt (r_of_o (d_sub (r_of_o (d_add rfl (v_R (pv 3)) (r_of_o (DL.d_len rfl T.z_len (w_cons (r_of_e (d_ixA rfl (eu1 hr) (v_R (pv 1)) (r_of_o c_int))) w_nil))))) (r_of_o (DL.d_len rfl T.z_len (w_cons (v_R (pv 2)) w_nil))))) (r_of_e (d_ixA rfl (eu1 hr) (v_R (pv 1)) (r_of_o c_int)))))))))
theorem ok__law_pool (T : Txt K mg) : FnOk P w K mg base CX0 2 T.a__law_pool T.d__law_pool ["pattern", "lists", "block"] (spD K (fun _ => 0) 3 Fn.law_pool_875c) :=
  ok_def T.F__law_pool sc__law_pool fun cdv A outer s H E F0 as hr =>
  (ss_cons (s_set (i := 3) (e_of_o (d_lc (own := [("k", 4)]) rfl sc__law_pool.nd (i_range1 T.z_range (w_cons (r_of_o (DL.d_len rfl T.z_len (w_cons (v_R (pv 0)) w_nil))) w_nil)) (blkOk_by (own := [("k", 4)]) (N := N__law_pool) (sc := defScope s__law_pool) (by decide +kernel)) (fun _ _ _ _ _ => (g_name (i := 4) (own := [4]) sc__law_pool.nd)) (fun _ _ _ _ _ => (ts_one (dt_eq rfl hr (r_of_e (d_ixA rfl (eu1 hr) (v_R (pv 0)) (v_R (pv 4)))) (v_R (pv 2))))) (fun _ _ _ _ _ => (v_E (pv 4))))) sc__law_pool.nd)
  (ss_one (s_retO (d_lc (own := [("badge", 5)]) rfl sc__law_pool.nd (i_seqR rfl (r_of_e (d_ixA rfl (eu1 hr) (v_R (pv 1)) (r_of_e (d_ixA rfl (eu1 hr) (v_R (pv 3)) (r_of_o c_int)))))) (blkOk_by (own := [("badge", 5)]) (N := N__law_pool) (sc := defScope s__law_pool) (by decide +kernel)) (fun _ _ _ _ _ => (g_name (i := 5) (own := [5]) sc__law_pool.nd)) (fun _ _ _ _ _ => (ts_one (dt_val (d_callO (ok__law_in_all T) bodyN_len (hr.mono (by decide)) T.m__law_in_all T.F__law_in_all.kp T.b__law_in_all pass0 (fun _ _ _ h => h) (a_cons (v_E (pv 5)) (a_cons (v_E (pv 1)) (a_cons (v_E (pv 3)) a_nil))))))) (fun _ _ _ _ _ => (v_E (pv 5)))))))
theorem ok__law_turned (T : Txt K mg) : FnOk P w K mg base CX0 2 T.a__law_turned T.d__law_turned ["paper", "cell"] (spD K (fun _ => 0) 2 Fn.law_turned_7c04) :=
  ok_def T.F__law_turned sc__law_turned fun cdv A outer s H E F0 as hr =>
  (ss_cons (s_unp (v_E (pv 0)) (g_seq rfl (gs_cons (g_name (i := 3) (own := [3, 4]) sc__law_turned.nd) (gs_cons (g_name (i := 4) (own := [3, 4]) sc__law_turned.nd) gs_nil))))
  (ss_cons (s_set (i := 2) (e_of_o (d_mod (r_of_o (d_div (v_R (pv 1)) (r_of_o c_int))) (r_of_o c_int))) sc__law_turned.nd)
  (ss_cons (s_if (dt_eq rfl hr (r_of_o (d_mod (v_R (pv 1)) (r_of_o c_int))) (r_of_o c_int)) (ss_one (s_ret (d_callE (ok__law_odd T) bodyN_len (hr.mono (by decide)) T.m__law_odd T.F__law_odd.kp T.b__law_odd pass0 (fun _ _ _ h => h) (a_cons (e_of_o (d_div (v_R (pv 1)) (r_of_o c_int))) a_nil)))) ss_nil)
  (ss_cons (s_if (dt_eq rfl hr (v_R (pv 2)) (r_of_o c_int)) (ss_one (s_retO (d_lst (a_cons (v_E (pv 3)) (a_cons (v_E (pv 4)) a_nil))))) ss_nil)
  (ss_cons (s_if (dt_eq rfl hr (v_R (pv 2)) (r_of_o c_int)) (ss_one (s_retO (d_tup (a_cons (v_E (pv 3)) (a_cons (v_E (pv 4)) (a_cons (v_E (pv 4)) a_nil)))))) ss_nil)
  (ss_cons (s_if (dt_eq rfl hr (v_R (pv 2)) (r_of_o c_int)) (ss_one (s_retO (d_tup (a_cons (v_E (pv 3)) a_nil)))) ss_nil)
  (ss_cons (s_if (t_w (w_and (dt_eq rfl hr (v_R (pv 2)) (r_of_o c_int)) (w_and1 (dt_val (d_isi rfl (v_R (pv 4)) (ty_of T.z_list (by decide +kernel)) (by decide +kernel) T.z_isinstance))))) (ss_one (s_retO (d_tup (a_cons (v_E (pv 3)) (a_cons (e_of_o (DL.d_tuple rfl T.z_tuple (w_cons (v_R (pv 4)) w_nil))) a_nil))))) ss_nil)
  (ss_cons (s_if (t_w (w_and (dt_eq rfl hr (v_R (pv 2)) (r_of_o c_int)) (w_and1 (dt_val (d_isi rfl (v_R (pv 4)) (ty_of T.z_list (by decide +kernel)) (by decide +kernel) T.z_isinstance))))) (ss_one (s_retO (d_tup (a_cons (v_E (pv 3)) (a_cons (e_of_o (d_add rfl (v_R (pv 4)) (r_of_o (d_lst (a_cons (e_of_o c_non) a_nil))))) a_nil))))) ss_nil)
  (ss_cons (s_if (dt_eq rfl hr (v_R (pv 2)) (r_of_o c_int)) (ss_one (s_retO (d_tup (a_cons (e_of_o (d_upper (v_R (pv 3)))) (a_cons (v_E (pv 4)) a_nil))))) ss_nil)
  (ss_cons (s_if (dt_eq rfl hr (v_R (pv 2)) (r_of_o c_int)) (ss_one (s_retO (d_tup (a_cons (v_E (pv 3)) (a_cons (e_of_o c_non) a_nil))))) ss_nil)
  (ss_one (s_retO (d_tup (a_cons (v_E (pv 3)) (a_cons (d_callE (ok__law_truths T) bodyN_len (hr.mono (by decide)) T.m__law_truths T.F__law_truths.kp T.b__law_truths pass0 (fun _ _ _ h => h) (a_cons (v_E (pv 4)) a_nil)) a_nil)))))))))))))))
theorem ok_are_short (T : Txt K mg) : FnOk P w K mg base CX0 3 T.a_are_short T.d_are_short ["pools", "blocks"] (spD K (fun _ => 0) 2 Fn.are_short_b850) :=
  ok_def T.F_are_short sc_are_short fun cdv A outer s H E F0 as hr =>
  (ss_cons (s_if (t_not (dt_val (d_isi rfl (v_R (pv 1)) (ty_of T.z_list (by decide +kernel)) (by decide +kernel) T.z_isinstance))) (ss_one (s_retO c_bl)) ss_nil)
  (ss_cons (s_set (i := 2) (e_of_o (d_neg (r_of_o c_int))) sc_are_short.nd)
  (ss_cons (s_set (i := 3) (e_of_o (d_lst a_nil)) sc_are_short.nd)
  (ss_cons (s_for rfl (i_seqE rfl (v_E (pv 1))) (g_name (i := 4) (own := [4]) sc_are_short.nd) (ss_cons (s_if (t_w (w_or (t_not (dt_val (d_callO (ok_is_whole T) bodyN_len (hr.mono (by decide)) T.m_is_whole T.F_is_whole.kp T.b_is_whole pass0 (fun _ _ _ h => h) (a_cons (v_E (pv 4)) a_nil)))) (w_or (dt_le (v_R (pv 4)) (v_R (pv 2))) (w_or1 (dt_ge (v_R (pv 4)) (r_of_o (DL.d_len rfl T.z_len (w_cons (v_R (pv 0)) w_nil)))))))) (ss_one (s_retO c_bl)) ss_nil)
  (ss_cons (s_set (i := 3) (d_callE (ok_joined T) bodyN_len (hr.mono (by decide)) T.m_joined T.F_joined.kp T.b_joined pass0 (fun _ _ _ h => h) (a_cons (v_E (pv 3)) (a_cons (d_ixA rfl (eu1 hr) (v_R (pv 0)) (v_R (pv 4))) a_nil))) sc_are_short.nd)
  (ss_one (s_set (i := 2) (v_E (pv 4)) sc_are_short.nd)))) PassesOwn.never)
  (ss_one (s_retO (d_lt (r_of_o (DL.d_len rfl T.z_len (w_cons (v_R (pv 3)) w_nil))) (r_of_o (DL.d_len rfl T.z_len (w_cons (v_R (pv 1)) w_nil))))))))))
theorem ok__law_drawn (T : Txt K mg) : FnOk P w K mg base CX0 3 T.a__law_drawn T.d__law_drawn ["script", "top"] (spD K (fun _ => 0) 2 Fn.law_drawn_8e11) :=
  ok_def T.F__law_drawn sc__law_drawn fun cdv A outer s H E F0 as hr =>
  (ss_cons (s_set (i := 2) (d_callE (ok__law_cell T) bodyN_len (hr.mono (by decide)) T.m__law_cell T.F__law_cell.kp T.b__law_cell pass0 (fun _ _ _ h => h) (a_cons (v_E (pv 0)) (a_cons (e_of_o c_int) a_nil))) sc__law_drawn.nd)
  (ss_cons (s_set (i := 3) (d_callE (ok__law_menu T) bodyN_len (hr.mono (by decide)) T.m__law_menu T.F__law_menu.kp T.b__law_menu pass0 (fun _ _ _ h => h) (a_cons (v_E (pv 0)) (a_cons (e_of_o c_int) (a_cons (d_ixA rfl (eu1 hr) (r_of_o (d_lst (a_cons (e_of_o c_int) (a_cons (e_of_o c_int) (a_cons (e_of_o c_int) (a_cons (e_of_o c_int) a_nil)))))) (r_of_o (d_mod (r_of_o (d_div (v_R (pv 2)) (r_of_o c_int))) (r_of_o c_int)))) a_nil)))) sc__law_drawn.nd)
  (ss_cons (s_set (i := 4) (e_of_o (DL.d_min rfl T.z_min (w_cons (v_R (pv 1)) (w_cons (r_of_e (d_ixA rfl (eu1 hr) (r_of_o (d_lst (a_cons (e_of_o c_int) (a_cons (e_of_o c_int) (a_cons (e_of_o c_int) (a_cons (e_of_o c_int) (a_cons (e_of_o c_int) (a_cons (e_of_o c_int) (a_cons (e_of_o c_int) (a_cons (e_of_o c_int) a_nil)))))))))) (r_of_o (d_mod (v_R (pv 2)) (r_of_o c_int))))) w_nil)))) sc__law_drawn.nd)
  (ss_cons (s_set (i := 5) (d_ixA rfl (eu1 hr) (r_of_o (d_lst (a_cons (e_of_o c_int) (a_cons (e_of_o c_int) (a_cons (e_of_o c_int) a_nil))))) (r_of_o (d_mod (r_of_o (d_div (v_R (pv 2)) (r_of_o c_int))) (r_of_o c_int)))) sc__law_drawn.nd)
  (ss_cons (s_setLcR (i := 6) (own := [("k", 8)]) rfl sc__law_drawn.nd (i_range1 T.z_range (w_cons (v_R (pv 4)) w_nil)) (blkOk_by (own := [("k", 8)]) (N := N__law_drawn) (sc := defScope s__law_drawn) (by decide +kernel)) (fun _ _ _ _ _ => (g_name (i := 8) (own := [8]) sc__law_drawn.nd)) (fun _ _ _ _ _ => ts_nil) (fun _ _ _ _ _ => (DL.d_list rfl T.z_list (w_cons (v_R (pv 3)) w_nil))) (sw_true rfl rfl rfl (by decide +kernel)))
  (ss_cons (s_setO (i := 7) (d_lst a_nil) sc__law_drawn.nd)
  (ss_cons (s_for rfl (i_range2 T.z_range (w_cons (r_of_o c_int) (w_cons (r_of_o (DL.d_max rfl T.z_max (w_cons (r_of_o (DL.d_len rfl T.z_len (w_cons (v_R (pv 0)) w_nil))) (w_cons (r_of_o c_int) w_nil)))) w_nil))) (g_name (i := 8) (own := [8]) sc__law_drawn.nd) (ss_cons (s_set (i := 9) (d_callE (ok__law_cell T) bodyN_len (hr.mono (by decide)) T.m__law_cell T.F__law_cell.kp T.b__law_cell pass0 (fun _ _ _ h => h) (a_cons (v_E (pv 0)) (a_cons (v_E (pv 8)) a_nil))) sc__law_drawn.nd)
  (ss_cons (s_set (i := 10) (d_ixA rfl (eu1 hr) (v_R (pv 3)) (r_of_o (d_mod (r_of_o (d_div (v_R (pv 9)) (v_R (pv 5)))) (r_of_o (DL.d_len rfl T.z_len (w_cons (v_R (pv 3)) w_nil)))))) sc__law_drawn.nd)
  (ss_one (s_if (t_w (w_and (dt_eq rfl hr (r_of_o (d_mod (v_R (pv 9)) (v_R (pv 5)))) (r_of_o c_int)) (w_and1 (dt_lt (r_of_o (DL.d_len rfl T.z_len (w_cons (v_R (pv 7)) w_nil))) (r_of_o c_int))))) (ss_one (s_append (pv 7) (d_callE (ok__law_bond T) bodyN_len (hr.mono (by decide)) T.m__law_bond T.F__law_bond.kp T.b__law_bond pass0 (fun _ _ _ h => h) (a_cons (e_of_o (d_div (v_R (pv 9)) (v_R (pv 5)))) (a_cons (v_E (pv 4)) a_nil))))) (ss_one (s_if (dt_in rfl hr (v_R (pv 10)) (d_ixR rfl (v_R (pv 6)) (r_of_o (d_mod (v_R (pv 8)) (v_R (pv 4)))))) (ss_one (s_rowRem rfl (pv 6) (r_of_o (d_mod (v_R (pv 8)) (v_R (pv 4)))) (v_R (pv 10)))) (ss_one (s_rowApp rfl (pv 6) (r_of_o (d_mod (v_R (pv 8)) (v_R (pv 4)))) (v_E (pv 10)))))))))) PassesOwn.never)
  (ss_one (s_nrm [6] (s_settle [7] (s_retO (d_lst (a_cons (v_E (pv 3)) (a_cons (e_of_o (d_lc (own := [("row", 11)]) rfl sc__law_drawn.nd (i_seqR rfl (v_R (pv 6))) (blkOk_by (own := [("row", 11)]) (N := N__law_drawn) (sc := defScope s__law_drawn) (by decide +kernel)) (fun _ _ _ _ _ => (g_name (i := 11) (own := [11]) sc__law_drawn.nd)) (fun _ _ _ _ _ => ts_nil) (fun _ _ _ _ _ => (e_of_o (DL.d_sorted rfl T.z_sorted (w_cons (v_R (pv 11)) w_nil)))))) (a_cons (v_E (pv 7)) a_nil)))))))))))))))
theorem ok__law_short (T : Txt K mg) : FnOk P w K mg base CX0 3 T.a__law_short T.d__law_short ["pattern", "lists", "blocks"] (spD K (fun _ => 0) 3 Fn.law_short_f143) :=
  ok_def T.F__law_short sc__law_short fun cdv A outer s H E F0 as hr =>
  (ss_cons (s_if (t_not (dt_val (d_isi rfl (v_R (pv 2)) (ty_of T.z_list (by decide +kernel)) (by decide +kernel) T.z_isinstance))) (ss_one (s_retO c_bl)) ss_nil)
  (ss_cons (s_setO (i := 3) d_dictK sc__law_short.nd)
  (ss_cons (s_for rfl (i_range1 T.z_range (w_cons (r_of_o (DL.d_len rfl T.z_len (w_cons (v_R (pv 2)) w_nil))) w_nil)) (g_name (i := 4) (own := [4]) sc__law_short.nd) (ss_cons (s_if (t_w (w_or (t_not (dt_val (d_callO (ok__law_whole T) bodyN_len (hr.mono (by decide)) T.m__law_whole T.F__law_whole.kp T.b__law_whole pass0 (fun _ _ _ h => h) (a_cons (d_ixA rfl (eu1 hr) (v_R (pv 2)) (v_R (pv 4))) a_nil)))) (w_or1 (dt_notin rfl hr (r_of_e (d_ixA rfl (eu1 hr) (v_R (pv 2)) (v_R (pv 4)))) (v_R (pv 0)))))) (ss_one (s_retO c_bl)) ss_nil)
  (ss_cons (s_if (t_w (w_and (dt_gt (v_R (pv 4)) (r_of_o c_int)) (w_and1 (dt_le (r_of_e (d_ixA rfl (eu1 hr) (v_R (pv 2)) (v_R (pv 4)))) (r_of_e (d_ixA rfl (eu1 hr) (v_R (pv 2)) (r_of_o (d_sub (v_R (pv 4)) (r_of_o c_int))))))))) (ss_one (s_retO c_bl)) ss_nil)
  (ss_one (s_for rfl (i_seqE rfl (d_callE (ok__law_pool T) bodyN_len (hr.mono (by decide)) T.m__law_pool T.F__law_pool.kp T.b__law_pool pass0 (fun _ _ _ h => h) (a_cons (v_E (pv 0)) (a_cons (v_E (pv 1)) (a_cons (d_ixA rfl (eu1 hr) (v_R (pv 2)) (v_R (pv 4))) a_nil))))) (g_name (i := 5) (own := [5]) sc__law_short.nd) (ss_one (s_put (eu1 hr) (pv 3) (e_of_o c_bl) (v_R (pv 5)))) PassesOwn.never)))) PassesOwn.never)
  (ss_one (s_retO (d_lt (r_of_o (DL.d_len rfl T.z_len (w_cons (v_R (pv 3)) w_nil))) (r_of_o (DL.d_len rfl T.z_len (w_cons (v_R (pv 2)) w_nil)))))))))
theorem ok_shows_for (T : Txt K mg) : ∀ n : Nat, FnOk P w K mg base CX0 (4 + n) T.a_shows_for T.d_shows_for ["pattern", "may", "ties", "paper"] (spD K (fun _ => 0) 4 (Fn.shows_for_df5e n))
  | 0 => ok_bad rfl
  | n + 1 =>
  have IH := ok_shows_for T n
  ok_def T.F_shows_for sc_shows_for fun cdv A outer s H E F0 as hr =>
  (ss_cons (s_if (t_w (w_or (t_not (dt_val (d_isi rfl (v_R (pv 3)) (ty_of T.z_tuple (by decide +kernel)) (by decide +kernel) T.z_isinstance))) (w_or1 (dt_ne rfl hr (r_of_o (DL.d_len rfl T.z_len (w_cons (v_R (pv 3)) w_nil))) (r_of_o c_int))))) (ss_one (s_retO c_bl)) ss_nil)
  (ss_cons (s_unp (v_E (pv 3)) (g_seq rfl (gs_cons (g_name (i := 5) (own := [5, 6]) sc_shows_for.nd) (gs_cons (g_name (i := 6) (own := [5, 6]) sc_shows_for.nd) gs_nil))))
  (ss_cons (s_if (dt_eq rfl hr (v_R (pv 5)) (r_of_o c_str)) (ss_one (s_retO (d_and (d_callO (ok_is_whole T) bodyN_len (hr.mono (Nat.le_trans (by decide) (Nat.le_add_right 4 _))) T.m_is_whole T.F_is_whole.kp T.b_is_whole pass0 (fun _ _ _ h => h) (a_cons (v_E (pv 6)) a_nil)) (d_and (d_chain (DL.OpR.or op_le op_le_str) (DL.OpR.or op_lt op_lt_str) rLe_ok rLt_ok (r_of_o c_int) (v_R (pv 6)) (r_of_o (DL.d_len rfl T.z_len (w_cons (v_R (pv 2)) w_nil)))) (d_one (d_callO (ok_breaks T) bodyN_len (hr.mono (Nat.le_trans (by decide) (Nat.le_add_right 4 _))) T.m_breaks T.F_breaks.kp T.b_breaks pass0 (fun _ _ _ h => h) (a_cons (v_E (pv 0)) (a_cons (d_ixA rfl (eu1 hr) (v_R (pv 2)) (v_R (pv 6))) a_nil)))))))) ss_nil)
  (ss_cons (s_if (dt_eq rfl hr (v_R (pv 5)) (r_of_o c_str)) (ss_one (s_retO (d_callO (ok_are_short T) bodyN_len (hr.mono (Nat.le_trans (by decide) (Nat.le_add_right 4 _))) T.m_are_short T.F_are_short.kp T.b_are_short pass0 (fun _ _ _ h => h) (a_cons (d_callE (ok_pools_of T) bodyN_len (hr.mono (Nat.le_trans (by decide) (Nat.le_add_right 4 _))) T.m_pools_of T.F_pools_of.kp T.b_pools_of pass0 (fun _ _ _ h => h) (a_cons (v_E (pv 0)) (a_cons (v_E (pv 1)) a_nil))) (a_cons (v_E (pv 6)) a_nil))))) ss_nil)
  (ss_cons (s_if (t_w (w_or (dt_ne rfl hr (v_R (pv 5)) (r_of_o c_str)) (w_or (t_not (dt_val (d_isi rfl (v_R (pv 6)) (ty_of T.z_list (by decide +kernel)) (by decide +kernel) T.z_isinstance))) (w_or1 (dt_eq rfl hr (r_of_o (DL.d_len rfl T.z_len (w_cons (v_R (pv 0)) w_nil))) (r_of_o (DL.d_len rfl T.z_len (w_cons (v_R (pv 1)) w_nil)))))))) (ss_one (s_retO c_bl)) ss_nil)
  (ss_cons (s_set (i := 4) (d_callE (ok_grown T) bodyN_len (hr.mono (Nat.le_trans (by decide) (Nat.le_add_right 4 _))) T.m_grown T.F_grown.kp T.b_grown pass0 (fun _ _ _ h => h) (a_cons (v_E (pv 0)) a_nil)) sc_shows_for.nd)
  (ss_cons (s_if (dt_ne rfl hr (r_of_o (DL.d_len rfl T.z_len (w_cons (v_R (pv 6)) w_nil))) (r_of_o (DL.d_len rfl T.z_len (w_cons (v_R (pv 4)) w_nil)))) (ss_one (s_retO c_bl)) ss_nil)
  (ss_cons (s_for rfl (i_zipE rfl T.z_zip (a_cons (v_E (pv 4)) (a_cons (v_E (pv 6)) a_nil))) (g_seq rfl (gs_cons (g_name (i := 7) (own := [7, 8]) sc_shows_for.nd) (gs_cons (g_name (i := 8) (own := [7, 8]) sc_shows_for.nd) gs_nil))) (ss_one (s_if (t_not (dt_val (d_callO IH (Fn.shows_for_df5e_len n) hr T.m_shows_for T.F_shows_for.kp T.b_shows_for pass0 (fun _ _ _ h => h) (a_cons (v_E (pv 7)) (a_cons (v_E (pv 1)) (a_cons (v_E (pv 2)) (a_cons (v_E (pv 8)) a_nil))))))) (ss_one (s_retO c_bl)) ss_nil)) PassesOwn.never)
  (ss_one (s_retO c_bl))))))))))
theorem ok__law_shows (T : Txt K mg) : ∀ n : Nat, FnOk P w K mg base CX0 (4 + n) T.a__law_shows T.d__law_shows ["pattern", "lists", "ties", "paper"] (spD K (fun _ => 0) 4 (Fn.law_shows_e19d n))
  | 0 => ok_bad rfl
  | n + 1 =>
  have IH := ok__law_shows T n
  ok_def T.F__law_shows sc__law_shows fun cdv A outer s H E F0 as hr =>
  (ss_cons (s_if (t_w (w_or (t_not (dt_val (d_isi rfl (v_R (pv 3)) (ty_of T.z_tuple (by decide +kernel)) (by decide +kernel) T.z_isinstance))) (w_or1 (dt_ne rfl hr (r_of_o (DL.d_len rfl T.z_len (w_cons (v_R (pv 3)) w_nil))) (r_of_o c_int))))) (ss_one (s_retO c_bl)) ss_nil)
  (ss_cons (s_set (i := 4) (d_ixA rfl (eu1 hr) (v_R (pv 3)) (r_of_o c_int)) sc__law_shows.nd)
  (ss_cons (s_if (dt_eq rfl hr (r_of_e (d_ixA rfl (eu1 hr) (v_R (pv 3)) (r_of_o c_int))) (r_of_o c_str)) (ss_one (s_retO (d_and (d_callO (ok__law_whole T) bodyN_len (hr.mono (Nat.le_trans (by decide) (Nat.le_add_right 4 _))) T.m__law_whole T.F__law_whole.kp T.b__law_whole pass0 (fun _ _ _ h => h) (a_cons (v_E (pv 4)) a_nil)) (d_and (d_chain (DL.OpR.or op_le op_le_str) (DL.OpR.or op_lt op_lt_str) rLe_ok rLt_ok (r_of_o c_int) (v_R (pv 4)) (r_of_o (DL.d_len rfl T.z_len (w_cons (v_R (pv 2)) w_nil)))) (d_one (d_callO (ok__law_breaks T) bodyN_len (hr.mono (Nat.le_trans (by decide) (Nat.le_add_right 4 _))) T.m__law_breaks T.F__law_breaks.kp T.b__law_breaks pass0 (fun _ _ _ h => h) (a_cons (v_E (pv 0)) (a_cons (d_ixA rfl (eu1 hr) (v_R (pv 2)) (v_R (pv 4))) a_nil)))))))) ss_nil)
  (ss_cons (s_if (dt_eq rfl hr (r_of_e (d_ixA rfl (eu1 hr) (v_R (pv 3)) (r_of_o c_int))) (r_of_o c_str)) (ss_one (s_retO (d_callO (ok__law_short T) bodyN_len (hr.mono (Nat.le_trans (by decide) (Nat.le_add_right 4 _))) T.m__law_short T.F__law_short.kp T.b__law_short pass0 (fun _ _ _ h => h) (a_cons (v_E (pv 0)) (a_cons (v_E (pv 1)) (a_cons (v_E (pv 4)) a_nil)))))) ss_nil)
  (ss_cons (s_set (i := 5) (e_of_o (d_lenSet rfl rfl T.z_len T.z_set (w_cons (v_R (pv 0)) w_nil))) sc__law_shows.nd)
  (ss_cons (s_if (t_w (w_or (dt_ne rfl hr (r_of_e (d_ixA rfl (eu1 hr) (v_R (pv 3)) (r_of_o c_int))) (r_of_o c_str)) (w_or (t_not (dt_val (d_isi rfl (v_R (pv 4)) (ty_of T.z_list (by decide +kernel)) (by decide +kernel) T.z_isinstance))) (w_or1 (dt_ne rfl hr (r_of_o (DL.d_len rfl T.z_len (w_cons (v_R (pv 4)) w_nil))) (r_of_o (d_add rfl (v_R (pv 5)) (r_of_o c_int)))))))) (ss_one (s_retO c_bl)) ss_nil)
  (ss_cons (s_for rfl (i_range1 T.z_range (w_cons (r_of_o (d_add rfl (v_R (pv 5)) (r_of_o c_int))) w_nil)) (g_name (i := 6) (own := [6]) sc__law_shows.nd) (ss_one (s_if (t_w (w_or (dt_eq rfl hr (r_of_o (DL.d_len rfl T.z_len (w_cons (v_R (pv 0)) w_nil))) (r_of_o (DL.d_len rfl T.z_len (w_cons (v_R (pv 1)) w_nil)))) (w_or1 (t_not (dt_val (d_callO IH (Fn.law_shows_e19d_len n) hr T.m__law_shows T.F__law_shows.kp T.b__law_shows pass0 (fun _ _ _ h => h) (a_cons (e_of_o (d_add rfl (v_R (pv 0)) (r_of_o (d_lst (a_cons (v_E (pv 6)) a_nil))))) (a_cons (v_E (pv 1)) (a_cons (v_E (pv 2)) (a_cons (d_ixA rfl (eu1 hr) (v_R (pv 4)) (v_R (pv 6))) a_nil)))))))))) (ss_one (s_retO c_bl)) ss_nil)) PassesOwn.never)
  (ss_one (s_retO c_bl)))))))))
theorem ok__law_blocks (T : Txt K mg) : FnOk P w K mg base CX0 4 T.a__law_blocks T.d__law_blocks ["pattern", "lists"] (spD K (fun _ => 0) 2 Fn.law_blocks_7e69) :=
  ok_def T.F__law_blocks sc__law_blocks fun cdv A outer s H E F0 as hr =>
  (ss_cons (s_set (i := 2) (e_of_o (d_lenSet rfl rfl T.z_len T.z_set (w_cons (v_R (pv 0)) w_nil))) sc__law_blocks.nd)
  (ss_cons (s_for rfl (i_range1 T.z_range (w_cons (v_R (pv 2)) w_nil)) (g_name (i := 3) (own := [3]) sc__law_blocks.nd) (ss_cons (s_if (dt_val (d_callO (ok__law_short T) bodyN_len (hr.mono (by decide)) T.m__law_short T.F__law_short.kp T.b__law_short pass0 (fun _ _ _ h => h) (a_cons (v_E (pv 0)) (a_cons (v_E (pv 1)) (a_cons (e_of_o (d_lst (a_cons (v_E (pv 3)) a_nil))) a_nil))))) (ss_one (s_retO (d_lst (a_cons (v_E (pv 3)) a_nil)))) ss_nil)
  (ss_one (s_for rfl (i_range1 T.z_range (w_cons (v_R (pv 3)) w_nil)) (g_name (i := 5) (own := [5]) sc__law_blocks.nd) (ss_one (s_if (dt_val (d_callO (ok__law_short T) bodyN_len (hr.mono (by decide)) T.m__law_short T.F__law_short.kp T.b__law_short pass0 (fun _ _ _ h => h) (a_cons (v_E (pv 0)) (a_cons (v_E (pv 1)) (a_cons (e_of_o (d_lst (a_cons (v_E (pv 5)) (a_cons (v_E (pv 3)) a_nil)))) a_nil))))) (ss_one (s_retO (d_lst (a_cons (v_E (pv 5)) (a_cons (v_E (pv 3)) a_nil))))) ss_nil)) PassesOwn.never))) PassesOwn.never)
  (ss_cons (s_set (i := 4) (e_of_o (d_listR1 rfl T.z_list T.z_range (v_R (pv 2)))) sc__law_blocks.nd)
  (ss_cons (s_if (dt_val (d_callO (ok__law_short T) bodyN_len (hr.mono (by decide)) T.m__law_short T.F__law_short.kp T.b__law_short pass0 (fun _ _ _ h => h) (a_cons (v_E (pv 0)) (a_cons (v_E (pv 1)) (a_cons (v_E (pv 4)) a_nil))))) (ss_one (s_ret (v_E (pv 4)))) ss_nil)
  (ss_one (s_retO (d_lst a_nil)))))))
theorem ok_shows (T : Txt K mg) : FnOk P w K mg base CX0 17 T.a_shows T.d_shows ["may", "ties", "paper"] (spD K (fun _ => 0) 3 Fn.shows_0c85) :=
  ok_def T.F_shows sc_shows fun cdv A outer s H E F0 as hr =>
  (ss_one (s_retO (d_callO (ok_shows_for T 12) (Fn.shows_for_df5e_len 12) (hr.mono (by decide)) T.m_shows_for T.F_shows_for.kp T.b_shows_for pass0 (fun _ _ _ h => h) (a_cons (e_of_o (d_lst a_nil)) (a_cons (v_E (pv 0)) (a_cons (v_E (pv 1)) (a_cons (v_E (pv 2)) a_nil)))))))
theorem ok__law_honest (T : Txt K mg) (n : Nat) (IH : FnOk P w K mg base CX0 (6 + 2 * n) T.a__law_paper T.d__law_paper ["pattern", "lists", "ties", "left", "cell"] (spS K (fun _ => 0) [3] 5 (Fn.law_paper_14a1 n))) : FnOk P w K mg base CX0 (6 + (2 * n + 1)) T.a__law_honest T.d__law_honest ["pattern", "lists", "ties", "left", "cell"] (spS K (fun _ => 0) [3] 5 (Fn.law_honest_3311 (Fn.law_paper_14a1 n))) :=
  ok_defS (k := 6 + 2 * n) T.F__law_honest sc__law_honest fun vs cdv A outer s H E F0 H0 as hr =>
  (ss_cons (s_for rfl (i_range1 T.z_range (w_cons (r_of_o (DL.d_len rfl T.z_len (w_cons (v_R (pv 2)) w_nil))) w_nil)) (g_name (i := 5) (own := [5]) sc__law_honest.nd) (ss_one (s_if (dt_val (d_callO (ok__law_breaks T) bodyN_len (hr.mono (Nat.le_trans (by decide) (Nat.le_add_right 6 _))) T.m__law_breaks T.F__law_breaks.kp T.b__law_breaks pass0 (fun _ _ _ h => h) (a_cons (v_E (pv 0)) (a_cons (d_ixA rfl (eu1 hr) (v_R (pv 2)) (v_R (pv 5))) a_nil)))) (ss_one (s_retS (e_of_o (d_tup (a_cons (e_of_o c_str) (a_cons (v_E (pv 5)) a_nil)))))) ss_nil)) PassesOwn.never)
  (ss_cons (s_set (i := 6) (d_callE (ok__law_blocks T) bodyN_len (hr.mono (Nat.le_trans (by decide) (Nat.le_add_right 6 _))) T.m__law_blocks T.F__law_blocks.kp T.b__law_blocks pass0 (fun _ _ _ h => h) (a_cons (v_E (pv 0)) (a_cons (v_E (pv 1)) a_nil))) sc__law_honest.nd)
  (ss_cons (s_if (t_w (w_or (dt_ne rfl hr (v_R (pv 6)) (r_of_o (d_lst a_nil))) (w_or1 (dt_eq rfl hr (r_of_o (DL.d_len rfl T.z_len (w_cons (v_R (pv 0)) w_nil))) (r_of_o (DL.d_len rfl T.z_len (w_cons (v_R (pv 1)) w_nil))))))) (ss_one (s_retS (e_of_o (d_tup (a_cons (e_of_o c_str) (a_cons (v_E (pv 6)) a_nil)))))) ss_nil)
  (ss_cons (s_set (i := 7) (e_of_o (d_lenSet rfl rfl T.z_len T.z_set (w_cons (v_R (pv 0)) w_nil))) sc__law_honest.nd)
  (ss_one (s_retCS (e_tupM (e_of_o c_str) (e_lcM (own := [("k", 8)]) rfl sc__law_honest.nd (i_range1 T.z_range (w_cons (r_of_o (d_add rfl (v_R (pv 7)) (r_of_o c_int))) w_nil)) (blkOk_by (own := [("k", 8)]) (N := N__law_honest) (sc := defScope s__law_honest) (by decide +kernel)) (fun _ _ _ _ _ _ => (g_name (i := 8) (own := [8]) sc__law_honest.nd)) (fun _ _ _ _ _ _ => (d_callS IH (Fn.law_paper_14a1_len n) hr T.m__law_paper T.F__law_paper.kp T.b__law_paper pass0 (am_e (e_of_o (d_add rfl (v_R (pv 0)) (r_of_o (d_lst (a_cons (v_E (pv 8)) a_nil))))) (am_e (v_E (pv 1)) (am_e (v_E (pv 2)) (am_io (pv 3) (am_e (v_E (pv 4)) am_nil)))))))))))))))
theorem ok__law_paper (T : Txt K mg) : ∀ n : Nat, FnOk P w K mg base CX0 (6 + 2 * n) T.a__law_paper T.d__law_paper ["pattern", "lists", "ties", "left", "cell"] (spS K (fun _ => 0) [3] 5 (Fn.law_paper_14a1 n))
  | 0 => ok_badS rfl
  | n + 1 =>
  have IH := ok__law_paper T n
  have OH := ok__law_honest T n IH
  ok_defS (k := 6 + (2 * n + 1)) T.F__law_paper sc__law_paper fun vs cdv A outer s H E F0 H0 as hr =>
  (ss_cons (s_put (eu1 hr) (pv 3) (e_of_o (d_sub (r_of_e (d_ixA rfl (eu1 hr) (v_R (pv 3)) (r_of_o c_int))) (r_of_o c_int))) (r_of_o c_int))
  (ss_cons (s_set (i := 5) (e_of_o (d_eq rfl hr (r_of_e (d_ixA rfl (eu1 hr) (v_R (pv 3)) (r_of_o c_int))) (r_of_o c_int))) sc__law_paper.nd)
  (ss_cons (s_setM (i := 6) (d_callS OH bodyS_len hr T.m__law_honest T.F__law_honest.kp T.b__law_honest pass0 (am_e (v_E (pv 0)) (am_e (v_E (pv 1)) (am_e (v_E (pv 2)) (am_io (pv 3) (am_e (v_E (pv 4)) am_nil)))))) sc__law_paper.nd)
  (ss_cons (s_if (dt_val (o_of_e (v_E (pv 5)))) (ss_one (s_retS (d_callE (ok__law_turned T) bodyN_len (hr.mono (Nat.le_trans (by decide) (Nat.le_add_right 6 _))) T.m__law_turned T.F__law_turned.kp T.b__law_turned pass0 (fun _ _ _ h => h) (a_cons (v_E (pv 6)) (a_cons (v_E (pv 4)) a_nil))))) ss_nil)
  (ss_one (s_retS (v_E (pv 6))))))))
theorem ok_law (T : Txt K mg) : FnOk P w K mg base CX0 31 T.a_law T.d_law ["script"] (spD K (fun _ => 0) 1 Fn.law_ab80) :=
  ok_def T.F_law sc_law fun cdv A outer s H E F0 as hr =>
  (ss_cons (s_unp (d_callE (ok__law_drawn T) bodyN_len (hr.mono (by decide)) T.m__law_drawn T.F__law_drawn.kp T.b__law_drawn pass0 (fun _ _ _ h => h) (a_cons (v_E (pv 0)) (a_cons (e_of_o c_int) a_nil))) (g_seq rfl (gs_cons (g_name (i := 5) (own := [5, 6, 7]) sc_law.nd) (gs_cons (g_name (i := 6) (own := [5, 6, 7]) sc_law.nd) (gs_cons (g_name (i := 7) (own := [5, 6, 7]) sc_law.nd) gs_nil)))))
  (ss_cons (s_setO (i := 1) (d_lst (a_cons (e_of_o (d_add rfl (r_of_o c_int) (r_of_o (d_mod (r_of_e (d_callE (ok__law_cell T) bodyN_len (hr.mono (by decide)) T.m__law_cell T.F__law_cell.kp T.b__law_cell pass0 (fun _ _ _ h => h) (a_cons (v_E (pv 0)) (a_cons (e_of_o (d_div (r_of_o (DL.d_len rfl T.z_len (w_cons (v_R (pv 0)) w_nil))) (r_of_o c_int))) a_nil)))) (r_of_o c_int))))) a_nil)) sc_law.nd)
  (ss_cons (s_setM (i := 2) (d_callS (ok__law_paper T 12) (Fn.law_paper_14a1_len 12) (hr.mono (by decide)) T.m__law_paper T.F__law_paper.kp T.b__law_paper pass0 (am_e (e_of_o (d_lst a_nil)) (am_e (v_E (pv 6)) (am_e (v_E (pv 7)) (am_io (pv 1) (am_e (d_callE (ok__law_cell T) bodyN_len (hr.mono (by decide)) T.m__law_cell T.F__law_cell.kp T.b__law_cell pass0 (fun _ _ _ h => h) (a_cons (v_E (pv 0)) (a_cons (e_of_o (d_add rfl (r_of_o (d_div (r_of_o (DL.d_len rfl T.z_len (w_cons (v_R (pv 0)) w_nil))) (r_of_o c_int))) (r_of_o c_int))) a_nil))) am_nil)))))) sc_law.nd)
  (ss_cons (s_if (dt_eq rfl hr (r_of_o (d_mod (r_of_o (d_div (r_of_e (d_callE (ok__law_cell T) bodyN_len (hr.mono (by decide)) T.m__law_cell T.F__law_cell.kp T.b__law_cell pass0 (fun _ _ _ h => h) (a_cons (v_E (pv 0)) (a_cons (e_of_o c_int) a_nil)))) (r_of_o c_int))) (r_of_o c_int))) (r_of_o c_int)) (ss_one (s_set (i := 2) (d_callE (ok__law_wrapped T) bodyN_len (hr.mono (by decide)) T.m__law_wrapped T.F__law_wrapped.kp T.b__law_wrapped pass0 (fun _ _ _ h => h) (a_cons (v_E (pv 2)) (a_cons (e_of_o (d_slice rfl (v_R (pv 0)) (p_some c_int) (p_some c_int))) a_nil))) sc_law.nd)) ss_nil)
  (ss_cons (s_set (i := 3) (e_of_o (d_lst (a_cons (e_of_o (d_lc (own := [("row", 8)]) rfl sc_law.nd (i_seqR rfl (v_R (pv 6))) (blkOk_by (own := [("row", 8)]) (N := N_law) (sc := defScope s_law) (by decide +kernel)) (fun _ _ _ _ _ => (g_name (i := 8) (own := [8]) sc_law.nd)) (fun _ _ _ _ _ => ts_nil) (fun _ _ _ _ _ => (e_of_o (DL.d_list rfl T.z_list (w_cons (v_R (pv 8)) w_nil)))))) (a_cons (e_of_o (DL.d_list rfl T.z_list (w_cons (v_R (pv 7)) w_nil))) a_nil)))) sc_law.nd)
  (ss_cons (s_set (i := 4) (d_callE (ok_shows T) bodyN_len (hr.mono (by decide)) T.m_shows T.F_shows.kp T.b_shows pass0 (fun _ _ _ h => h) (a_cons (d_ixA rfl (eu1 hr) (v_R (pv 3)) (r_of_o c_int)) (a_cons (d_ixA rfl (eu1 hr) (v_R (pv 3)) (r_of_o c_int)) (a_cons (v_E (pv 2)) a_nil)))) sc_law.nd)
  (ss_cons (s_if (t_w (w_or (t_not (dt_val (d_isi rfl (v_R (pv 4)) (ty_of T.z_bool (by decide +kernel)) (by decide +kernel) T.z_isinstance))) (w_or1 (dt_ne rfl hr (v_R (pv 3)) (r_of_o (d_lst (a_cons (v_E (pv 6)) (a_cons (v_E (pv 7)) a_nil)))))))) (ss_one (s_retO c_bl)) ss_nil)
  (ss_one (s_retO (d_eq rfl hr (v_R (pv 4)) (r_of_e (d_callE (ok__law_shows T 12) (Fn.law_shows_e19d_len 12) (hr.mono (by decide)) T.m__law_shows T.F__law_shows.kp T.b__law_shows pass0 (fun _ _ _ h => h) (a_cons (e_of_o (d_lst a_nil)) (a_cons (v_E (pv 6)) (a_cons (v_E (pv 7)) (a_cons (v_E (pv 2)) a_nil))))))))))))))))
end
theorem all_mk (hlaw : ∀ ns : List Int, ns.length ≤ 63 → ∃ o, Fn.law_ab80 [.scr ns] = .ok (o, .bl true)) {l : PySem.W.OpenLaw} {w : World} {K : PySem.W.Frag} {h : Heap} {mg : Str → Option Value} {fa : Addr} (X : K.In h) (G : h.Ns mainGlobals mg) (hfa : mg "law" = some (.ref fa))
    {f_is_whole : Addr} {od_is_whole an_is_whole : Option Addr} {sl_is_whole : Array (Option Value)} {oc_is_whole kV_is_whole dc_is_whole pm_is_whole cd_is_whole ct_is_whole : Value}
    {f_common : Addr} {od_common an_common : Option Addr} {sl_common : Array (Option Value)} {oc_common kV_common dc_common pm_common cd_common ct_common : Value}
    {f_without : Addr} {od_without an_without : Option Addr} {sl_without : Array (Option Value)} {oc_without kV_without dc_without pm_without cd_without ct_without : Value}
    {f_width : Addr} {od_width an_width : Option Addr} {sl_width : Array (Option Value)} {oc_width kV_width dc_width pm_width cd_width ct_width : Value}
    {f_breaks : Addr} {od_breaks an_breaks : Option Addr} {sl_breaks : Array (Option Value)} {oc_breaks kV_breaks dc_breaks pm_breaks cd_breaks ct_breaks : Value}
    {f__law_cell : Addr} {od__law_cell an__law_cell : Option Addr} {sl__law_cell : Array (Option Value)} {oc__law_cell kV__law_cell dc__law_cell pm__law_cell cd__law_cell ct__law_cell : Value}
    {f__law_whole : Addr} {od__law_whole an__law_whole : Option Addr} {sl__law_whole : Array (Option Value)} {oc__law_whole kV__law_whole dc__law_whole pm__law_whole cd__law_whole ct__law_whole : Value}
    {f__law_bond : Addr} {od__law_bond an__law_bond : Option Addr} {sl__law_bond : Array (Option Value)} {oc__law_bond kV__law_bond dc__law_bond pm__law_bond cd__law_bond ct__law_bond : Value}
    {f__law_unlike : Addr} {od__law_unlike an__law_unlike : Option Addr} {sl__law_unlike : Array (Option Value)} {oc__law_unlike kV__law_unlike dc__law_unlike pm__law_unlike cd__law_unlike ct__law_unlike : Value}
    {f__law_in_all : Addr} {od__law_in_all an__law_in_all : Option Addr} {sl__law_in_all : Array (Option Value)} {oc__law_in_all kV__law_in_all dc__law_in_all pm__law_in_all cd__law_in_all ct__law_in_all : Value}
    {f__law_odd : Addr} {od__law_odd an__law_odd : Option Addr} {sl__law_odd : Array (Option Value)} {oc__law_odd kV__law_odd dc__law_odd pm__law_odd cd__law_odd ct__law_odd : Value}
    {f__law_truths : Addr} {od__law_truths an__law_truths : Option Addr} {sl__law_truths : Array (Option Value)} {oc__law_truths kV__law_truths dc__law_truths pm__law_truths cd__law_truths ct__law_truths : Value}
    {f__law_wrapped : Addr} {od__law_wrapped an__law_wrapped : Option Addr} {sl__law_wrapped : Array (Option Value)} {oc__law_wrapped kV__law_wrapped dc__law_wrapped pm__law_wrapped cd__law_wrapped ct__law_wrapped : Value}
    {f_joined : Addr} {od_joined an_joined : Option Addr} {sl_joined : Array (Option Value)} {oc_joined kV_joined dc_joined pm_joined cd_joined ct_joined : Value}
    {f_grown : Addr} {od_grown an_grown : Option Addr} {sl_grown : Array (Option Value)} {oc_grown kV_grown dc_grown pm_grown cd_grown ct_grown : Value}
    {f_pools_of : Addr} {od_pools_of an_pools_of : Option Addr} {sl_pools_of : Array (Option Value)} {oc_pools_of kV_pools_of dc_pools_of pm_pools_of cd_pools_of ct_pools_of : Value}
    {f__law_menu : Addr} {od__law_menu an__law_menu : Option Addr} {sl__law_menu : Array (Option Value)} {oc__law_menu kV__law_menu dc__law_menu pm__law_menu cd__law_menu ct__law_menu : Value}
    {f__law_breaks : Addr} {od__law_breaks an__law_breaks : Option Addr} {sl__law_breaks : Array (Option Value)} {oc__law_breaks kV__law_breaks dc__law_breaks pm__law_breaks cd__law_breaks ct__law_breaks : Value}
    {f__law_pool : Addr} {od__law_pool an__law_pool : Option Addr} {sl__law_pool : Array (Option Value)} {oc__law_pool kV__law_pool dc__law_pool pm__law_pool cd__law_pool ct__law_pool : Value}
    {f__law_turned : Addr} {od__law_turned an__law_turned : Option Addr} {sl__law_turned : Array (Option Value)} {oc__law_turned kV__law_turned dc__law_turned pm__law_turned cd__law_turned ct__law_turned : Value}
    {f_are_short : Addr} {od_are_short an_are_short : Option Addr} {sl_are_short : Array (Option Value)} {oc_are_short kV_are_short dc_are_short pm_are_short cd_are_short ct_are_short : Value}
    {f__law_drawn : Addr} {od__law_drawn an__law_drawn : Option Addr} {sl__law_drawn : Array (Option Value)} {oc__law_drawn kV__law_drawn dc__law_drawn pm__law_drawn cd__law_drawn ct__law_drawn : Value}
    {f__law_short : Addr} {od__law_short an__law_short : Option Addr} {sl__law_short : Array (Option Value)} {oc__law_short kV__law_short dc__law_short pm__law_short cd__law_short ct__law_short : Value}
    {f_shows_for : Addr} {od_shows_for an_shows_for : Option Addr} {sl_shows_for : Array (Option Value)} {oc_shows_for kV_shows_for dc_shows_for pm_shows_for cd_shows_for ct_shows_for : Value}
    {f__law_shows : Addr} {od__law_shows an__law_shows : Option Addr} {sl__law_shows : Array (Option Value)} {oc__law_shows kV__law_shows dc__law_shows pm__law_shows cd__law_shows ct__law_shows : Value}
    {f__law_blocks : Addr} {od__law_blocks an__law_blocks : Option Addr} {sl__law_blocks : Array (Option Value)} {oc__law_blocks kV__law_blocks dc__law_blocks pm__law_blocks cd__law_blocks ct__law_blocks : Value}
    {f_shows : Addr} {od_shows an_shows : Option Addr} {sl_shows : Array (Option Value)} {oc_shows kV_shows dc_shows pm_shows cd_shows ct_shows : Value}
    {f__law_honest : Addr} {od__law_honest an__law_honest : Option Addr} {sl__law_honest : Array (Option Value)} {oc__law_honest kV__law_honest dc__law_honest pm__law_honest cd__law_honest ct__law_honest : Value}
    {f__law_paper : Addr} {od__law_paper an__law_paper : Option Addr} {sl__law_paper : Array (Option Value)} {oc__law_paper kV__law_paper dc__law_paper pm__law_paper cd__law_paper ct__law_paper : Value}
    {f_law : Addr} {od_law an_law : Option Addr} {sl_law : Array (Option Value)} {oc_law kV_law dc_law pm_law cd_law ct_law : Value}
    (a_is_whole : PySem.W.nsIn K mainGlobals "is_whole" = some (some (.ref f_is_whole)))
    (l_is_whole : K.lookup f_is_whole = some ⟨oc_is_whole, od_is_whole, .func (PySem.W.fnOf "is_whole" "is_whole" (defArgs s_is_whole) (defBody s_is_whole) (defScope s_is_whole) .none kV_is_whole dc_is_whole pm_is_whole an_is_whole cd_is_whole ct_is_whole), sl_is_whole⟩) (c_is_whole : PySem.W.codeIn K cd_is_whole "is_whole" = true) (k_is_whole : PySem.W.keepIn K (.ref f_is_whole) = true)
    (a_common : PySem.W.nsIn K mainGlobals "common" = some (some (.ref f_common)))
    (l_common : K.lookup f_common = some ⟨oc_common, od_common, .func (PySem.W.fnOf "common" "common" (defArgs s_common) (defBody s_common) (defScope s_common) .none kV_common dc_common pm_common an_common cd_common ct_common), sl_common⟩) (c_common : PySem.W.codeIn K cd_common "common" = true) (k_common : PySem.W.keepIn K (.ref f_common) = true)
    (a_without : PySem.W.nsIn K mainGlobals "without" = some (some (.ref f_without)))
    (l_without : K.lookup f_without = some ⟨oc_without, od_without, .func (PySem.W.fnOf "without" "without" (defArgs s_without) (defBody s_without) (defScope s_without) .none kV_without dc_without pm_without an_without cd_without ct_without), sl_without⟩) (c_without : PySem.W.codeIn K cd_without "without" = true) (k_without : PySem.W.keepIn K (.ref f_without) = true)
    (a_width : PySem.W.nsIn K mainGlobals "width" = some (some (.ref f_width)))
    (l_width : K.lookup f_width = some ⟨oc_width, od_width, .func (PySem.W.fnOf "width" "width" (defArgs s_width) (defBody s_width) (defScope s_width) .none kV_width dc_width pm_width an_width cd_width ct_width), sl_width⟩) (c_width : PySem.W.codeIn K cd_width "width" = true) (k_width : PySem.W.keepIn K (.ref f_width) = true)
    (a_breaks : PySem.W.nsIn K mainGlobals "breaks" = some (some (.ref f_breaks)))
    (l_breaks : K.lookup f_breaks = some ⟨oc_breaks, od_breaks, .func (PySem.W.fnOf "breaks" "breaks" (defArgs s_breaks) (defBody s_breaks) (defScope s_breaks) .none kV_breaks dc_breaks pm_breaks an_breaks cd_breaks ct_breaks), sl_breaks⟩) (c_breaks : PySem.W.codeIn K cd_breaks "breaks" = true) (k_breaks : PySem.W.keepIn K (.ref f_breaks) = true)
    (a__law_cell : PySem.W.nsIn K mainGlobals "_law_cell" = some (some (.ref f__law_cell)))
    (l__law_cell : K.lookup f__law_cell = some ⟨oc__law_cell, od__law_cell, .func (PySem.W.fnOf "_law_cell" "_law_cell" (defArgs s__law_cell) (defBody s__law_cell) (defScope s__law_cell) .none kV__law_cell dc__law_cell pm__law_cell an__law_cell cd__law_cell ct__law_cell), sl__law_cell⟩) (c__law_cell : PySem.W.codeIn K cd__law_cell "_law_cell" = true) (k__law_cell : PySem.W.keepIn K (.ref f__law_cell) = true)
    (a__law_whole : PySem.W.nsIn K mainGlobals "_law_whole" = some (some (.ref f__law_whole)))
    (l__law_whole : K.lookup f__law_whole = some ⟨oc__law_whole, od__law_whole, .func (PySem.W.fnOf "_law_whole" "_law_whole" (defArgs s__law_whole) (defBody s__law_whole) (defScope s__law_whole) .none kV__law_whole dc__law_whole pm__law_whole an__law_whole cd__law_whole ct__law_whole), sl__law_whole⟩) (c__law_whole : PySem.W.codeIn K cd__law_whole "_law_whole" = true) (k__law_whole : PySem.W.keepIn K (.ref f__law_whole) = true)
    (a__law_bond : PySem.W.nsIn K mainGlobals "_law_bond" = some (some (.ref f__law_bond)))
    (l__law_bond : K.lookup f__law_bond = some ⟨oc__law_bond, od__law_bond, .func (PySem.W.fnOf "_law_bond" "_law_bond" (defArgs s__law_bond) (defBody s__law_bond) (defScope s__law_bond) .none kV__law_bond dc__law_bond pm__law_bond an__law_bond cd__law_bond ct__law_bond), sl__law_bond⟩) (c__law_bond : PySem.W.codeIn K cd__law_bond "_law_bond" = true) (k__law_bond : PySem.W.keepIn K (.ref f__law_bond) = true)
    (a__law_unlike : PySem.W.nsIn K mainGlobals "_law_unlike" = some (some (.ref f__law_unlike)))
    (l__law_unlike : K.lookup f__law_unlike = some ⟨oc__law_unlike, od__law_unlike, .func (PySem.W.fnOf "_law_unlike" "_law_unlike" (defArgs s__law_unlike) (defBody s__law_unlike) (defScope s__law_unlike) .none kV__law_unlike dc__law_unlike pm__law_unlike an__law_unlike cd__law_unlike ct__law_unlike), sl__law_unlike⟩) (c__law_unlike : PySem.W.codeIn K cd__law_unlike "_law_unlike" = true) (k__law_unlike : PySem.W.keepIn K (.ref f__law_unlike) = true)
    (a__law_in_all : PySem.W.nsIn K mainGlobals "_law_in_all" = some (some (.ref f__law_in_all)))
    (l__law_in_all : K.lookup f__law_in_all = some ⟨oc__law_in_all, od__law_in_all, .func (PySem.W.fnOf "_law_in_all" "_law_in_all" (defArgs s__law_in_all) (defBody s__law_in_all) (defScope s__law_in_all) .none kV__law_in_all dc__law_in_all pm__law_in_all an__law_in_all cd__law_in_all ct__law_in_all), sl__law_in_all⟩) (c__law_in_all : PySem.W.codeIn K cd__law_in_all "_law_in_all" = true) (k__law_in_all : PySem.W.keepIn K (.ref f__law_in_all) = true)
    (a__law_odd : PySem.W.nsIn K mainGlobals "_law_odd" = some (some (.ref f__law_odd)))
    (l__law_odd : K.lookup f__law_odd = some ⟨oc__law_odd, od__law_odd, .func (PySem.W.fnOf "_law_odd" "_law_odd" (defArgs s__law_odd) (defBody s__law_odd) (defScope s__law_odd) .none kV__law_odd dc__law_odd pm__law_odd an__law_odd cd__law_odd ct__law_odd), sl__law_odd⟩) (c__law_odd : PySem.W.codeIn K cd__law_odd "_law_odd" = true) (k__law_odd : PySem.W.keepIn K (.ref f__law_odd) = true)
    (a__law_truths : PySem.W.nsIn K mainGlobals "_law_truths" = some (some (.ref f__law_truths)))
    (l__law_truths : K.lookup f__law_truths = some ⟨oc__law_truths, od__law_truths, .func (PySem.W.fnOf "_law_truths" "_law_truths" (defArgs s__law_truths) (defBody s__law_truths) (defScope s__law_truths) .none kV__law_truths dc__law_truths pm__law_truths an__law_truths cd__law_truths ct__law_truths), sl__law_truths⟩) (c__law_truths : PySem.W.codeIn K cd__law_truths "_law_truths" = true) (k__law_truths : PySem.W.keepIn K (.ref f__law_truths) = true)
    (a__law_wrapped : PySem.W.nsIn K mainGlobals "_law_wrapped" = some (some (.ref f__law_wrapped)))
    (l__law_wrapped : K.lookup f__law_wrapped = some ⟨oc__law_wrapped, od__law_wrapped, .func (PySem.W.fnOf "_law_wrapped" "_law_wrapped" (defArgs s__law_wrapped) (defBody s__law_wrapped) (defScope s__law_wrapped) .none kV__law_wrapped dc__law_wrapped pm__law_wrapped an__law_wrapped cd__law_wrapped ct__law_wrapped), sl__law_wrapped⟩) (c__law_wrapped : PySem.W.codeIn K cd__law_wrapped "_law_wrapped" = true) (k__law_wrapped : PySem.W.keepIn K (.ref f__law_wrapped) = true)
    (a_joined : PySem.W.nsIn K mainGlobals "joined" = some (some (.ref f_joined)))
    (l_joined : K.lookup f_joined = some ⟨oc_joined, od_joined, .func (PySem.W.fnOf "joined" "joined" (defArgs s_joined) (defBody s_joined) (defScope s_joined) .none kV_joined dc_joined pm_joined an_joined cd_joined ct_joined), sl_joined⟩) (c_joined : PySem.W.codeIn K cd_joined "joined" = true) (k_joined : PySem.W.keepIn K (.ref f_joined) = true)
    (a_grown : PySem.W.nsIn K mainGlobals "grown" = some (some (.ref f_grown)))
    (l_grown : K.lookup f_grown = some ⟨oc_grown, od_grown, .func (PySem.W.fnOf "grown" "grown" (defArgs s_grown) (defBody s_grown) (defScope s_grown) .none kV_grown dc_grown pm_grown an_grown cd_grown ct_grown), sl_grown⟩) (c_grown : PySem.W.codeIn K cd_grown "grown" = true) (k_grown : PySem.W.keepIn K (.ref f_grown) = true)
    (a_pools_of : PySem.W.nsIn K mainGlobals "pools_of" = some (some (.ref f_pools_of)))
    (l_pools_of : K.lookup f_pools_of = some ⟨oc_pools_of, od_pools_of, .func (PySem.W.fnOf "pools_of" "pools_of" (defArgs s_pools_of) (defBody s_pools_of) (defScope s_pools_of) .none kV_pools_of dc_pools_of pm_pools_of an_pools_of cd_pools_of ct_pools_of), sl_pools_of⟩) (c_pools_of : PySem.W.codeIn K cd_pools_of "pools_of" = true) (k_pools_of : PySem.W.keepIn K (.ref f_pools_of) = true)
    (a__law_menu : PySem.W.nsIn K mainGlobals "_law_menu" = some (some (.ref f__law_menu)))
    (l__law_menu : K.lookup f__law_menu = some ⟨oc__law_menu, od__law_menu, .func (PySem.W.fnOf "_law_menu" "_law_menu" (defArgs s__law_menu) (defBody s__law_menu) (defScope s__law_menu) .none kV__law_menu dc__law_menu pm__law_menu an__law_menu cd__law_menu ct__law_menu), sl__law_menu⟩) (c__law_menu : PySem.W.codeIn K cd__law_menu "_law_menu" = true) (k__law_menu : PySem.W.keepIn K (.ref f__law_menu) = true)
    (a__law_breaks : PySem.W.nsIn K mainGlobals "_law_breaks" = some (some (.ref f__law_breaks)))
    (l__law_breaks : K.lookup f__law_breaks = some ⟨oc__law_breaks, od__law_breaks, .func (PySem.W.fnOf "_law_breaks" "_law_breaks" (defArgs s__law_breaks) (defBody s__law_breaks) (defScope s__law_breaks) .none kV__law_breaks dc__law_breaks pm__law_breaks an__law_breaks cd__law_breaks ct__law_breaks), sl__law_breaks⟩) (c__law_breaks : PySem.W.codeIn K cd__law_breaks "_law_breaks" = true) (k__law_breaks : PySem.W.keepIn K (.ref f__law_breaks) = true)
    (a__law_pool : PySem.W.nsIn K mainGlobals "_law_pool" = some (some (.ref f__law_pool)))
    (l__law_pool : K.lookup f__law_pool = some ⟨oc__law_pool, od__law_pool, .func (PySem.W.fnOf "_law_pool" "_law_pool" (defArgs s__law_pool) (defBody s__law_pool) (defScope s__law_pool) .none kV__law_pool dc__law_pool pm__law_pool an__law_pool cd__law_pool ct__law_pool), sl__law_pool⟩) (c__law_pool : PySem.W.codeIn K cd__law_pool "_law_pool" = true) (k__law_pool : PySem.W.keepIn K (.ref f__law_pool) = true)
    (a__law_turned : PySem.W.nsIn K mainGlobals "_law_turned" = some (some (.ref f__law_turned)))
    (l__law_turned : K.lookup f__law_turned = some ⟨oc__law_turned, od__law_turned, .func (PySem.W.fnOf "_law_turned" "_law_turned" (defArgs s__law_turned) (defBody s__law_turned) (defScope s__law_turned) .none kV__law_turned dc__law_turned pm__law_turned an__law_turned cd__law_turned ct__law_turned), sl__law_turned⟩) (c__law_turned : PySem.W.codeIn K cd__law_turned "_law_turned" = true) (k__law_turned : PySem.W.keepIn K (.ref f__law_turned) = true)
    (a_are_short : PySem.W.nsIn K mainGlobals "are_short" = some (some (.ref f_are_short)))
    (l_are_short : K.lookup f_are_short = some ⟨oc_are_short, od_are_short, .func (PySem.W.fnOf "are_short" "are_short" (defArgs s_are_short) (defBody s_are_short) (defScope s_are_short) .none kV_are_short dc_are_short pm_are_short an_are_short cd_are_short ct_are_short), sl_are_short⟩) (c_are_short : PySem.W.codeIn K cd_are_short "are_short" = true) (k_are_short : PySem.W.keepIn K (.ref f_are_short) = true)
    (a__law_drawn : PySem.W.nsIn K mainGlobals "_law_drawn" = some (some (.ref f__law_drawn)))
    (l__law_drawn : K.lookup f__law_drawn = some ⟨oc__law_drawn, od__law_drawn, .func (PySem.W.fnOf "_law_drawn" "_law_drawn" (defArgs s__law_drawn) (defBody s__law_drawn) (defScope s__law_drawn) .none kV__law_drawn dc__law_drawn pm__law_drawn an__law_drawn cd__law_drawn ct__law_drawn), sl__law_drawn⟩) (c__law_drawn : PySem.W.codeIn K cd__law_drawn "_law_drawn" = true) (k__law_drawn : PySem.W.keepIn K (.ref f__law_drawn) = true)
    (a__law_short : PySem.W.nsIn K mainGlobals "_law_short" = some (some (.ref f__law_short)))
    (l__law_short : K.lookup f__law_short = some ⟨oc__law_short, od__law_short, .func (PySem.W.fnOf "_law_short" "_law_short" (defArgs s__law_short) (defBody s__law_short) (defScope s__law_short) .none kV__law_short dc__law_short pm__law_short an__law_short cd__law_short ct__law_short), sl__law_short⟩) (c__law_short : PySem.W.codeIn K cd__law_short "_law_short" = true) (k__law_short : PySem.W.keepIn K (.ref f__law_short) = true)
    (a_shows_for : PySem.W.nsIn K mainGlobals "shows_for" = some (some (.ref f_shows_for)))
    (l_shows_for : K.lookup f_shows_for = some ⟨oc_shows_for, od_shows_for, .func (PySem.W.fnOf "shows_for" "shows_for" (defArgs s_shows_for) (defBody s_shows_for) (defScope s_shows_for) .none kV_shows_for dc_shows_for pm_shows_for an_shows_for cd_shows_for ct_shows_for), sl_shows_for⟩) (c_shows_for : PySem.W.codeIn K cd_shows_for "shows_for" = true) (k_shows_for : PySem.W.keepIn K (.ref f_shows_for) = true)
    (a__law_shows : PySem.W.nsIn K mainGlobals "_law_shows" = some (some (.ref f__law_shows)))
    (l__law_shows : K.lookup f__law_shows = some ⟨oc__law_shows, od__law_shows, .func (PySem.W.fnOf "_law_shows" "_law_shows" (defArgs s__law_shows) (defBody s__law_shows) (defScope s__law_shows) .none kV__law_shows dc__law_shows pm__law_shows an__law_shows cd__law_shows ct__law_shows), sl__law_shows⟩) (c__law_shows : PySem.W.codeIn K cd__law_shows "_law_shows" = true) (k__law_shows : PySem.W.keepIn K (.ref f__law_shows) = true)
    (a__law_blocks : PySem.W.nsIn K mainGlobals "_law_blocks" = some (some (.ref f__law_blocks)))
    (l__law_blocks : K.lookup f__law_blocks = some ⟨oc__law_blocks, od__law_blocks, .func (PySem.W.fnOf "_law_blocks" "_law_blocks" (defArgs s__law_blocks) (defBody s__law_blocks) (defScope s__law_blocks) .none kV__law_blocks dc__law_blocks pm__law_blocks an__law_blocks cd__law_blocks ct__law_blocks), sl__law_blocks⟩) (c__law_blocks : PySem.W.codeIn K cd__law_blocks "_law_blocks" = true) (k__law_blocks : PySem.W.keepIn K (.ref f__law_blocks) = true)
    (a_shows : PySem.W.nsIn K mainGlobals "shows" = some (some (.ref f_shows)))
    (l_shows : K.lookup f_shows = some ⟨oc_shows, od_shows, .func (PySem.W.fnOf "shows" "shows" (defArgs s_shows) (defBody s_shows) (defScope s_shows) .none kV_shows dc_shows pm_shows an_shows cd_shows ct_shows), sl_shows⟩) (c_shows : PySem.W.codeIn K cd_shows "shows" = true) (k_shows : PySem.W.keepIn K (.ref f_shows) = true)
    (a__law_honest : PySem.W.nsIn K mainGlobals "_law_honest" = some (some (.ref f__law_honest)))
    (l__law_honest : K.lookup f__law_honest = some ⟨oc__law_honest, od__law_honest, .func (PySem.W.fnOf "_law_honest" "_law_honest" (defArgs s__law_honest) (defBody s__law_honest) (defScope s__law_honest) .none kV__law_honest dc__law_honest pm__law_honest an__law_honest cd__law_honest ct__law_honest), sl__law_honest⟩) (c__law_honest : PySem.W.codeIn K cd__law_honest "_law_honest" = true) (k__law_honest : PySem.W.keepIn K (.ref f__law_honest) = true)
    (a__law_paper : PySem.W.nsIn K mainGlobals "_law_paper" = some (some (.ref f__law_paper)))
    (l__law_paper : K.lookup f__law_paper = some ⟨oc__law_paper, od__law_paper, .func (PySem.W.fnOf "_law_paper" "_law_paper" (defArgs s__law_paper) (defBody s__law_paper) (defScope s__law_paper) .none kV__law_paper dc__law_paper pm__law_paper an__law_paper cd__law_paper ct__law_paper), sl__law_paper⟩) (c__law_paper : PySem.W.codeIn K cd__law_paper "_law_paper" = true) (k__law_paper : PySem.W.keepIn K (.ref f__law_paper) = true)
    (a_law : PySem.W.nsIn K mainGlobals "law" = some (some (.ref f_law)))
    (l_law : K.lookup f_law = some ⟨oc_law, od_law, .func (PySem.W.fnOf "law" "law" (defArgs s_law) (defBody s_law) (defScope s_law) .none kV_law dc_law pm_law an_law cd_law ct_law), sl_law⟩) (c_law : PySem.W.codeIn K cd_law "law" = true) (k_law : PySem.W.keepIn K (.ref f_law) = true)
    (z_bool : PySem.W.nsIn K mainGlobals "bool" = some none)
    (z_enumerate : PySem.W.nsIn K mainGlobals "enumerate" = some none)
    (z_int : PySem.W.nsIn K mainGlobals "int" = some none)
    (z_isinstance : PySem.W.nsIn K mainGlobals "isinstance" = some none)
    (z_len : PySem.W.nsIn K mainGlobals "len" = some none)
    (z_list : PySem.W.nsIn K mainGlobals "list" = some none)
    (z_max : PySem.W.nsIn K mainGlobals "max" = some none)
    (z_min : PySem.W.nsIn K mainGlobals "min" = some none)
    (z_range : PySem.W.nsIn K mainGlobals "range" = some none)
    (z_set : PySem.W.nsIn K mainGlobals "set" = some none)
    (z_sorted : PySem.W.nsIn K mainGlobals "sorted" = some none)
    (z_tuple : PySem.W.nsIn K mainGlobals "tuple" = some none)
    (z_zip : PySem.W.nsIn K mainGlobals "zip" = some none) :
    ∃ fd : FuncData, (∀ (s : Shared) (v : Value), BindsTo s fd ⟨[v], []⟩ [("script", v)]) ∧ ∀ base : Heap, K.In base → base.Ns mainGlobals mg → FnOk l.prog w K mg base CX0 31 fa fd ["script"] (DL.spLaw K) := by
  have e := hfa.symm.trans (PySem.W.mg_of X G a_law)
  cases e
  have F_is_whole := fun_mk (st := s_is_whole) l_is_whole c_is_whole k_is_whole
  have F_common := fun_mk (st := s_common) l_common c_common k_common
  have F_without := fun_mk (st := s_without) l_without c_without k_without
  have F_width := fun_mk (st := s_width) l_width c_width k_width
  have F_breaks := fun_mk (st := s_breaks) l_breaks c_breaks k_breaks
  have F__law_cell := fun_mk (st := s__law_cell) l__law_cell c__law_cell k__law_cell
  have F__law_whole := fun_mk (st := s__law_whole) l__law_whole c__law_whole k__law_whole
  have F__law_bond := fun_mk (st := s__law_bond) l__law_bond c__law_bond k__law_bond
  have F__law_unlike := fun_mk (st := s__law_unlike) l__law_unlike c__law_unlike k__law_unlike
  have F__law_in_all := fun_mk (st := s__law_in_all) l__law_in_all c__law_in_all k__law_in_all
  have F__law_odd := fun_mk (st := s__law_odd) l__law_odd c__law_odd k__law_odd
  have F__law_truths := fun_mk (st := s__law_truths) l__law_truths c__law_truths k__law_truths
  have F__law_wrapped := fun_mk (st := s__law_wrapped) l__law_wrapped c__law_wrapped k__law_wrapped
  have F_joined := fun_mk (st := s_joined) l_joined c_joined k_joined
  have F_grown := fun_mk (st := s_grown) l_grown c_grown k_grown
  have F_pools_of := fun_mk (st := s_pools_of) l_pools_of c_pools_of k_pools_of
  have F__law_menu := fun_mk (st := s__law_menu) l__law_menu c__law_menu k__law_menu
  have F__law_breaks := fun_mk (st := s__law_breaks) l__law_breaks c__law_breaks k__law_breaks
  have F__law_pool := fun_mk (st := s__law_pool) l__law_pool c__law_pool k__law_pool
  have F__law_turned := fun_mk (st := s__law_turned) l__law_turned c__law_turned k__law_turned
  have F_are_short := fun_mk (st := s_are_short) l_are_short c_are_short k_are_short
  have F__law_drawn := fun_mk (st := s__law_drawn) l__law_drawn c__law_drawn k__law_drawn
  have F__law_short := fun_mk (st := s__law_short) l__law_short c__law_short k__law_short
  have F_shows_for := fun_mk (st := s_shows_for) l_shows_for c_shows_for k_shows_for
  have F__law_shows := fun_mk (st := s__law_shows) l__law_shows c__law_shows k__law_shows
  have F__law_blocks := fun_mk (st := s__law_blocks) l__law_blocks c__law_blocks k__law_blocks
  have F_shows := fun_mk (st := s_shows) l_shows c_shows k_shows
  have F__law_honest := fun_mk (st := s__law_honest) l__law_honest c__law_honest k__law_honest
  have F__law_paper := fun_mk (st := s__law_paper) l__law_paper c__law_paper k__law_paper
  have F_law := fun_mk (st := s_law) l_law c_law k_law
  let T : Txt K mg := {
    a_is_whole := _, d_is_whole := _, F_is_whole := F_is_whole, m_is_whole := PySem.W.mg_of X G a_is_whole, b_is_whole := (F_is_whole.binds (ps := ["thing"]) fun _ _ _ _ _ _ us hl => match us, hl with | [_], _ => rfl),
    a_common := _, d_common := _, F_common := F_common, m_common := PySem.W.mg_of X G a_common, b_common := (F_common.binds (ps := ["one", "other"]) fun _ _ _ _ _ _ us hl => match us, hl with | [_, _], _ => rfl),
    a_without := _, d_without := _, F_without := F_without, m_without := PySem.W.mg_of X G a_without, b_without := (F_without.binds (ps := ["one", "other"]) fun _ _ _ _ _ _ us hl => match us, hl with | [_, _], _ => rfl),
    a_width := _, d_width := _, F_width := F_width, m_width := PySem.W.mg_of X G a_width, b_width := (F_width.binds (ps := ["pattern"]) fun _ _ _ _ _ _ us hl => match us, hl with | [_], _ => rfl),
    a_breaks := _, d_breaks := _, F_breaks := F_breaks, m_breaks := PySem.W.mg_of X G a_breaks, b_breaks := (F_breaks.binds (ps := ["pattern", "tie"]) fun _ _ _ _ _ _ us hl => match us, hl with | [_, _], _ => rfl),
    a__law_cell := _, d__law_cell := _, F__law_cell := F__law_cell, m__law_cell := PySem.W.mg_of X G a__law_cell, b__law_cell := (F__law_cell.binds (ps := ["script", "k"]) fun _ _ _ _ _ _ us hl => match us, hl with | [_, _], _ => rfl),
    a__law_whole := _, d__law_whole := _, F__law_whole := F__law_whole, m__law_whole := PySem.W.mg_of X G a__law_whole, b__law_whole := (F__law_whole.binds (ps := ["found"]) fun _ _ _ _ _ _ us hl => match us, hl with | [_], _ => rfl),
    a__law_bond := _, d__law_bond := _, F__law_bond := F__law_bond, m__law_bond := PySem.W.mg_of X G a__law_bond, b__law_bond := (F__law_bond.binds (ps := ["cell", "many"]) fun _ _ _ _ _ _ us hl => match us, hl with | [_, _], _ => rfl),
    a__law_unlike := _, d__law_unlike := _, F__law_unlike := F__law_unlike, m__law_unlike := PySem.W.mg_of X G a__law_unlike, b__law_unlike := (F__law_unlike.binds (ps := ["things", "steps"]) fun _ _ _ _ _ _ us hl => match us, hl with | [_, _], _ => rfl),
    a__law_in_all := _, d__law_in_all := _, F__law_in_all := F__law_in_all, m__law_in_all := PySem.W.mg_of X G a__law_in_all, b__law_in_all := (F__law_in_all.binds (ps := ["badge", "lists", "steps"]) fun _ _ _ _ _ _ us hl => match us, hl with | [_, _, _], _ => rfl),
    a__law_odd := _, d__law_odd := _, F__law_odd := F__law_odd, m__law_odd := PySem.W.mg_of X G a__law_odd, b__law_odd := (F__law_odd.binds (ps := ["cell"]) fun _ _ _ _ _ _ us hl => match us, hl with | [_], _ => rfl),
    a__law_truths := _, d__law_truths := _, F__law_truths := F__law_truths, m__law_truths := PySem.W.mg_of X G a__law_truths, b__law_truths := (F__law_truths.binds (ps := ["rest"]) fun _ _ _ _ _ _ us hl => match us, hl with | [_], _ => rfl),
    a__law_wrapped := _, d__law_wrapped := _, F__law_wrapped := F__law_wrapped, m__law_wrapped := PySem.W.mg_of X G a__law_wrapped, b__law_wrapped := (F__law_wrapped.binds (ps := ["thing", "cells"]) fun _ _ _ _ _ _ us hl => match us, hl with | [_, _], _ => rfl),
    a_joined := _, d_joined := _, F_joined := F_joined, m_joined := PySem.W.mg_of X G a_joined, b_joined := (F_joined.binds (ps := ["one", "other"]) fun _ _ _ _ _ _ us hl => match us, hl with | [_, _], _ => rfl),
    a_grown := _, d_grown := _, F_grown := F_grown, m_grown := PySem.W.mg_of X G a_grown, b_grown := (F_grown.binds (ps := ["pattern"]) fun _ _ _ _ _ _ us hl => match us, hl with | [_], _ => rfl),
    a_pools_of := _, d_pools_of := _, F_pools_of := F_pools_of, m_pools_of := PySem.W.mg_of X G a_pools_of, b_pools_of := (F_pools_of.binds (ps := ["pattern", "may"]) fun _ _ _ _ _ _ us hl => match us, hl with | [_, _], _ => rfl),
    a__law_menu := _, d__law_menu := _, F__law_menu := F__law_menu, m__law_menu := PySem.W.mg_of X G a__law_menu, b__law_menu := (F__law_menu.binds (ps := ["script", "at", "wide"]) fun _ _ _ _ _ _ us hl => match us, hl with | [_, _, _], _ => rfl),
    a__law_breaks := _, d__law_breaks := _, F__law_breaks := F__law_breaks, m__law_breaks := PySem.W.mg_of X G a__law_breaks, b__law_breaks := (F__law_breaks.binds (ps := ["pattern", "tie"]) fun _ _ _ _ _ _ us hl => match us, hl with | [_, _], _ => rfl),
    a__law_pool := _, d__law_pool := _, F__law_pool := F__law_pool, m__law_pool := PySem.W.mg_of X G a__law_pool, b__law_pool := (F__law_pool.binds (ps := ["pattern", "lists", "block"]) fun _ _ _ _ _ _ us hl => match us, hl with | [_, _, _], _ => rfl),
    a__law_turned := _, d__law_turned := _, F__law_turned := F__law_turned, m__law_turned := PySem.W.mg_of X G a__law_turned, b__law_turned := (F__law_turned.binds (ps := ["paper", "cell"]) fun _ _ _ _ _ _ us hl => match us, hl with | [_, _], _ => rfl),
    a_are_short := _, d_are_short := _, F_are_short := F_are_short, m_are_short := PySem.W.mg_of X G a_are_short, b_are_short := (F_are_short.binds (ps := ["pools", "blocks"]) fun _ _ _ _ _ _ us hl => match us, hl with | [_, _], _ => rfl),
    a__law_drawn := _, d__law_drawn := _, F__law_drawn := F__law_drawn, m__law_drawn := PySem.W.mg_of X G a__law_drawn, b__law_drawn := (F__law_drawn.binds (ps := ["script", "top"]) fun _ _ _ _ _ _ us hl => match us, hl with | [_, _], _ => rfl),
    a__law_short := _, d__law_short := _, F__law_short := F__law_short, m__law_short := PySem.W.mg_of X G a__law_short, b__law_short := (F__law_short.binds (ps := ["pattern", "lists", "blocks"]) fun _ _ _ _ _ _ us hl => match us, hl with | [_, _, _], _ => rfl),
    a_shows_for := _, d_shows_for := _, F_shows_for := F_shows_for, m_shows_for := PySem.W.mg_of X G a_shows_for, b_shows_for := (F_shows_for.binds (ps := ["pattern", "may", "ties", "paper"]) fun _ _ _ _ _ _ us hl => match us, hl with | [_, _, _, _], _ => rfl),
    a__law_shows := _, d__law_shows := _, F__law_shows := F__law_shows, m__law_shows := PySem.W.mg_of X G a__law_shows, b__law_shows := (F__law_shows.binds (ps := ["pattern", "lists", "ties", "paper"]) fun _ _ _ _ _ _ us hl => match us, hl with | [_, _, _, _], _ => rfl),
    a__law_blocks := _, d__law_blocks := _, F__law_blocks := F__law_blocks, m__law_blocks := PySem.W.mg_of X G a__law_blocks, b__law_blocks := (F__law_blocks.binds (ps := ["pattern", "lists"]) fun _ _ _ _ _ _ us hl => match us, hl with | [_, _], _ => rfl),
    a_shows := _, d_shows := _, F_shows := F_shows, m_shows := PySem.W.mg_of X G a_shows, b_shows := (F_shows.binds (ps := ["may", "ties", "paper"]) fun _ _ _ _ _ _ us hl => match us, hl with | [_, _, _], _ => rfl),
    a__law_honest := _, d__law_honest := _, F__law_honest := F__law_honest, m__law_honest := PySem.W.mg_of X G a__law_honest, b__law_honest := (F__law_honest.binds (ps := ["pattern", "lists", "ties", "left", "cell"]) fun _ _ _ _ _ _ us hl => match us, hl with | [_, _, _, _, _], _ => rfl),
    a__law_paper := _, d__law_paper := _, F__law_paper := F__law_paper, m__law_paper := PySem.W.mg_of X G a__law_paper, b__law_paper := (F__law_paper.binds (ps := ["pattern", "lists", "ties", "left", "cell"]) fun _ _ _ _ _ _ us hl => match us, hl with | [_, _, _, _, _], _ => rfl),
    a_law := _, d_law := _, F_law := F_law, m_law := PySem.W.mg_of X G a_law, b_law := (F_law.binds (ps := ["script"]) fun _ _ _ _ _ _ us hl => match us, hl with | [_], _ => rfl),
    z_bool := PySem.W.mg_none_of X G z_bool,
    z_enumerate := PySem.W.mg_none_of X G z_enumerate,
    z_int := PySem.W.mg_none_of X G z_int,
    z_isinstance := PySem.W.mg_none_of X G z_isinstance,
    z_len := PySem.W.mg_none_of X G z_len,
    z_list := PySem.W.mg_none_of X G z_list,
    z_max := PySem.W.mg_none_of X G z_max,
    z_min := PySem.W.mg_none_of X G z_min,
    z_range := PySem.W.mg_none_of X G z_range,
    z_set := PySem.W.mg_none_of X G z_set,
    z_sorted := PySem.W.mg_none_of X G z_sorted,
    z_tuple := PySem.W.mg_none_of X G z_tuple,
    z_zip := PySem.W.mg_none_of X G z_zip }
  exact ⟨PySem.W.fnOf "law" "law" (defArgs s_law) (defBody s_law) (defScope s_law) .none kV_law dc_law pm_law an_law cd_law ct_law, fun s v => .of_eq rfl, fun base _ _ => DL.law_end (ok_law T) hlaw⟩
end Lk24
namespace Fn
open PySem DL
end Fn
namespace Fn
open PySem DL
end Fn
namespace Fn
open PySem DL
end Fn
namespace Fn
open PySem DL
end Fn
namespace Fn
open PySem DL
end Fn
namespace Fn
open PySem DL
end Fn
namespace Fn
open PySem DL
end Fn
local macro_rules | `(tactic| walk_at "dl") => `(tactic| try simp -implicitDefEqProofs only [DL.sort_ints, DL.sum_ints, DL.in_ints, DL.idx_ok, DL.rev_lst, DL.ap_ins, DL.intB_bl, DL.intB_int, DL.itZipL_lst, DL.ap_nrmS, DL.nrm_nil, DL.nrm_cons, DL.nrm_rows, DL.nrm_lst, DL.isC_rows, DL.len_rows, DL.unR_rows, DL.unR_lst, DL.isi_rows, DL.eq_rows, DL.ap_rowM, DL.rowM_ok, DL.rowM2_ok, DL.rowM3_ok, DL.ap_row0, DL.ap_get2, DL.get2_ok, DL.row0_ok, DL.row02_ok, DL.ap_rowsApp, DL.ap_rowPut, DL.rowPut_ok, DL.rowPut2_ok, DL.ap_consL, DL.consL_ok, DL.mkRows_ap, DL.ap_lcR, DL.maxDef_ints, DL.ap_cnt, DL.cnt_ok, DL.ap_idx, DL.ap_txop, DL.tx_ok, DL.ap_jopS, DL.ap_lc, DL.ap_try, DL.try_ok, DL.try_err, DL.ap_tryAs, DL.tryAs_ok, DL.tryAs_err, DL.gone_next, DL.ap_raise, DL.ap_bodyD, DL.end_err, DL.itRev_lst, DL.itZip_lst, DL.itEnum_lst, DL.min_int, DL.max_int, DL.ap_seq, DL.seq_next, DL.seq_ret, DL.seq_brk, DL.seq_cont, DL.seq_err, DL.ap_skip, DL.ap_brk, DL.ap_cont, DL.ap_stl, DL.settle_nil, DL.settle_cons, DL.settle_t, DL.settle_f, DL.ap_if, DL.ite_t, DL.ite_f, DL.ap_set, DL.ap_setO, DL.set_ok, DL.setO_ok, DL.isC_lst, DL.isC_dK, DL.isC_dT, DL.isC_int, DL.isC_str, DL.isC_bl, DL.isC_non, DL.isC_tup, DL.ap_ret, DL.ap_retO, DL.ret_ok, DL.ap_ret0, DL.ap_unp, DL.unp_ok, DL.unp2_ok, DL.ap_drop, DL.ap_gset, DL.ap_gtup, DL.ap_glst, DL.ap_gnil, DL.ap_gcons, DL.ap_rd, DL.ap_rdE, DL.ap_rdO, DL.rd_ok, DL.rdE_ok, DL.rdO_ok, DL.rdO_f, DL.ap_cst, DL.ap_bop, DL.bd2_ok, DL.ap_uop, DL.ap_nop, DL.ap_anil, DL.ap_acons, DL.cons_ok, DL.add_int, DL.add_str, DL.add_lst, DL.sub_int, DL.rep_lst, DL.neg_int, DL.eq_int, DL.eq_str, DL.eq_bl, DL.eq_non_int, DL.eq_int_non, DL.lt_int, DL.le_int, DL.gt_int, DL.ge_int, DL.isN_ap, DL.isN_non, DL.isN_int, DL.isN_str, DL.isN_bl, DL.ap_rdL, DL.rdL_ok, DL.ap_rdF, DL.rdF_int, DL.is_bl, DL.isN_lst, DL.isN_tup, DL.asB_bl, DL.asI_int, DL.mkLst_ap, DL.mkTup_ap, DL.len_lst, DL.len_tup, DL.len_scr, DL.len_str, DL.len_dK, DL.list_lst, DL.list_tup, DL.list_scr, DL.tuple_lst, DL.flatO_int, DL.flatO_bl, DL.flatO_str, DL.flatO_non, DL.flatO_tup, DL.eNot_bl, DL.isi_int, DL.isi_bl, DL.isi_str, DL.isi_non, DL.isi_lst, DL.isi_tup, DL.isB_int_int, DL.isB_int_bl, DL.isB_int_str, DL.isB_int_non, DL.isB_int_lst, DL.isB_int_tup, DL.isB_bool_int, DL.isB_bool_bl, DL.isB_bool_str, DL.isB_bool_non, DL.isB_bool_lst, DL.isB_bool_tup, DL.isB_list_lst, DL.isB_list_int, DL.isB_list_tup, DL.isB_tuple_tup, DL.isB_tuple_lst, DL.isB_str_str, DL.isB_str_int, DL.ap_tst, DL.ap_bnot, DL.ap_band, DL.ap_bor, DL.and_t, DL.and_f, DL.or_t, DL.or_f, DL.ap_eand, DL.ap_eor, DL.eand_t, DL.eand_f, DL.eor_t, DL.eor_f, DL.ap_eif, DL.eif_t, DL.eif_f, DL.ap_chain, DL.chn0_ok, DL.chn_t, DL.chn_f, DL.ap_slc, DL.slc_ok, DL.ap_pnone, DL.ap_psome, DL.cut_lst, DL.cut_scr, DL.ap_for, DL.loop_ok, DL.ap_loop0, DL.ap_loop1, DL.lp1_ok, DL.lp2_next, DL.lp2_cont, DL.lp2_brk, DL.lp2_ret, DL.ap_itr, DL.ap_irg, DL.itD_lst, DL.itD_tup, DL.itD_scr, DL.itD_str, DL.rng1_ap, DL.rng2_ap, DL.wipe_nil, DL.wipe_cons, DL.ap_app, DL.ap_ext, DL.ap_own0, DL.own0_ok, DL.ap_put, DL.put_ok, DL.put2_ok, DL.end_ret, DL.end_next, DL.args_ap, DL.bd_ok, DL.bd_err, DL.bd_bad, DL.grd_t, DL.grd_f, DL.xorB_f, DL.xorB_t, List.map_cons, List.map_nil, List.length_cons, List.length_nil, List.length_map, List.length_append, List.length_range, List.cons_append, List.nil_append, List.append_nil, List.getElem?_cons_zero, List.getElem?_cons_succ, List.set_cons_zero, List.set_cons_succ, List.replicate_succ, List.replicate_zero, Nat.sub_zero, Nat.sub_self, Nat.add_one_sub_one, Nat.reduceAdd, Nat.reduceSub, Nat.zero_add, Option.bind_some, decide_true, decide_false, Bool.and_true, Bool.true_and, Bool.and_false, Bool.false_and, Bool.not_true, Bool.not_false, Bool.or_true, Bool.or_false, Bool.true_or, Bool.false_or, Bool.false_eq_true, ↓reduceIte, Int.reduceToNat, Int.reducePow, Int.reduceMul, Int.reduceAdd, Int.reduceSub, Int.reduceNeg, Int.reduceLT, Int.reduceLE, Nat.reducePow, Int.reduceMod, Int.reduceDiv, Int.reduceEq, Nat.reduceEqDiff, Int.natAbs_cast, DL.mod_pos, DL.div_pos, DL.dEq_ints, DL.dEq_scr, DL.dEq_scr_nil, DL.dEq_ints_nil, DL.ix_l0, DL.ix_t0, DL.ix_ls, DL.ix_ts, Nat.zero_le, Nat.reduceLeDiff, DL.small_of, DL.inR_small, DL.lt_size, DL.mul_small, DL.pow_ok, DL.app_ok, DL.ite_t])
namespace Ti
open PySem DL
theorem uniq_snoc (l : List Int) (x : Int) : uniq (l ++ [x]) = if x ∈ l then uniq l else uniq l ++ [x] := by
  have h : uniq (l ++ [x]) = if x ∈ uniq l then uniq l else uniq l ++ [x] := by
    unfold uniq
    rw [List.foldl_append]
    rfl
  rw [h]
  by_cases hx : x ∈ l
  · rw [if_pos hx, if_pos (mem_uniq.mpr hx)]
  · rw [if_neg hx, if_neg (fun z => hx (mem_uniq.mp z))]
theorem uniq_len (l : List Int) : (uniq l).length ≤ l.length := by
  have h : ∀ n (l : List Int), l.length = n → (uniq l).length ≤ l.length := by
    intro n
    induction n with
    | zero => intro l hl; rw [List.eq_nil_of_length_eq_zero hl]; exact Nat.le_refl _
    | succ n ih =>
      intro l hl
      have hne : l ≠ [] := by rintro rfl; cases hl
      have e := List.dropLast_concat_getLast hne
      have := ih l.dropLast (by rw [List.length_dropLast]; omega)
      rw [← e, uniq_snoc]
      split
      · rw [List.length_append]; omega
      · rw [List.length_append, List.length_append]; simp only [List.length_singleton]; omega
  exact h _ l rfl
def vals (ts : List Int) (ks : List Nat) : List Int := ks.map fun k => ts.getD k 0
def kI (k : Nat) : D := .int (k : Int)
structure Seq (σ : List D → D) : Prop where
  len : ∀ ds, dLen [σ ds] = .ok (.int ds.length)
  ix : ∀ ds i x, 0 ≤ i → ds[i.toNat]? = some x → dIxA (σ ds) (.int i) = .ok x
  cut : ∀ ds (k : Nat), k < ds.length → dCut (σ ds) none (some (k : Int)) = .ok (σ (ds.take k))
  it : ∀ ds, itD (σ ds) = .ok ds
theorem seq_lst : Seq D.lst := ⟨fun _ => rfl, fun _ _ _ h h' => ixA_lst h h', fun ds k hk => by
  show R.ok (D.lst (cutD ds none (some (k : Int)))) = _
  rw [cut_to (by omega)]; simp, fun _ => rfl⟩
theorem look (ts : List Int) (k : Nat) (h : k < ts.length) : dIxA (.lst (ts.map .int)) (.int (k : Int)) = .ok (.int (ts.getD k 0)) := by
  rw [ixA_ints (by omega) (by omega)]; rfl
theorem unlike_eq {σ : List D → D} (S : Seq σ) (ts : List Int) (ks : List Nat) (hk : ∀ k ∈ ks, k < ts.length) (hl : ks.length ≤ 1000) : ∃ o, Fn.law_unlike_f766 [.lst (ts.map .int), σ (ks.map kI)] = .ok (o, .int (uniq (vals ts ks)).length) := by
  unfold Fn.law_unlike_f766; rw [DL.ap_body (by rfl)]; unfold Fn.law_unlike_f766_g
  walk_at "dl"
  rw [S.len]
  walk_at "dl"
  rw [inR_small (by omega) (by omega)]
  walk_at "dl"
  obtain ⟨ρ', h1, z, h2⟩ := DL.loop_at (g := gSet 3) (gb := Fn.law_unlike_f766_b2) (fun (i : Nat) => D.int (0 + (i : Int))) (List.range (ks.length : Int).toNat)
    (fun i ρ => ∃ z, ρ = [some (false, .lst (ts.map .int)), some (false, σ (ks.map kI)), some (false, .int (uniq (vals ts (ks.take i))).length), z, none]) _ ⟨none, rfl⟩ (fun i a ρ ha ⟨z, hρ⟩ => by
      subst hρ
      have hi := DL.at_lt ha
      rw [List.length_range] at hi
      rw [List.getElem?_range hi] at ha
      cases ha
      have hi' : i < ks.length := by omega
      refine ⟨_, rfl, ?_⟩
      unfold Fn.law_unlike_f766_b2
      rw [Int.zero_add]
      have e1 : dIxA (σ (ks.map kI)) (.int (i : Int)) = .ok (.int (ks[i] : Nat)) := S.ix _ _ _ (by omega) (by rw [Int.toNat_natCast, List.getElem?_map, List.getElem?_eq_getElem hi']; rfl)
      walk_at "dl"
      rw [e1]
      walk_at "dl"
      rw [look ts _ (hk _ (List.getElem_mem hi')), S.cut _ i (by rw [List.length_map]; exact hi')]
      walk_at "dl"
      rw [S.it]
      rw [DL.lc_is (zs := (vals ts (ks.take i)).map .int) (by rw [List.length_take, List.length_map]; omega) (by
        walk_at "dl"
        rw [← List.map_take]
        unfold vals
        rw [List.map_map]
        have := DL.lc_map (g := gSet 4) (t := tYesD) (f := Fn.law_unlike_f766_e1) (ρ := [some (false, .lst (ts.map .int)), some (false, σ (ks.map kI)), some (false, .int (uniq (vals ts (ks.take i))).length), some (false, .int (i : Int)), none])
          (fun d => match d with | .int k => .int (ts.getD k.toNat 0) | d => d) ((ks.take i).map kI) (fun d hd => by
            obtain ⟨k, hk2, rfl⟩ := List.mem_map.mp hd
            refine DL.lcS_all rfl ?_
            unfold Fn.law_unlike_f766_e1 kI
            walk_at "dl"
            rw [look ts k (hk k (List.mem_of_mem_take hk2))]
            rfl)
        rw [List.map_map] at this
        exact this)]
      walk_at "dl"
      have e2 : vals ts (ks.take (i + 1)) = vals ts (ks.take i) ++ [ts.getD ks[i] 0] := by
        unfold vals; rw [List.take_succ_eq_append_getElem hi', List.map_append]; rfl
      have e3 := uniq_snoc (vals ts (ks.take i)) (ts.getD ks[i] 0)
      have e4 := uniq_len (vals ts (ks.take i))
      have e5 : (vals ts (ks.take i)).length ≤ 1000 := by unfold vals; rw [List.length_map, List.length_take]; omega
      rw [e2, e3]
      by_cases hm : ts.getD ks[i] 0 ∈ vals ts (ks.take i)
      · rw [decide_eq_true hm, if_pos hm]
        walk_at "dl"
        exact ⟨_, rfl, _, rfl⟩
      · rw [decide_eq_false hm, if_neg hm]
        walk_at "dl"
        refine ⟨_, rfl, some (false, .int (i : Int)), ?_⟩
        rw [Int.natCast_add]
        rfl)
  rw [List.length_range] at h2
  rw [Int.toNat_natCast] at h2
  rw [show List.take 0 ks = [] from rfl, show uniq (vals ts []) = [] from rfl] at h1
  erw [h1]
  walk_at "dl"
  have e6 : ks.take (ks.length) = ks := List.take_length
  rw [h2, e6]
  walk_at "dl"
  exact ⟨_, rfl⟩
theorem lc_filter {α : Type} {g : D → En → Option En} {t : En → R Bool} {f : En → R D} {ρ : En} (F : α → D) (p : α → Bool) : ∀ (xs : List α), (∀ a ∈ xs, lcStep g t f ρ (F a) = .ok (if p a = true then some (F a) else none)) → lcGo g t f ρ (xs.map F) = .ok ((xs.filter p).map F)
  | [], _ => rfl
  | a :: xs, h => by
    have ih := lc_filter F p xs fun b hb => h b (List.mem_cons_of_mem _ hb)
    rw [List.map_cons]
    unfold lcGo
    rw [h a List.mem_cons_self, ih]
    cases hp : p a with
    | true => rw [List.filter_cons_of_pos hp]; rfl
    | false => rw [List.filter_cons_of_neg (by rw [hp]; exact Bool.false_ne_true)]; rfl
theorem lc_fmap {α : Type} {g : D → En → Option En} {t : En → R Bool} {f : En → R D} {ρ : En} (F G : α → D) (p : α → Bool) : ∀ (xs : List α), (∀ a ∈ xs, lcStep g t f ρ (F a) = .ok (if p a = true then some (G a) else none)) → lcGo g t f ρ (xs.map F) = .ok ((xs.filter p).map G)
  | [], _ => rfl
  | a :: xs, h => by
    have ih := lc_fmap F G p xs fun b hb => h b (List.mem_cons_of_mem _ hb)
    rw [List.map_cons]
    unfold lcGo
    rw [h a List.mem_cons_self, ih]
    cases hp : p a with
    | true => rw [List.filter_cons_of_pos hp]; rfl
    | false => rw [List.filter_cons_of_neg (by rw [hp]; exact Bool.false_ne_true)]; rfl
theorem lc_one {g : D → En → Option En} {t : En → R Bool} {f : En → R D} {ρ ρ1 : En} {d z : D} {b : Bool} (hg : g d ρ = some ρ1) (ht : t ρ1 = .ok b) (hf : b = true → f ρ1 = .ok z) : lcStep g t f ρ d = .ok (if b = true then some z else none) := by
  cases b with
  | true => exact DL.lcS_t hg ht (hf rfl)
  | false => exact DL.lcS_f hg ht
def most : Str := Str.ofString "most"
def least : Str := Str.ofString "least"
def keepsB (hs : List Int) (w : Str) (l : Int) (ks : List Nat) : Bool := if w = most then decide (((uniq (vals hs ks)).length : Int) ≤ l) else decide (l ≤ ((uniq (vals hs ks)).length : Int))
end Ti
namespace Di
open PySem DL PySem.Spec L2
abbrev Ky := Int ⊕ Str
def dKI (kvs : List (Int × D)) : D := .dK (kvs.map fun kv => (Sum.inl kv.1, kv.2))
theorem any_inl (q : Int) : ∀ kvs : List (Int × D), ((kvs.map fun kv => ((Sum.inl kv.1 : Ky), kv.2)).any fun kv => decide (kv.1 = Sum.inl q)) = kvs.any fun kv => decide (kv.1 = q)
  | [] => rfl
  | kv :: kvs => by
    rw [List.map_cons, List.any_cons, List.any_cons, any_inl q kvs]
    congr 1
    rw [decide_eq_decide]
    exact ⟨fun h => Sum.inl.inj h, fun h => congrArg _ h⟩
theorem putD_inl (q : Int) (v : D) (kvs : List (Int × D)) : putD (kvs.map fun kv => ((Sum.inl kv.1 : Ky), kv.2)) (Sum.inl q) v = (putD kvs q v).map fun kv => (Sum.inl kv.1, kv.2) := by
  unfold putD
  rw [any_inl]
  split
  · rw [List.map_map, List.map_map]
    refine List.map_congr_left fun kv _ => ?_
    show (if (Sum.inl kv.1 : Ky) = Sum.inl q then _ else _) = _
    by_cases h : kv.1 = q
    · rw [if_pos (congrArg _ h)]
      show _ = (Sum.inl (if kv.1 = q then (kv.1, v) else kv).1, (if kv.1 = q then (kv.1, v) else kv).2)
      rw [if_pos h]
    · rw [if_neg fun z => h (Sum.inl.inj z)]
      show _ = (Sum.inl (if kv.1 = q then (kv.1, v) else kv).1, (if kv.1 = q then (kv.1, v) else kv).2)
      rw [if_neg h]
  · rw [List.map_append]; rfl
theorem put_ki {kvs : List (Int × D)} {q : Int} {v : D} (h : kvs.length ≤ 1000000) : putA (dKI kvs) (.int q) v = .ok (dKI (putD kvs q v)) := by
  show grd (decide ((kvs.map _).length < sizeLine)) _ = _
  rw [List.length_map, DL.lt_size h]
  show R.ok (D.dK (putD (kvs.map fun kv => ((Sum.inl kv.1 : Ky), kv.2)) (Sum.inl q) v)) = _
  rw [putD_inl]
  rfl
theorem len_ki {kvs : List (Int × D)} : dLen [dKI kvs] = .ok (.int kvs.length) := by
  show R.ok (D.int ((kvs.map _).length : Nat)) = _
  rw [List.length_map]
def keys (kvs : List (Int × D)) : List Int := kvs.map (·.1)
theorem lk_some {q : Int} : ∀ {kvs : List (Int × D)}, (lkD kvs q).isSome = decide (q ∈ keys kvs)
  | [] => rfl
  | kv :: kvs => by
    have ih := lk_some (q := q) (kvs := kvs)
    unfold lkD at ih ⊢
    unfold keys at ih ⊢
    by_cases h : kv.1 = q
    · rw [List.find?_cons_of_pos (by simp only [h, decide_true]), decide_eq_true (by rw [List.map_cons, h]; exact List.mem_cons_self)]; rfl
    · rw [List.find?_cons_of_neg (by simpa using h), ih, decide_eq_decide, List.map_cons, List.mem_cons]
      exact ⟨.inr, fun z => z.resolve_left fun e => h e.symm⟩
theorem lk_in {kvs : List (Int × D)} {q : Int} : (lkD kvs q).isSome = true ↔ q ∈ keys kvs := by rw [lk_some, decide_eq_true_iff]
theorem keys_put (kvs : List (Int × D)) (q : Int) (v : D) : keys (putD kvs q v) = if q ∈ keys kvs then keys kvs else keys kvs ++ [q] := by
  unfold putD
  have e : (kvs.any fun kv => decide (kv.1 = q)) = decide (q ∈ keys kvs) := by
    rw [← Bool.decide_coe (kvs.any _), decide_eq_decide, List.any_eq_true]
    unfold keys
    simp only [List.mem_map, decide_eq_true_eq]
  rw [e]
  by_cases h : q ∈ keys kvs
  · rw [if_pos (decide_eq_true h), if_pos h]
    unfold keys
    rw [List.map_map]
    refine List.map_congr_left fun kv _ => ?_
    show (if kv.1 = q then (kv.1, v) else kv).1 = kv.1
    split <;> rfl
  · rw [if_neg (by rw [decide_eq_false h]; exact Bool.false_ne_true), if_neg h]
    unfold keys
    rw [List.map_append]; rfl
theorem lk_map (q r : Int) (v : D) : ∀ kvs : List (Int × D), lkD (kvs.map fun kv => if kv.1 = q then (kv.1, v) else kv) r = if r = q then (lkD kvs r).map fun _ => v else lkD kvs r
  | [] => by split <;> rfl
  | kv :: kvs => by
    have ih := lk_map q r v kvs
    unfold lkD at ih ⊢
    rw [List.map_cons]
    by_cases h : kv.1 = r
    · rw [List.find?_cons_of_pos (by show decide ((if kv.1 = q then (kv.1, v) else kv).1 = r) = true; split <;> simp only [h, decide_true]), List.find?_cons_of_pos (by simp only [h, decide_true])]
      subst h
      by_cases e : kv.1 = q
      · rw [if_pos e, if_pos e]; rfl
      · rw [if_neg e, if_neg e]
    · rw [List.find?_cons_of_neg (by show ¬ decide ((if kv.1 = q then (kv.1, v) else kv).1 = r) = true; split <;> simpa using h), List.find?_cons_of_neg (by simpa using h), ih]
theorem lk_app (q r : Int) (v : D) : ∀ kvs : List (Int × D), lkD (kvs ++ [(q, v)]) r = if (lkD kvs r).isSome then lkD kvs r else if r = q then some v else none
  | [] => by
    unfold lkD
    rw [List.nil_append]
    by_cases h : q = r
    · rw [List.find?_cons_of_pos (by simp only [h, decide_true])]; rw [if_pos h.symm]; rfl
    · rw [List.find?_cons_of_neg (by simpa using h)]
      show (none : Option D) = if r = q then some v else none
      rw [if_neg fun z => h z.symm]
  | kv :: kvs => by
    have ih := lk_app q r v kvs
    unfold lkD at ih ⊢
    rw [List.cons_append]
    by_cases h : kv.1 = r
    · rw [List.find?_cons_of_pos (by simp only [h, decide_true]), List.find?_cons_of_pos (by simp only [h, decide_true])]; rfl
    · rw [List.find?_cons_of_neg (by simpa using h), List.find?_cons_of_neg (by simpa using h), ih]
theorem lk_put (kvs : List (Int × D)) (q r : Int) (v : D) : lkD (putD kvs q v) r = if r = q then some v else lkD kvs r := by
  have e : (kvs.any fun kv => decide (kv.1 = q)) = decide (q ∈ keys kvs) := by
    rw [← Bool.decide_coe (kvs.any _), decide_eq_decide, List.any_eq_true]
    unfold keys
    simp only [List.mem_map, decide_eq_true_eq]
  unfold putD
  rw [e]
  by_cases h : q ∈ keys kvs
  · rw [if_pos (decide_eq_true h), lk_map]
    by_cases hr : r = q
    · rw [if_pos hr, if_pos hr]
      have := lk_in.mpr (hr ▸ h : r ∈ keys kvs)
      cases hl : lkD kvs r with
      | none => rw [hl] at this; cases this
      | some _ => rfl
    · rw [if_neg hr, if_neg hr]
  · rw [if_neg (by rw [decide_eq_false h]; exact Bool.false_ne_true), lk_app]
    by_cases hr : r = q
    · rw [if_neg (fun z => h (hr ▸ lk_in.mp z)), if_pos hr, if_pos hr]
    · rw [if_neg hr, if_neg hr]
      cases hl : lkD kvs r <;> rfl
end Di
namespace Sh
open PySem DL Ti Di
theorem nodup_len : ∀ {l m : List Int}, l.Nodup → (∀ x ∈ l, x ∈ m) → l.length ≤ m.length
  | [], _, _, _ => Nat.zero_le _
  | x :: l, m, h, s => by
    have hx := s x List.mem_cons_self
    have hn := List.nodup_cons.mp h
    have := nodup_len (m := m.erase x) hn.2 fun y hy => (List.mem_erase_of_ne (fun (e : y = x) => hn.1 (e ▸ hy))).mpr (s y (List.mem_cons_of_mem _ hy))
    rw [List.length_erase_of_mem hx] at this
    have hp := List.length_pos_of_mem hx
    rw [List.length_cons]
    omega
def U (l : List Int) : Nat := (uniq l).length
theorem U_le {l m : List Int} (s : ∀ x ∈ l, x ∈ m) : U l ≤ m.length := nodup_len (uniq_nodup l) fun x hx => s x (mem_uniq.mp hx)
def num (l : List Int) (x : Int) : Int := ((uniq l).idxOf x : Nat)
def shapeOf (l : List Int) : List Int := l.map (num l)
theorem num_app {l : List Int} {x y : Int} (hx : x ∈ l) : num (l ++ [y]) x = num l x := by
  unfold num
  rw [uniq_snoc]
  split
  · rfl
  · rw [List.idxOf_append, if_pos (mem_uniq.mpr hx)]
theorem num_new {l : List Int} {x : Int} (hx : x ∉ l) : num (l ++ [x]) x = (uniq l).length := by
  unfold num
  rw [uniq_snoc, if_neg hx, List.idxOf_append, if_neg (fun z => hx (mem_uniq.mp z))]
  simp
theorem shape_snoc (l : List Int) (x : Int) : shapeOf (l ++ [x]) = shapeOf l ++ [num (l ++ [x]) x] := by
  unfold shapeOf
  rw [List.map_append]
  congr 1
  exact List.map_congr_left fun y hy => num_app hy
theorem shape_len (l : List Int) : (shapeOf l).length = l.length := List.length_map _
end Sh
namespace De
open PySem DL
inductive NB : Nat → D → Prop
  | non {n : Nat} : NB n .non
  | int {n : Nat} (i : Int) : NB n (.int i)
  | str {n : Nat} (x : Str) : PyData.canLay0 (.str x) = true → NB n (.str x)
  | lst {n : Nat} {ds : List D} : (∀ d ∈ ds, NB n d) → NB (n + 1) (.lst ds)
  | tup {n : Nat} {ds : List D} : (∀ d ∈ ds, NB n d) → NB (n + 1) (.tup ds)
theorem py_all {n : Nat} : ∀ {ds : List D}, (∀ d ∈ ds, ∃ p, py d = some p ∧ p.canLay0 = true ∧ p.depth ≤ n) → ∃ ps, pys ds = some ps ∧ PyData.canLayAll0 ps = true ∧ PyData.depthAll ps ≤ n
  | [], _ => ⟨[], rfl, rfl, Nat.zero_le _⟩
  | d :: ds, h => by
    obtain ⟨p, h1, h2, h3⟩ := h d List.mem_cons_self
    obtain ⟨ps, h4, h5, h6⟩ := py_all fun e he => h e (List.mem_cons_of_mem _ he)
    refine ⟨p :: ps, ?_, ?_, ?_⟩
    · unfold pys; rw [h1, h4]; rfl
    · unfold PyData.canLayAll0; rw [h2, h5]; rfl
    · unfold PyData.depthAll; omega
theorem NB.py {n : Nat} {d : D} (h : NB n d) : ∃ p, DL.py d = some p ∧ p.canLay0 = true ∧ p.depth ≤ n := by
  induction h with
  | non => exact ⟨.none, rfl, by simp [PyData.canLay0], by simp [PyData.depth]⟩
  | int i => exact ⟨.int i, rfl, by simp [PyData.canLay0], by simp [PyData.depth]⟩
  | str x hx => exact ⟨.str x, rfl, hx, by simp [PyData.depth]⟩
  | lst _ ih =>
    obtain ⟨ps, h1, h2, h3⟩ := py_all ih
    refine ⟨.list ps, ?_, ?_, ?_⟩
    · unfold DL.py; rw [h1]; rfl
    · simp [PyData.canLay0, h2]
    · simp [PyData.depth]; omega
  | tup _ ih =>
    obtain ⟨ps, h1, h2, h3⟩ := py_all ih
    refine ⟨.tuple ps, ?_, ?_, ?_⟩
    · unfold DL.py; rw [h1]; rfl
    · simp [PyData.canLay0, h2]
    · simp [PyData.depth]; omega
theorem eqv_all {ds : List D} (ih : ∀ d ∈ ds, ∀ {m : Nat} {e : D} {p q : PyData}, NB m e → DL.py d = some p → DL.py e = some q → (PyData.eqv p q = true ↔ d = e)) : ∀ {m : Nat} {es : List D} {ps qs : List PyData}, (∀ e ∈ es, NB m e) → pys ds = some ps → pys es = some qs → (PyData.eqvAll ps qs = true ↔ ds = es) := by
  induction ds with
  | nil =>
    intro m es ps qs hes hp hq
    cases hp
    cases es with
    | nil => cases hq; exact ⟨fun _ => rfl, fun _ => rfl⟩
    | cons e es =>
      unfold pys at hq
      cases h1 : DL.py e with
      | none => rw [h1] at hq; cases hq
      | some q1 =>
        cases h2 : pys es with
        | none => rw [h1, h2] at hq; cases hq
        | some q2 =>
          rw [h1, h2] at hq; cases hq
          exact ⟨fun h => (by simp [PyData.eqvAll] at h), fun h => nomatch h⟩
  | cons d ds ih2 =>
    intro m es ps qs hes hp hq
    unfold pys at hp
    cases g1 : DL.py d with
    | none => rw [g1] at hp; cases hp
    | some p1 =>
      cases g2 : pys ds with
      | none => rw [g1, g2] at hp; cases hp
      | some p2 =>
        rw [g1, g2] at hp; cases hp
        cases es with
        | nil => cases hq; exact ⟨fun h => (by simp [PyData.eqvAll] at h), fun h => nomatch h⟩
        | cons e es =>
          unfold pys at hq
          cases h1 : DL.py e with
          | none => rw [h1] at hq; cases hq
          | some q1 =>
            cases h2 : pys es with
            | none => rw [h1, h2] at hq; cases hq
            | some q2 =>
              rw [h1, h2] at hq; cases hq
              have a1 := ih d List.mem_cons_self (hes e List.mem_cons_self) g1 h1
              have a2 := ih2 (fun d hd => ih d (List.mem_cons_of_mem _ hd)) (fun e he => hes e (List.mem_cons_of_mem _ he)) g2 h2
              show (PyData.eqvAll (p1 :: p2) (q1 :: q2) = true) ↔ _
              unfold PyData.eqvAll
              rw [Bool.and_eq_true, a1, a2]
              exact ⟨fun ⟨x, y⟩ => by rw [x, y], fun h => by cases h; exact ⟨rfl, rfl⟩⟩
theorem NB.eqv {n : Nat} {d : D} (h : NB n d) : ∀ {m : Nat} {e : D} {p q : PyData}, NB m e → DL.py d = some p → DL.py e = some q → (PyData.eqv p q = true ↔ d = e) := by
  induction h with
  | non =>
    intro m e p q he hp hq
    cases hp
    cases he with
    | non => cases hq; simp [PyData.eqv]
    | int i => cases hq; simp [PyData.eqv]
    | str x hx => cases hq; simp [PyData.eqv]
    | lst h => obtain ⟨ps, h1, -, -⟩ := py_all (fun d hd => (h d hd).py); unfold DL.py at hq; rw [h1] at hq; cases hq; simp [PyData.eqv]
    | tup h => obtain ⟨ps, h1, -, -⟩ := py_all (fun d hd => (h d hd).py); unfold DL.py at hq; rw [h1] at hq; cases hq; simp [PyData.eqv]
  | int i =>
    intro m e p q he hp hq
    cases hp
    cases he with
    | non => cases hq; simp [PyData.eqv]
    | int i => cases hq; simp [PyData.eqv]
    | str x hx => cases hq; simp [PyData.eqv]
    | lst h => obtain ⟨ps, h1, -, -⟩ := py_all (fun d hd => (h d hd).py); unfold DL.py at hq; rw [h1] at hq; cases hq; simp [PyData.eqv]
    | tup h => obtain ⟨ps, h1, -, -⟩ := py_all (fun d hd => (h d hd).py); unfold DL.py at hq; rw [h1] at hq; cases hq; simp [PyData.eqv]
  | str x hx =>
    intro m e p q he hp hq
    cases hp
    cases he with
    | non => cases hq; simp [PyData.eqv]
    | int i => cases hq; simp [PyData.eqv]
    | str x hx => cases hq; simp [PyData.eqv]
    | lst h => obtain ⟨ps, h1, -, -⟩ := py_all (fun d hd => (h d hd).py); unfold DL.py at hq; rw [h1] at hq; cases hq; simp [PyData.eqv]
    | tup h => obtain ⟨ps, h1, -, -⟩ := py_all (fun d hd => (h d hd).py); unfold DL.py at hq; rw [h1] at hq; cases hq; simp [PyData.eqv]
  | lst hd ih =>
    intro m e p q he hp hq
    obtain ⟨ps, h1, -, -⟩ := py_all (fun d h => (hd d h).py)
    unfold DL.py at hp; rw [h1] at hp; cases hp
    cases he with
    | non => cases hq; simp [PyData.eqv]
    | int i => cases hq; simp [PyData.eqv]
    | str x hx => cases hq; simp [PyData.eqv]
    | lst h =>
      obtain ⟨qs, h2, -, -⟩ := py_all (fun d hd => (h d hd).py)
      unfold DL.py at hq; rw [h2] at hq; cases hq
      have := eqv_all (fun d hd {m e p q} => ih d hd) h h1 h2
      show PyData.eqv (.list ps) (.list qs) = true ↔ _
      unfold PyData.eqv
      rw [this]
      exact ⟨fun h => by rw [h], fun h => by cases h; rfl⟩
    | tup h => obtain ⟨ps, h1, -, -⟩ := py_all (fun d hd => (h d hd).py); unfold DL.py at hq; rw [h1] at hq; cases hq; simp [PyData.eqv]
  | tup hd ih =>
    intro m e p q he hp hq
    obtain ⟨ps, h1, -, -⟩ := py_all (fun d h => (hd d h).py)
    unfold DL.py at hp; rw [h1] at hp; cases hp
    cases he with
    | non => cases hq; simp [PyData.eqv]
    | int i => cases hq; simp [PyData.eqv]
    | str x hx => cases hq; simp [PyData.eqv]
    | lst h => obtain ⟨ps, h1, -, -⟩ := py_all (fun d hd => (h d hd).py); unfold DL.py at hq; rw [h1] at hq; cases hq; simp [PyData.eqv]
    | tup h =>
      obtain ⟨qs, h2, -, -⟩ := py_all (fun d hd => (h d hd).py)
      unfold DL.py at hq; rw [h2] at hq; cases hq
      have := eqv_all (fun d hd {m e p q} => ih d hd) h h1 h2
      show PyData.eqv (.tuple ps) (.tuple qs) = true ↔ _
      unfold PyData.eqv
      rw [this]
      exact ⟨fun h => by rw [h], fun h => by cases h; rfl⟩
theorem deep_eq {neg : Bool} {n m : Nat} {a b : D} (ha : NB n a) (hb : NB m b) (hn : n ≤ 60) (hm : m ≤ 60) {P : Prop} [Decidable P] (hP : a = b ↔ P) : deepEq neg a b = .ok (.bl (xorB neg (decide P))) := by
  obtain ⟨p, h1, h2, h3⟩ := ha.py
  obtain ⟨q, g1, g2, g3⟩ := hb.py
  have e := ha.eqv hb h1 g1
  have e2 : PyData.eqv p q = decide P := by
    rw [← Bool.decide_coe (PyData.eqv p q), decide_eq_decide, e, hP]
  unfold deepEq
  rw [h1, g1]
  show grd (SeqAt.shaped p && SeqAt.shaped q) (R.ok (D.bl (xorB neg (PyData.eqv p q)))) = _
  have s1 : SeqAt.shaped p = true := by unfold SeqAt.shaped; rw [h2, decide_eq_true (by omega)]; rfl
  have s2 : SeqAt.shaped q = true := by unfold SeqAt.shaped; rw [g2, decide_eq_true (by omega)]; rfl
  rw [s1, s2, e2]; rfl
theorem eq_lsts {neg : Bool} {n m : Nat} {xs ys : List D} (ha : NB n (.lst xs)) (hb : NB m (.lst ys)) (hn : n ≤ 60) (hm : m ≤ 60) {P : Prop} [Decidable P] (hP : xs = ys ↔ P) : dEq neg (.lst xs) (.lst ys) = .ok (.bl (xorB neg (decide P))) :=
  deep_eq ha hb hn hm ⟨fun h => hP.mp (by cases h; rfl), fun h => by rw [hP.mpr h]⟩
theorem eq_self {neg : Bool} {n : Nat} {xs : List D} (ha : NB n (.lst xs)) (hn : n ≤ 60) : dEq neg (.lst xs) (.lst xs) = .ok (.bl (xorB neg true)) := by
  have := eq_lsts (neg := neg) ha ha hn hn (P := True) ⟨fun _ => trivial, fun _ => rfl⟩
  rw [decide_true] at this
  exact this
theorem NB.ints {n : Nat} (ns : List Int) : NB (n + 1) (.lst (ns.map .int)) := .lst fun d hd => by
  obtain ⟨i, _, rfl⟩ := List.mem_map.mp hd
  exact .int i
end De
namespace Gw
open PySem DL Ti Di Sh De
theorem snoc_ind {P : List Int → Prop} (h0 : P []) (hs : ∀ l x, P l → P (l ++ [x])) : ∀ l, P l := fun l => by
  have h : ∀ r : List Int, P r.reverse := fun r => by
    induction r with
    | nil => exact h0
    | cons x r ih => rw [List.reverse_cons]; exact hs _ _ ih
  have := h l.reverse
  rwa [List.reverse_reverse] at this
def lI (l : List Int) : D := .lst (l.map .int)
def W (l : List Int) : Int := maxI l (-1) + 1
theorem maxI_snoc (l : List Int) (x : Int) (hx : -1 ≤ x) : maxI (l ++ [x]) (-1) = max (maxI l (-1)) x := by
  cases l with
  | nil =>
    show x = max (-1) x
    omega
  | cons a l =>
    show (l ++ [x]).foldl max a = _
    rw [List.foldl_append]; rfl
theorem num_lt {l : List Int} {x : Int} (h : x ∈ l) : num l x < (U l : Int) ∧ 0 ≤ num l x := by
  have := List.idxOf_lt_length_of_mem (mem_uniq.mpr h)
  unfold num U
  omega
theorem W_shape : ∀ l : List Int, W (shapeOf l) = (U l : Int) := by
  refine snoc_ind rfl fun l x ih => ?_
  unfold W at ih ⊢
  rw [shape_snoc]
  unfold U at ih ⊢
  rw [uniq_snoc]
  by_cases hm : x ∈ l
  · obtain ⟨h1, h2⟩ := num_lt hm
    unfold U at h1
    rw [num_app hm, maxI_snoc _ _ (by omega), if_pos hm]
    omega
  · rw [num_new hm, maxI_snoc _ _ (by omega), if_neg hm, List.length_append, List.length_singleton]
    omega
def grownL (l : List Int) : List (List Int) := (List.range (W l + 1).toNat).map fun k : Nat => l ++ [(k : Int)]
theorem width_eq (l : List Int) : ∃ o, Fn.width_9fdd [.lst (l.map .int)] = .ok (o, .int (W l)) := by
  unfold Fn.width_9fdd; rw [DL.ap_body (by rfl)]; unfold Fn.width_9fdd_g
  walk_at "dl"
  exact ⟨_, rfl⟩
theorem grown_eq (l : List Int) (hl : l.length ≤ 1000) (h0 : 0 ≤ W l) (h1 : W l ≤ 1000) : ∃ o, Fn.grown_0f21 [.lst (l.map .int)] = .ok (o, .lst ((grownL l).map lI)) := by
  obtain ⟨o, e⟩ := width_eq l
  unfold Fn.grown_0f21; rw [DL.ap_body (by rfl)]; unfold Fn.grown_0f21_g
  walk_at "dl"
  rw [DL.callE_of e]
  walk_at "dl"
  rw [DL.inR_small (by omega) (by omega)]
  walk_at "dl"
  rw [DL.lc_is (zs := (grownL l).map lI) (by rw [List.length_map, List.length_range]; omega) (by
    have := lc_fmap (g := gSet 1) (t := tYesD) (f := Fn.grown_0f21_e1) (ρ := [some (false, .lst (l.map .int)), none]) (fun i : Nat => D.int (0 + (i : Int))) (fun k : Nat => lI (l ++ [(k : Int)])) (fun _ => true) (List.range (W l + 1).toNat) (fun k hk => by
      refine lc_one rfl rfl fun h => ?_
      unfold Fn.grown_0f21_e1
      walk_at "dl"
      rw [DL.small_of (by omega)]
      walk_at "dl"
      unfold lI
      rw [List.map_append, Int.zero_add]; rfl)
    rw [List.filter_eq_self.mpr (fun _ _ => rfl)] at this
    unfold grownL
    rw [List.map_map]
    exact this)]
  walk_at "dl"
  exact ⟨_, rfl⟩
theorem pys_ints : ∀ l : List Int, pys (l.map .int) = some (l.map PyData.int)
  | [] => rfl
  | x :: l => by
    show (py (.int x)).bind (fun p => (pys (l.map .int)).map fun ps => p :: ps) = _
    rw [pys_ints l]; rfl
theorem eqv_ints : ∀ l m : List Int, PyData.eqvAll (l.map .int) (m.map .int) = decide (l = m)
  | [], [] => rfl
  | [], _ :: _ => rfl
  | _ :: _, [] => rfl
  | x :: l, y :: m => by
    show (PyData.eqv (.int x) (.int y) && PyData.eqvAll (l.map .int) (m.map .int)) = _
    rw [eqv_ints l m]
    show ((x == y) && _) = _
    rw [Bool.eq_iff_iff]
    simp
end Gw
namespace Fn
open PySem DL
end Fn
namespace Br
open PySem DL Ti Di
def hereOf (ps : List Int) (ks : List Nat) : List Nat := ks.filter fun k => decide ((k : Int) < ps.length)
def breaksB (ps : List Int) (w : Str) (l : Int) (ks : List Nat) : Bool :=
  if w = most then decide (l < ((uniq (vals ps (hereOf ps ks))).length : Int)) else decide (((uniq (vals ps (hereOf ps ks))).length : Int) + (ks.length - (hereOf ps ks).length) < l)
theorem here_snoc (ps : List Int) (pre : List Nat) (k : Nat) : hereOf ps (pre ++ [k]) = if (k : Int) < ps.length then hereOf ps pre ++ [k] else hereOf ps pre := by
  unfold hereOf
  rw [List.filter_append]
  by_cases h : (k : Int) < ps.length
  · rw [if_pos h]
    simp only [List.filter_cons, List.filter_nil, h, decide_true, if_true]
  · rw [if_neg h]
    simp only [List.filter_cons, List.filter_nil, h, decide_false, if_neg Bool.false_ne_true, List.append_nil]
theorem here_len (ps : List Int) (ks : List Nat) : (hereOf ps ks).length ≤ ks.length := List.length_filter_le _ _
theorem here_lt (ps : List Int) (ks : List Nat) : ∀ k ∈ hereOf ps ks, k < ps.length := fun k hk => by
  have := of_decide_eq_true (List.mem_filter.mp hk).2
  omega
theorem breaks_eq (ps : List Int) (w : Str) (l : Int) (ks : List Nat) (hl : ks.length ≤ 1000) : ∃ o, Fn.breaks_a702 [.lst (ps.map .int), .tup [.str w, .int l, .tup (ks.map kI)]] = .ok (o, .bl (breaksB ps w l ks)) := by
  unfold Fn.breaks_a702; rw [DL.ap_body (by rfl)]; unfold Fn.breaks_a702_g
  walk_at "dl"
  obtain ⟨ρ', h1, kvs, z, h2, h3⟩ := DL.loop_at (g := gSet 4) (gb := Fn.breaks_a702_b1) kI ks
    (fun i ρ => ∃ kvs z, ρ = [some (false, .lst (ps.map .int)), some (false, .tup [.str w, .int l, .tup (ks.map kI)]), some (true, dKI kvs), some (false, .int ((i : Int) - (hereOf ps (ks.take i)).length)), z, some (false, .str w), some (false, .int l), some (false, .tup (ks.map kI))] ∧ keys kvs = uniq (vals ps (hereOf ps (ks.take i)))) _ ⟨[], none, rfl, rfl⟩ (fun i a ρ ha ⟨kvs, z, hρ, hk⟩ => by
      subst hρ
      have hi := DL.at_lt ha
      refine ⟨_, rfl, ?_⟩
      have ht : ks.take (i + 1) = ks.take i ++ [a] := by
        rw [List.take_succ_eq_append_getElem hi]
        rw [List.getElem?_eq_getElem hi] at ha
        cases ha; rfl
      rw [ht, here_snoc]
      unfold Fn.breaks_a702_b1
      rw [show kI a = .int (a : Int) from rfl]
      walk_at "dl"
      have hkl : kvs.length ≤ 1000 := by
        have e1 : kvs.length = (keys kvs).length := by unfold keys; rw [List.length_map]
        have e2 := uniq_len (vals ps (hereOf ps (ks.take i)))
        have e3 : (vals ps (hereOf ps (ks.take i))).length = (hereOf ps (ks.take i)).length := by unfold vals; rw [List.length_map]
        have e4 := here_len ps (ks.take i)
        rw [List.length_take] at e4
        rw [hk] at e1
        omega
      by_cases h : (a : Int) < ps.length
      · rw [decide_eq_true h, if_pos h]
        walk_at "dl"
        rw [look ps a (by omega)]
        walk_at "dl"
        rw [put_ki (by omega)]
        walk_at "dl"
        rw [show ((i + 1 : Nat) : Int) - (((hereOf ps (ks.take i)).length + 1 : Nat) : Int) = (i : Int) - ((hereOf ps (ks.take i)).length : Nat) by omega]
        refine ⟨_, rfl, _, _, rfl, ?_⟩
        · rw [keys_put, hk]
          unfold vals
          rw [List.map_append]
          show _ = uniq (_ ++ [ps.getD a 0])
          rw [uniq_snoc]
          by_cases hm : ps.getD a 0 ∈ (hereOf ps (ks.take i)).map fun k => ps.getD k 0
          · rw [if_pos hm, if_pos (mem_uniq.mpr hm)]
          · rw [if_neg hm, if_neg (fun z => hm (mem_uniq.mp z))]
      · rw [decide_eq_false h, if_neg h]
        walk_at "dl"
        rw [show ((i + 1 : Nat) : Int) - ((hereOf ps (ks.take i)).length : Nat) = (i : Int) - ((hereOf ps (ks.take i)).length : Nat) + 1 by omega]
        exact ⟨_, rfl, _, _, rfl, hk⟩)
  have e0 : (([] : List (Int × D)).length : Int) = 0 := rfl
  erw [h1]
  subst h2
  walk_at "dl"
  rw [List.take_length] at h3
  have hn : kvs.length = (uniq (vals ps (hereOf ps ks))).length := by rw [← h3]; unfold keys; rw [List.length_map]
  rw [List.take_length]
  unfold breaksB
  by_cases h : w = most
  · rw [decide_eq_true (show w = Str.ofString "most" from h), if_pos h]
    walk_at "dl"
    rw [len_ki]
    walk_at "dl"
    rw [hn]
    exact ⟨_, rfl⟩
  · rw [decide_eq_false (show ¬ w = Str.ofString "most" from h), if_neg h]
    walk_at "dl"
    rw [len_ki]
    walk_at "dl"
    rw [hn]
    exact ⟨_, rfl⟩
theorem law_breaks_eq (ps : List Int) (w : Str) (l : Int) (ks : List Nat) (hl : ks.length ≤ 1000) : ∃ o, Fn.law_breaks_a0c3 [.lst (ps.map .int), .tup [.str w, .int l, .tup (ks.map kI)]] = .ok (o, .bl (breaksB ps w l ks)) := by
  unfold Fn.law_breaks_a0c3; rw [DL.ap_body (by rfl)]; unfold Fn.law_breaks_a0c3_g
  walk_at "dl"
  rw [DL.lc_is (zs := (hereOf ps ks).map kI) (by rw [List.length_map]; omega) (by
    refine lc_filter kI _ _ fun k hk => ?_
    have ht : Fn.law_breaks_a0c3_t2 [some (false, D.lst (ps.map .int)), some (false, D.tup [.str w, .int l, .tup (ks.map kI)]), none, none, some (false, kI k)] = .ok (decide ((k : Int) < ps.length)) := by
      unfold Fn.law_breaks_a0c3_t2 kI
      walk_at "dl"
    cases h : decide ((k : Int) < ps.length) with
    | true =>
      rw [h] at ht
      exact DL.lcS_t rfl ht rfl
    | false =>
      rw [h] at ht
      exact DL.lcS_f rfl ht)]
  walk_at "dl"
  obtain ⟨o, h1⟩ := unlike_eq seq_lst ps (hereOf ps ks) (here_lt ps ks) (by have := here_len ps ks; omega)
  rw [DL.callE_of h1]
  walk_at "dl"
  unfold breaksB
  by_cases h : w = most
  · rw [decide_eq_true (show w = Str.ofString "most" from h), if_pos h]
    walk_at "dl"
    exact ⟨_, rfl⟩
  · rw [decide_eq_false (show ¬ w = Str.ofString "most" from h), if_neg h]
    walk_at "dl"
    exact ⟨true, congrArg (fun b => R.ok (true, D.bl b)) (by rw [decide_eq_decide]; omega)⟩
end Br
namespace Pt
open PySem DL Ti Di Sh De Gw
def IsP (ps : List Int) : Prop := shapeOf ps = ps
theorem pt_num {ps : List Int} (h : IsP ps) {j : Int} (hj : j ∈ ps) : num ps j = j := by
  have h : shapeOf ps = ps := h
  unfold shapeOf at h
  obtain ⟨i, hi, e⟩ := List.getElem_of_mem hj
  have h2 : (ps.map (num ps))[i]? = ps[i]? := by rw [h]
  rw [List.getElem?_map, List.getElem?_eq_getElem hi] at h2
  injection h2 with h2
  rw [e] at h2
  exact h2
theorem pt_mem {ps : List Int} (h : IsP ps) {j : Int} (h0 : 0 ≤ j) (h1 : j < (U ps : Int)) : j ∈ ps := by
  have hlt : j.toNat < (uniq ps).length := by unfold U at h1; omega
  have hy : (uniq ps)[j.toNat] ∈ ps := mem_uniq.mp (List.getElem_mem hlt)
  have e := pt_num h hy
  have e2 : num ps (uniq ps)[j.toNat] = (j.toNat : Int) := by
    unfold num
    have h3 := List.idxOf_lt_length_of_mem (List.getElem_mem hlt)
    have h4 := (List.getElem_inj (uniq_nodup ps)).mp (List.getElem_idxOf h3)
    rw [h4]
  rw [e2] at e
  have : (uniq ps)[j.toNat] = j := by rw [← e]; omega
  rw [this] at hy
  exact hy
theorem pt_W {ps : List Int} (h : IsP ps) : W ps = (U ps : Int) := by
  have h2 : shapeOf ps = ps := h
  have := W_shape ps
  rwa [h2] at this
theorem pt_lt {ps : List Int} (h : IsP ps) {j : Int} (hj : j ∈ ps) : 0 ≤ j ∧ j < (U ps : Int) := by
  have e := pt_num h hj
  obtain ⟨h1, h2⟩ := num_lt hj
  omega
theorem U_snoc (ps : List Int) (j : Int) : U (ps ++ [j]) = if j ∈ ps then U ps else U ps + 1 := by
  unfold U
  rw [uniq_snoc]
  split
  · rfl
  · rw [List.length_append]; rfl
theorem pt_new {ps : List Int} (h : IsP ps) {j : Int} (h0 : 0 ≤ j) (h1 : j ≤ (U ps : Int)) : (j ∈ ps ↔ j < (U ps : Int)) := ⟨fun hj => (pt_lt h hj).2, fun hj => pt_mem h h0 hj⟩
theorem pt_nil : IsP [] := rfl
end Pt
namespace Fn
open PySem DL
end Fn
namespace Nu
open PySem DL Ti
theorem whole_eq (n : Int) : ∃ o, Fn.law_whole_9e39 [.int n] = .ok (o, .bl true) := by
  unfold Fn.law_whole_9e39; rw [DL.ap_body (by rfl)]; unfold Fn.law_whole_9e39_g
  walk_at "dl"
  exact ⟨_, rfl⟩
end Nu
namespace Bo
open PySem DL Ti
abbrev Tie := Str × Int × List Nat
def dT (t : Tie) : D := .tup [.str t.1, .int t.2.1, .tup (t.2.2.map kI)]
structure TieOk (m : Nat) (t : Tie) : Prop where
  word : t.1 = most ∨ t.1 = least
  lo : 1 ≤ t.2.1
  hi : t.2.1 ≤ 6
  ne : t.2.2 ≠ []
  sub : t.2.2.Sublist (List.range m)
theorem TieOk.lt {m : Nat} {t : Tie} (h : TieOk m t) : ∀ k ∈ t.2.2, k < m := fun k hk => List.mem_range.mp (h.sub.subset hk)
theorem TieOk.nd {m : Nat} {t : Tie} (h : TieOk m t) : t.2.2.Nodup := h.sub.nodup List.nodup_range
theorem TieOk.len {m : Nat} {t : Tie} (h : TieOk m t) : t.2.2.length ≤ m := by
  have := h.sub.length_le
  rwa [List.length_range] at this
theorem bit_some (N : Int) (m : Nat) (h1 : 1 ≤ N) (hm : 1 ≤ m) (h6 : m ≤ 6) (h2 : N < 2 ^ m) : ∃ k : Nat, k < m ∧ N / 2 ^ k % 2 = 1 := by
  by_cases h : ∃ k : Nat, k < m ∧ N / 2 ^ k % 2 = 1
  · exact h
  · exfalso
    have g : ∀ k : Nat, k < m → ¬ N / 2 ^ k % 2 = 1 := fun k hk e => h ⟨k, hk, e⟩
    rcases (by omega : m = 1 ∨ m = 2 ∨ m = 3 ∨ m = 4 ∨ m = 5 ∨ m = 6) with e | e | e | e | e | e <;> subst e
    · have g0 := g 0 (by omega)
      omega
    · have g0 := g 0 (by omega)
      have g1 := g 1 (by omega)
      omega
    · have g0 := g 0 (by omega)
      have g1 := g 1 (by omega)
      have g2 := g 2 (by omega)
      omega
    · have g0 := g 0 (by omega)
      have g1 := g 1 (by omega)
      have g2 := g 2 (by omega)
      have g3 := g 3 (by omega)
      omega
    · have g0 := g 0 (by omega)
      have g1 := g 1 (by omega)
      have g2 := g 2 (by omega)
      have g3 := g 3 (by omega)
      have g4 := g 4 (by omega)
      omega
    · have g0 := g 0 (by omega)
      have g1 := g 1 (by omega)
      have g2 := g 2 (by omega)
      have g3 := g 3 (by omega)
      have g4 := g 4 (by omega)
      have g5 := g 5 (by omega)
      omega
theorem bond_eq (c m : Int) (h1 : 1 ≤ m) (h6 : m ≤ 6) : ∃ (o : Bool) (t : Tie), Fn.law_bond_8e48 [.int c, .int m] = .ok (o, dT t) ∧ TieOk m.toNat t := by
  unfold Fn.law_bond_8e48; rw [DL.ap_body (by rfl)]; unfold Fn.law_bond_8e48_g
  walk_at "dl"
  have hb : ∃ b : Int, 0 < b ∧ b = 2 ^ m.toNat - 1 ∧ dIxA (D.lst [.int 1, .int 3, .int 7, .int 15, .int 31, .int 63]) (.int (m - 1)) = .ok (.int b) := by
    rcases (by omega : m = 1 ∨ m = 2 ∨ m = 3 ∨ m = 4 ∨ m = 5 ∨ m = 6) with h | h | h | h | h | h <;> subst h
    · exact ⟨1, by omega, by decide, rfl⟩
    · exact ⟨3, by omega, by decide, rfl⟩
    · exact ⟨7, by omega, by decide, rfl⟩
    · exact ⟨15, by omega, by decide, rfl⟩
    · exact ⟨31, by omega, by decide, rfl⟩
    · exact ⟨63, by omega, by decide, rfl⟩
  obtain ⟨b, hb, hb3, hb2⟩ := hb
  rw [hb2]
  walk_at "dl"
  rw [DL.mod_pos hb]
  walk_at "dl"
  have q1 := Int.emod_nonneg (c / 12) (show b ≠ 0 by omega)
  have q2 := Int.emod_lt_of_pos (c / 12) hb
  generalize c / 12 % b = M at q1 q2 ⊢
  rw [inR_small (by omega) (by omega)]
  walk_at "dl"
  have hL : ∀ k : Nat, k < m.toNat → dIxA (D.lst [.int 1, .int 2, .int 4, .int 8, .int 16, .int 32]) (.int (k : Int)) = .ok (.int (2 ^ k)) := by
    intro k hk
    rcases (by omega : k = 0 ∨ k = 1 ∨ k = 2 ∨ k = 3 ∨ k = 4 ∨ k = 5) with h | h | h | h | h | h <;> subst h <;> rfl
  have h2k : ∀ k : Nat, k < m.toNat → (0 : Int) < 2 ^ k ∧ (2 : Int) ^ k < 2 ^ 200 := by
    intro k hk
    rcases (by omega : k = 0 ∨ k = 1 ∨ k = 2 ∨ k = 3 ∨ k = 4 ∨ k = 5) with h | h | h | h | h | h <;> subst h <;> omega
  let p : Nat → Bool := fun k => decide ((1 + M) / 2 ^ k % 2 = 1)
  have hz : (fun (i : Nat) => D.int (0 + (i : Int))) = kI := by funext i; unfold kI; rw [Int.zero_add]
  rw [hz]
  rw [DL.lc_is (zs := ((List.range m.toNat).filter p).map kI) (by rw [List.length_map, List.length_range]; omega) (by
    refine lc_filter kI p _ fun k hk => ?_
    have hk2 := List.mem_range.mp hk
    obtain ⟨hq, hq2⟩ := h2k k hk2
    have ht : Fn.law_bond_8e48_t2 [some (false, D.int c), some (false, D.int m), some (false, D.int (1 + M)), none, none, some (false, kI k)] = .ok (p k) := by
      unfold Fn.law_bond_8e48_t2 kI
      walk_at "dl"
      rw [hL k hk2]
      walk_at "dl"
      rw [DL.div_pos hq hq2]
      walk_at "dl"
      rfl
    cases h : p k with
    | true =>
      rw [h] at ht
      exact DL.lcS_t rfl ht rfl
    | false =>
      rw [h] at ht
      exact DL.lcS_f rfl ht)]
  walk_at "dl"
  have hne : (List.range m.toNat).filter p ≠ [] := fun he => by
    obtain ⟨k, hk, e⟩ := bit_some (1 + M) m.toNat (by omega) (by omega) (by omega) (by omega)
    have : k ∈ (List.range m.toNat).filter p := List.mem_filter.mpr ⟨List.mem_range.mpr hk, decide_eq_true e⟩
    rw [he] at this
    cases this
  have hsub : ((List.range m.toNat).filter p).Sublist (List.range m.toNat) := List.filter_sublist
  generalize (List.range m.toNat).filter p = ks at hne hsub ⊢
  have hpos : 0 < (ks.length : Int) := by
    have := List.length_pos_iff.mpr hne
    omega
  have hkl : (ks.length : Int) ≤ 6 := by
    have := hsub.length_le
    rw [List.length_range] at this
    omega
  have hw : ∃ w, dIxA (D.lst [D.str (Str.ofString "most"), D.str (Str.ofString "least")]) (D.int (c % 2)) = .ok (.str w) ∧ (w = most ∨ w = least) := by
    rcases (by omega : c % 2 = 0 ∨ c % 2 = 1) with h | h <;> rw [h]
    · exact ⟨most, rfl, .inl rfl⟩
    · exact ⟨least, rfl, .inr rfl⟩
  obtain ⟨w, hw, hw2⟩ := hw
  by_cases hc : (0 : Int) < c / 1000 % 8
  · rw [decide_eq_true hc]
    walk_at "dl"
    rw [DL.mod_pos hpos]
    walk_at "dl"
    have q3 := Int.emod_nonneg (1 + c / 2 % 6 - 1) (show (ks.length : Int) ≠ 0 by omega)
    have q4 := Int.emod_lt_of_pos (1 + c / 2 % 6 - 1) hpos
    generalize (1 + c / 2 % 6 - 1) % (ks.length : Int) = r at q3 q4 ⊢
    rw [hw]
    walk_at "dl"
    exact ⟨_, (w, 1 + r, ks), rfl, hw2, show 1 ≤ 1 + r by omega, show 1 + r ≤ 6 by omega, hne, hsub⟩
  · rw [decide_eq_false hc]
    walk_at "dl"
    rw [hw]
    walk_at "dl"
    exact ⟨_, (w, 1 + c / 2 % 6, ks), rfl, hw2, show 1 ≤ 1 + c / 2 % 6 by omega, show 1 + c / 2 % 6 ≤ 6 by omega, hne, hsub⟩
end Bo
namespace Fn
open PySem DL
end Fn
namespace Ce
open PySem DL Ti
def cellOf (ns : List Int) (k : Int) : Int :=
  if k < ns.length then ns.getD k.toNat 0
  else if ns = [] then k * k * 7919 + 13 * k
  else (ns.getD (k % ns.length).toNat 0 + k * k * 7919 + 1) * 48271 % 2147483647
theorem cell_eq (ns : List Int) (k : Int) (h0 : 0 ≤ k) (h1 : k ≤ 1000000) : ∃ o, Fn.law_cell_547d [.scr ns, .int k] = .ok (o, .int (cellOf ns k)) := by
  unfold Fn.law_cell_547d; rw [DL.ap_body (by rfl)]; unfold Fn.law_cell_547d_g
  walk_at "dl"
  unfold cellOf
  by_cases h : k < ns.length
  · rw [decide_eq_true h, if_pos h]
    walk_at "dl"
    rw [DL.ixA_scrD h0 h]
    walk_at "dl"
    exact ⟨_, rfl⟩
  · rw [decide_eq_false h, if_neg h]
    walk_at "dl"
    by_cases he : ns = []
    · rw [decide_eq_true he, if_pos he]
      walk_at "dl"
      rw [DL.mul_r (by omega) (by omega)]
      walk_at "dl"
      rw [DL.mul_r (by omega) (by omega)]
      walk_at "dl"
      rw [DL.mul_l (by omega) (by omega)]
      walk_at "dl"
      exact ⟨_, rfl⟩
    · rw [decide_eq_false he, if_neg he]
      have hp : 0 < ns.length := List.length_pos_iff.mpr he
      have q1 := Int.emod_nonneg k (show (ns.length : Int) ≠ 0 by omega)
      have q2 := Int.emod_lt_of_pos k (show (0 : Int) < ns.length by omega)
      walk_at "dl"
      rw [DL.mod_pos (by omega)]
      walk_at "dl"
      rw [DL.ixA_scrD q1 q2]
      walk_at "dl"
      rw [DL.mul_r (by omega) (by omega)]
      walk_at "dl"
      rw [DL.mul_r (by omega) (by omega)]
      walk_at "dl"
      rw [DL.mul_r (by omega) (by omega)]
      walk_at "dl"
      exact ⟨_, rfl⟩
end Ce
namespace Tr
open PySem DL Ti Sh
def nx (b : Int) : Int := b % 1000000000000000000 + 1
def itN : Nat → Int → Int
  | 0, b => b
  | n + 1, b => itN n (nx b)
def Bg (b : Int) : Prop := 1 ≤ b ∧ b ≤ 1000000000000000000
theorem nx_bg (b : Int) : Bg (nx b) := by unfold Bg nx; omega
theorem itN_eq : ∀ (n : Nat) (b : Int), Bg b → n ≤ 100000 → itN n b = (b - 1 + n) % 1000000000000000000 + 1
  | 0, b, h, _ => by
    show b = _
    unfold Bg at h
    omega
  | n + 1, b, h, hn => by
    show itN n (nx b) = _
    rw [itN_eq n (nx b) (nx_bg b) (by omega)]
    unfold Bg at h
    unfold nx
    omega
theorem itN_inj {b : Int} (h : Bg b) {i j : Nat} (hi : i ≤ 100000) (hj : j ≤ 100000) (e : itN i b = itN j b) : i = j := by
  rw [itN_eq i b h hi, itN_eq j b h hj] at e
  unfold Bg at h
  omega
theorem free {b : Int} (h : Bg b) (l : List Int) (hl : l.length ≤ 1000) : ∃ i, i ≤ l.length ∧ itN i b ∉ l := by
  by_cases hc : ∃ i, i ≤ l.length ∧ itN i b ∉ l
  · exact hc
  · exfalso
    have := nodup_len (l := (List.range (l.length + 1)).map fun i => itN i b) (m := l) (by
      unfold List.Nodup
      rw [List.pairwise_map]
      refine List.nodup_range.imp_of_mem fun ha hb hne e => hne ?_
      rw [List.mem_range] at ha hb
      exact itN_inj h (by omega) (by omega) e) fun x hx => by
        obtain ⟨i, hi, rfl⟩ := List.mem_map.mp hx
        rw [List.mem_range] at hi
        by_cases hm : itN i b ∈ l
        · exact hm
        · exact absurd ⟨i, by omega, hm⟩ hc
    rw [List.length_map, List.length_range] at this
    omega
end Tr
namespace Me
open PySem DL Ti Di Sh Ce Tr
theorem srtS_lt (ns : List Int) : (srtS ns).Pairwise (· < ·) := by
  unfold srtS
  have h1 := srt_sorted (uniq ns)
  have h2 : (srt (uniq ns)).Nodup := (srt_perm (uniq ns)).nodup_iff.mpr (uniq_nodup ns)
  refine List.Pairwise.imp₂ ?_ h1 h2
  intro a b h3 h4
  omega
theorem mem_srtS {ns : List Int} {k : Int} : k ∈ srtS ns ↔ k ∈ ns := by
  unfold srtS
  rw [(srt_perm (uniq ns)).mem_iff, mem_uniq]
theorem srtS_len (ns : List Int) : (srtS ns).length ≤ ns.length := by
  unfold srtS
  rw [(srt_perm (uniq ns)).length_eq]
  exact uniq_len ns
theorem menu_eq (ns : List Int) (at_ wide : Int) (h0 : 0 ≤ at_) (h1 : at_ ≤ 1000) (h2 : 0 ≤ wide) (h3 : wide ≤ 50) : ∃ (o : Bool) (menu : List Int), Fn.law_menu_2938 [.scr ns, .int at_, .int wide] = .ok (o, .lst (menu.map .int)) ∧ menu.Pairwise (· < ·) ∧ (∀ b ∈ menu, Bg b) ∧ (menu.length : Int) ≤ wide ∧ (1 ≤ wide → menu ≠ []) := by
  unfold Fn.law_menu_2938; rw [DL.ap_body (by rfl)]; unfold Fn.law_menu_2938_g
  walk_at "dl"
  rw [DL.inR_small (by omega) (by omega)]
  walk_at "dl"
  obtain ⟨ρ', e1, bs, z, y, hl, hb, e2⟩ := DL.loop_at (g := gSet 4) (gb := Fn.law_menu_2938_b1) (fun i : Nat => D.int (0 + (i : Int))) (List.range wide.toNat)
    (fun i ρ => ∃ (bs : List Int) (z y : DL.Slot), bs.length = i ∧ (∀ b ∈ bs, Bg b) ∧ ρ = [some (false, .scr ns), some (false, .int at_), some (false, .int wide), some (true, .lst (bs.map .int)), z, y]) _ ⟨[], none, none, rfl, (fun _ h => nomatch h), rfl⟩ (fun i a ρ ha ⟨bs, z, y, hl, hb, hρ⟩ => by
      subst hρ
      have hi := DL.at_lt ha
      rw [List.getElem?_eq_getElem hi, List.getElem_range] at ha
      rw [List.length_range] at hi
      cases ha
      refine ⟨_, rfl, ?_⟩
      obtain ⟨o2, e2⟩ := cell_eq ns (at_ + (0 + (i : Int))) (by omega) (by omega)
      unfold Fn.law_menu_2938_b1
      walk_at "dl"
      rw [DL.callE_of e2]
      walk_at "dl"
      generalize cellOf ns (at_ + (0 + (i : Int))) = c
      have hw : ∃ w : Int, dIxA (D.lst [D.int 7, D.int 30, D.int ((10 : Int) ^ (18 : Int).toNat)]) (D.int (c % 3)) = .ok (.int w) ∧ 1 ≤ w ∧ w ≤ 1000000000000000000 := by
        rcases (by omega : c % 3 = 0 ∨ c % 3 = 1 ∨ c % 3 = 2) with h | h | h <;> rw [h]
        · exact ⟨7, rfl, by omega, by omega⟩
        · exact ⟨30, rfl, by omega, by omega⟩
        · exact ⟨1000000000000000000, by rfl, by omega, by omega⟩
      obtain ⟨w, hw, w1, w2⟩ := hw
      first | rw [hw] | erw [hw]
      walk_at "dl"
      rw [DL.mod_pos (by omega)]
      walk_at "dl"
      have q1 := Int.emod_nonneg (c / 3) (show w ≠ 0 by omega)
      have q2 := Int.emod_lt_of_pos (c / 3) (show 0 < w by omega)
      generalize c / 3 % w = r at q1 q2 ⊢
      rw [DL.app_ok (by rw [List.length_map]; omega)]
      walk_at "dl"
      refine ⟨_, rfl, bs ++ [1 + r], some (false, .int (0 + (i : Int))), some (false, .int c), by rw [List.length_append, List.length_singleton, hl], fun b hb2 => ?_, by rw [List.map_append]; rfl⟩
      rcases List.mem_append.mp hb2 with h | h
      · exact hb b h
      · rw [List.mem_singleton.mp h]
        unfold Bg
        omega)
  erw [e1]
  subst e2
  rw [List.length_range] at hl
  walk_at "dl"
  have hu := uniq_len bs
  rw [DL.sortS_ints (by omega) (by omega)]
  walk_at "dl"
  refine ⟨_, srtS bs, rfl, srtS_lt bs, fun b h => hb b (mem_srtS.mp h), ?_, fun h => ?_⟩
  · have := srtS_len bs
    omega
  · intro he
    cases bs with
    | nil => have hl : 0 = wide.toNat := hl; omega
    | cons x bs =>
      have := mem_srtS (ns := x :: bs) (k := x)
      rw [he] at this
      exact absurd (this.mpr List.mem_cons_self) List.not_mem_nil
end Me
namespace Dw
open PySem DL Ti Di Sh Ce Tr Me Bo Gw
structure Drawn (top : Int) (menu : List Int) (lists : List (List Int)) (ties : List Tie) : Prop where
  m1 : menu.Pairwise (· < ·)
  m2 : ∀ b ∈ menu, Bg b
  m3 : menu.length ≤ 8
  m4 : menu ≠ []
  l1 : 1 ≤ lists.length
  l2 : (lists.length : Int) ≤ top
  l3 : lists.length ≤ 6
  l4 : ∀ l ∈ lists, l.Pairwise (· < ·) ∧ ∀ b ∈ l, b ∈ menu
  t1 : ties.length ≤ 12
  t2 : ∀ t ∈ ties, TieOk lists.length t
theorem nodup_sub_len {l m : List Int} (h : l.Nodup) (s : ∀ x ∈ l, x ∈ m) : l.length ≤ m.length := nodup_len h s
theorem drawn_eq (ns : List Int) (top : Int) (hns : ns.length ≤ 63) (ht : 1 ≤ top) : ∃ (o : Bool) (menu : List Int) (lists : List (List Int)) (ties : List Tie), Fn.law_drawn_8e11 [.scr ns, .int top] = .ok (o, .lst [.lst (menu.map .int), .lst (lists.map lI), .lst (ties.map dT)]) ∧ Drawn top menu lists ties := by
  obtain ⟨o1, e1⟩ := cell_eq ns 0 (by omega) (by omega)
  unfold Fn.law_drawn_8e11; rw [DL.ap_body (by rfl)]; unfold Fn.law_drawn_8e11_g
  walk_at "dl"
  rw [DL.callE_of e1]
  walk_at "dl"
  generalize cellOf ns 0 = first
  have hw : ∃ w : Int, dIxA (D.lst [D.int 3, D.int 5, D.int 5, D.int 8]) (D.int (first / 24 % 4)) = .ok (.int w) ∧ 3 ≤ w ∧ w ≤ 8 := by
    rcases (by omega : first / 24 % 4 = 0 ∨ first / 24 % 4 = 1 ∨ first / 24 % 4 = 2 ∨ first / 24 % 4 = 3) with h | h | h | h <;> rw [h]
    · exact ⟨3, rfl, by omega, by omega⟩
    · exact ⟨5, rfl, by omega, by omega⟩
    · exact ⟨5, rfl, by omega, by omega⟩
    · exact ⟨8, rfl, by omega, by omega⟩
  obtain ⟨w, hw, w1, w2⟩ := hw
  rw [hw]
  walk_at "dl"
  obtain ⟨o2, menu, e2, m1, m2, m3, m4⟩ := menu_eq ns 1 w (by omega) (by omega) (by omega) (by omega)
  have m4 := m4 (by omega)
  have mnd : menu.Nodup := m1.imp fun h => Int.ne_of_lt h
  have mpos : 0 < (menu.length : Int) := by
    have := List.length_pos_iff.mpr m4
    omega
  rw [DL.callE_of e2]
  walk_at "dl"
  have hn : ∃ n : Int, dIxA (D.lst [D.int 1, D.int 2, D.int 3, D.int 4, D.int 4, D.int 5, D.int 3, D.int 6]) (D.int (first % 8)) = .ok (.int n) ∧ 1 ≤ n ∧ n ≤ 6 := by
    rcases (by omega : first % 8 = 0 ∨ first % 8 = 1 ∨ first % 8 = 2 ∨ first % 8 = 3 ∨ first % 8 = 4 ∨ first % 8 = 5 ∨ first % 8 = 6 ∨ first % 8 = 7) with h | h | h | h | h | h | h | h <;> rw [h]
    · exact ⟨1, rfl, by omega, by omega⟩
    · exact ⟨2, rfl, by omega, by omega⟩
    · exact ⟨3, rfl, by omega, by omega⟩
    · exact ⟨4, rfl, by omega, by omega⟩
    · exact ⟨4, rfl, by omega, by omega⟩
    · exact ⟨5, rfl, by omega, by omega⟩
    · exact ⟨3, rfl, by omega, by omega⟩
    · exact ⟨6, rfl, by omega, by omega⟩
  obtain ⟨n, hn, n1, n2⟩ := hn
  rw [hn]
  walk_at "dl"
  have hcnt : 1 ≤ (if n < top then n else top) ∧ (if n < top then n else top) ≤ 6 ∧ (if n < top then n else top) ≤ top := by split <;> omega
  generalize (if n < top then n else top) = count at hcnt ⊢
  obtain ⟨c1, c2, c3⟩ := hcnt
  have hr : ∃ r : Int, dIxA (D.lst [D.int 6, D.int 14, D.int 40]) (D.int (first / 8 % 3)) = .ok (.int r) ∧ 1 ≤ r ∧ r ≤ 40 := by
    rcases (by omega : first / 8 % 3 = 0 ∨ first / 8 % 3 = 1 ∨ first / 8 % 3 = 2) with h | h | h <;> rw [h]
    · exact ⟨6, rfl, by omega, by omega⟩
    · exact ⟨14, rfl, by omega, by omega⟩
    · exact ⟨40, rfl, by omega, by omega⟩
  obtain ⟨rare, hr, r1, r2⟩ := hr
  rw [hr]
  walk_at "dl"
  rw [DL.inR_small (by omega) (by omega)]
  walk_at "dl"
  rw [DL.lcR_is (zs := (List.replicate count.toNat menu).map lI) (by rw [List.length_map, List.length_range]; omega) (by
    have := lc_fmap (g := gSet 8) (t := tYesD) (f := Fn.law_drawn_8e11_e1) (ρ := [some (false, .scr ns), some (false, .int top), some (false, .int first), some (false, .lst (menu.map .int)), some (false, .int count), some (false, .int rare), none, none, none, none, none, none]) (fun i : Nat => D.int (0 + (i : Int))) (fun _ => lI menu) (fun _ => true) (List.range count.toNat) (fun k hk => by
      refine lc_one rfl rfl fun h => ?_
      unfold Fn.law_drawn_8e11_e1 lI
      walk_at "dl")
    rw [List.filter_eq_self.mpr (fun _ _ => rfl)] at this
    rw [List.map_replicate]
    refine Eq.trans this ?_
    congr 1
    refine List.ext_getElem (by simp) fun i h1 h2 => by simp) (fun z hz => by
      obtain ⟨l, _, rfl⟩ := List.mem_map.mp hz
      exact ⟨_, rfl⟩)]
  walk_at "dl"
  have hmx : (if (21 : Int) > (ns.length : Int) then (21 : Int) else (ns.length : Int)) ≤ 63 ∧ 21 ≤ (if (21 : Int) > (ns.length : Int) then (21 : Int) else (ns.length : Int)) := by split <;> omega
  generalize (if (21 : Int) > (ns.length : Int) then (21 : Int) else (ns.length : Int)) = mx at hmx ⊢
  rw [DL.inR_small (by omega) (by omega)]
  walk_at "dl"
  obtain ⟨ρ', h1, lists, ties, z8, z9, z10, g1, g2, g3, g4, h2⟩ := DL.loop_at (g := gSet 8) (gb := Fn.law_drawn_8e11_b2) (fun i : Nat => D.int (9 + (i : Int))) (List.range (mx - 9).toNat)
    (fun i ρ => ∃ (lists : List (List Int)) (ties : List Tie) (z8 z9 z10 : DL.Slot), lists.length = count.toNat ∧ (∀ l ∈ lists, l.Nodup ∧ ∀ b ∈ l, b ∈ menu) ∧ ties.length ≤ 12 ∧ (∀ t ∈ ties, TieOk count.toNat t) ∧
      ρ = [some (false, .scr ns), some (false, .int top), some (false, .int first), some (false, .lst (menu.map .int)), some (false, .int count), some (false, .int rare), some (true, .rows (lists.map lI)), some (true, .lst (ties.map dT)), z8, z9, z10, none]) _ ⟨List.replicate count.toNat menu, [], none, none, none, List.length_replicate, (fun l hl => by rw [List.eq_of_mem_replicate hl]; exact ⟨mnd, fun _ h => h⟩), by simp, (fun _ h => nomatch h), rfl⟩ (fun i a ρ ha ⟨lists, ties, z8, z9, z10, g1, g2, g3, g4, hρ⟩ => by
      subst hρ
      have hi := DL.at_lt ha
      rw [List.getElem?_eq_getElem hi, List.getElem_range] at ha
      rw [List.length_range] at hi
      cases ha
      refine ⟨_, rfl, ?_⟩
      obtain ⟨o3, e3⟩ := cell_eq ns (9 + (i : Int)) (by omega) (by omega)
      unfold Fn.law_drawn_8e11_b2
      walk_at "dl"
      rw [DL.callE_of e3]
      walk_at "dl"
      generalize cellOf ns (9 + (i : Int)) = cell
      rw [DL.div_pos (by omega) (by omega)]
      walk_at "dl"
      rw [DL.mod_pos mpos]
      walk_at "dl"
      have q1 := Int.emod_nonneg (cell / rare) (show (menu.length : Int) ≠ 0 by omega)
      have q2 := Int.emod_lt_of_pos (cell / rare) mpos
      rw [DL.ixA_ints q1 q2]
      generalize hbd : menu.getD (cell / rare % (menu.length : Int)).toNat 0 = badge
      have hbm : badge ∈ menu := by
        rw [← hbd, List.getD_eq_getElem?_getD, List.getElem?_eq_getElem (by omega)]
        exact List.getElem_mem _
      walk_at "dl"
      rw [DL.mod_pos (by omega)]
      walk_at "dl"
      have q3 := Int.emod_nonneg (9 + (i : Int)) (show count ≠ 0 by omega)
      have q4 := Int.emod_lt_of_pos (9 + (i : Int)) (show 0 < count by omega)
      have hjl : ((9 + (i : Int)) % count).toNat < lists.length := by omega
      have hrow : (lists.map lI)[((9 + (i : Int)) % count).toNat]? = some (.lst (lists[((9 + (i : Int)) % count).toNat].map .int)) := by
        rw [List.getElem?_map, List.getElem?_eq_getElem hjl]; rfl
      have hand : ∀ ρ : En, ρ = [some (false, .scr ns), some (false, .int top), some (false, .int first), some (false, .lst (menu.map .int)), some (false, .int count), some (false, .int rare), some (true, .rows (lists.map lI)), some (true, .lst (ties.map dT)), some (false, .int (9 + (i : Int))), some (false, .int cell), some (false, .int badge), none] → andK (.ok (decide (cell % rare = 0))) (tst (bop (nop (aCons (rd 7) aNil) dLen) (cst (.int 12)) dLt)) ρ = .ok (decide (cell % rare = 0) && decide ((ties.length : Int) < 12)) := fun ρ hρ => by
        subst hρ
        cases decide (cell % rare = 0)
        · rfl
        · walk_at "dl"
      rw [hand _ rfl]
      cases hB : (decide (cell % rare = 0) && decide ((ties.length : Int) < 12)) with
      | true =>
        rw [Bool.and_eq_true, decide_eq_true_iff, decide_eq_true_iff] at hB
        walk_at "dl"
        rw [DL.div_pos (by omega) (by omega)]
        walk_at "dl"
        obtain ⟨o4, t, e4, ht4⟩ := bond_eq (cell / rare) count (by omega) (by omega)
        rw [DL.callE_of e4]
        walk_at "dl"
        rw [DL.app_ok (by rw [List.length_map]; omega)]
        walk_at "dl"
        refine ⟨_, rfl, lists, ties ++ [t], some (false, .int (9 + (i : Int))), some (false, .int cell), some (false, .int badge), g1, g2, by rw [List.length_append, List.length_singleton]; omega, fun u hu => ?_, by rw [List.map_append]; rfl⟩
        rcases List.mem_append.mp hu with h | h
        · exact g4 u h
        · rw [List.mem_singleton.mp h]; exact ht4
      | false =>
        walk_at "dl"
        rw [DL.mod_pos (by omega)]
        walk_at "dl"
        rw [DL.ixR_at q3 hrow]
        walk_at "dl"
        have hgl := g2 lists[((9 + (i : Int)) % count).toNat] (List.getElem_mem hjl)
        have hset : ∀ l' : List Int, (l'.Nodup ∧ ∀ b ∈ l', b ∈ menu) → ∀ l ∈ lists.set ((9 + (i : Int)) % count).toNat l', l.Nodup ∧ ∀ b ∈ l, b ∈ menu := fun l' h' l hl => by
          rcases List.mem_or_eq_of_mem_set hl with h | h
          · exact g2 l h
          · rw [h]; exact h'
        have hms : ∀ l' : List Int, (lists.map lI).set ((9 + (i : Int)) % count).toNat (.lst (l'.map .int)) = (lists.set ((9 + (i : Int)) % count).toNat l').map lI := fun l' => by rw [List.map_set]; rfl
        by_cases hin : badge ∈ lists[((9 + (i : Int)) % count).toNat]
        · rw [decide_eq_true hin]
          walk_at "dl"
          rw [DL.mod_pos (by omega)]
          walk_at "dl"
          rw [DL.rowAt_of q3 hrow]
          walk_at "dl"
          rw [DL.wRem_ok hin]
          walk_at "dl"
          rw [hms]
          exact ⟨_, rfl, lists.set _ (lists[((9 + (i : Int)) % count).toNat].erase badge), ties, some (false, .int (9 + (i : Int))), some (false, .int cell), some (false, .int badge), by rw [List.length_set]; exact g1, hset _ ⟨hgl.1.erase _, fun b hb => hgl.2 b (List.mem_of_mem_erase hb)⟩, g3, g4, rfl⟩
        · rw [decide_eq_false hin]
          walk_at "dl"
          rw [DL.mod_pos (by omega)]
          walk_at "dl"
          rw [DL.rowAt_of q3 hrow]
          walk_at "dl"
          have hlen := nodup_sub_len hgl.1 hgl.2
          rw [DL.wApp_ok (by rw [List.length_map]; omega)]
          walk_at "dl"
          rw [show lists[((9 + (i : Int)) % count).toNat].map D.int ++ [D.int badge] = (lists[((9 + (i : Int)) % count).toNat] ++ [badge]).map .int by rw [List.map_append]; rfl, hms]
          refine ⟨_, rfl, lists.set _ (lists[((9 + (i : Int)) % count).toNat] ++ [badge]), ties, some (false, .int (9 + (i : Int))), some (false, .int cell), some (false, .int badge), by rw [List.length_set]; exact g1, hset _ ⟨?_, fun b hb => ?_⟩, g3, g4, rfl⟩
          · refine List.nodup_append.mpr ⟨hgl.1, by simp, fun x hx y hy e => ?_⟩
            rw [List.mem_singleton.mp hy] at e
            exact hin (e ▸ hx)
          · rcases List.mem_append.mp hb with h | h
            · exact hgl.2 b h
            · rw [List.mem_singleton.mp h]; exact hbm)
  erw [h1]
  subst h2
  walk_at "dl"
  rw [DL.lc_is (zs := (lists.map srt).map lI) (by rw [List.length_map]; omega) (by
    have := lc_fmap (g := gSet 11) (t := tYesD) (f := Fn.law_drawn_8e11_e3) (ρ := [some (false, .scr ns), some (false, .int top), some (false, .int first), some (false, .lst (menu.map .int)), some (false, .int count), some (false, .int rare), some (true, .lst (lists.map lI)), some (false, .lst (ties.map dT)), z8, z9, z10, none]) lI (fun l => lI (srt l)) (fun _ => true) lists (fun k hk => by
      refine lc_one rfl rfl fun h => ?_
      unfold Fn.law_drawn_8e11_e3 lI
      walk_at "dl")
    rw [List.filter_eq_self.mpr (fun _ _ => rfl)] at this
    rw [List.map_map]
    exact this)]
  walk_at "dl"
  have hsl : (lists.map srt).length = count.toNat := by rw [List.length_map]; exact g1
  refine ⟨_, menu, lists.map srt, ties, rfl, m1, m2, by omega, m4, by omega, by omega, by omega, fun l hl => ?_, g3, by rw [hsl]; exact g4⟩
  obtain ⟨k, hk, rfl⟩ := List.mem_map.mp hl
  obtain ⟨n3, n4⟩ := g2 k hk
  refine ⟨List.Pairwise.imp₂ (fun a b h3 h4 => ?_) (srt_sorted k) ((srt_perm k).nodup_iff.mpr n3), fun b hb => n4 b ((srt_perm k).mem_iff.mp hb)⟩
  have h3 : a ≤ b := h3
  have h4 : a ≠ b := h4
  omega
end Dw
namespace Dl
open PySem DL Di
def kN (k : Nat) : D := .int (k : Int)
def gO (hands : List (Option Int)) (k : Nat) : Option Int := hands.getD k none
def gP (pools : List (List Int)) (k : Nat) : List Int := pools.getD k []
structure Held (pools : List (List Int)) (hands : List (Option Int)) (own : List (Int × D)) : Prop where
  len : hands.length = pools.length
  inp : ∀ k x, gO hands k = some x → x ∈ gP pools k
  inj : ∀ j k x, gO hands j = some x → gO hands k = some x → j = k
  val : ∀ x d, lkD own x = some d → ∃ k, d = kN k ∧ gO hands k = some x
  has : ∀ k x, gO hands k = some x → lkD own x = some (kN k)
theorem kN_inj {j k : Nat} (h : kN j = kN k) : j = k := by
  unfold kN at h
  injection h with h
  omega
theorem gO_lt {hands : List (Option Int)} {k : Nat} {x : Int} (h : gO hands k = some x) : k < hands.length := by
  unfold gO at h
  by_cases hk : k < hands.length
  · exact hk
  · rw [List.getD_eq_getElem?_getD, List.getElem?_eq_none (by omega)] at h
    cases h
structure Bf (pools : List (List Int)) (hands : List (Option Int)) (start : Nat) (P : List Nat) (came : List (Int × D)) : Prop where
  nd : P.Nodup
  lt : ∀ p ∈ P, p < pools.length
  st : start ∈ P
  src : ∀ x d, lkD came x = some d → ∃ p, d = kN p ∧ p ∈ P ∧ x ∈ gP pools p
  back : ∀ p ∈ P, p ≠ start → ∃ x q, gO hands p = some x ∧ lkD came x = some (kN q) ∧ P.idxOf q < P.idxOf p
  fwd : ∀ x, x ∈ keys came → ∃ q ∈ P, q ≠ start ∧ gO hands q = some x
  cnt : (keys came).length + 1 = P.length
theorem Bf.start {pools : List (List Int)} {hands : List (Option Int)} {start : Nat} (hs : start < pools.length) : Bf pools hands start [start] [] where
  nd := by simp
  lt := fun p h => by rw [List.mem_singleton.mp h]; exact hs
  st := List.mem_singleton.mpr rfl
  src := fun x d h => by cases (h : (none : Option D) = some d)
  back := fun p h hn => absurd (List.mem_singleton.mp h) hn
  fwd := fun x h => absurd (h : x ∈ ([] : List Int)) List.not_mem_nil
  cnt := rfl
theorem idx_app {P : List Nat} {q p : Nat} (h : p ∈ P) : (P ++ [q]).idxOf p = P.idxOf p := by rw [List.idxOf_append, if_pos h]
theorem Bf.grow {pools : List (List Int)} {hands : List (Option Int)} {own came : List (Int × D)} {start place q : Nat} {P : List Nat} {b : Int} (W : Held pools hands own) (B : Bf pools hands start P came) (hn : gO hands start = none) (hp : place ∈ P) (hb : b ∈ gP pools place) (hc : b ∉ keys came) (hq : lkD own b = some (kN q)) :
    Bf pools hands start (P ++ [q]) (putD came b (kN place)) := by
  obtain ⟨k, e, hk⟩ := W.val b _ hq
  have e := kN_inj e
  subst e
  have hqs : q ≠ start := fun e => by rw [e, hn] at hk; cases hk
  have hqP : q ∉ P := fun h => by
    obtain ⟨x, q', g1, g2, -⟩ := B.back q h hqs
    rw [hk] at g1
    cases g1
    exact hc (lk_in.mp (by rw [g2]; rfl))
  have hx : ∀ {x : Int} {d : D}, lkD came x = some d → x ≠ b := fun h e => by
    subst e
    exact hc (lk_in.mp (by rw [h]; rfl))
  refine ⟨?_, ?_, List.mem_append_left _ B.st, ?_, ?_, ?_, ?_⟩
  · refine List.nodup_append.mpr ⟨B.nd, by simp, fun x hx1 y hy e => ?_⟩
    rw [List.mem_singleton.mp hy] at e
    subst e
    exact hqP hx1
  · intro p h
    rcases List.mem_append.mp h with h | h
    · exact B.lt p h
    · rw [List.mem_singleton.mp h, ← W.len]
      exact gO_lt hk
  · intro x d h
    rw [lk_put] at h
    split at h
    · rename_i e
      subst e
      cases h
      exact ⟨place, rfl, List.mem_append_left _ hp, hb⟩
    · obtain ⟨p, h1, h2, h3⟩ := B.src x d h
      exact ⟨p, h1, List.mem_append_left _ h2, h3⟩
  · intro p h hps
    rcases List.mem_append.mp h with h | h
    · obtain ⟨x, q', h1, h2, h3⟩ := B.back p h hps
      obtain ⟨p', e', hp', -⟩ := B.src x _ h2
      have e' := kN_inj e'
      subst e'
      refine ⟨x, q', h1, by rw [lk_put, if_neg (hx h2)]; exact h2, ?_⟩
      rw [idx_app h, idx_app hp']
      exact h3
    · rw [List.mem_singleton.mp h]
      refine ⟨b, place, hk, by rw [lk_put, if_pos rfl], ?_⟩
      rw [idx_app hp, List.idxOf_append, if_neg hqP]
      have := List.idxOf_lt_length_of_mem hp
      omega
  · intro x h
    rw [keys_put, if_neg hc] at h
    rcases List.mem_append.mp h with h | h
    · obtain ⟨q', h1, h2, h3⟩ := B.fwd x h
      exact ⟨q', List.mem_append_left _ h1, h2, h3⟩
    · rw [List.mem_singleton.mp h]
      exact ⟨q, List.mem_append_right _ (List.mem_singleton.mpr rfl), hqs, hk⟩
  · rw [keys_put, if_neg hc, List.length_append, List.length_append, List.length_singleton, List.length_singleton, B.cnt]
theorem Bf.len {pools : List (List Int)} {hands : List (Option Int)} {start : Nat} {P : List Nat} {came : List (Int × D)} (B : Bf pools hands start P came) : P.length ≤ pools.length ∧ came.length + 1 = P.length := by
  have h1 : P.length ≤ (List.range pools.length).length := by
    have aux : ∀ {l m : List Nat}, l.Nodup → (∀ x ∈ l, x ∈ m) → l.length ≤ m.length := by
      intro l
      induction l with
      | nil => intro m _ _; exact Nat.zero_le _
      | cons x l ih =>
        intro m h s
        have hx := s x List.mem_cons_self
        have hn := List.nodup_cons.mp h
        have := ih (m := m.erase x) hn.2 fun y hy => (List.mem_erase_of_ne (fun (e : y = x) => hn.1 (e ▸ hy))).mpr (s y (List.mem_cons_of_mem _ hy))
        rw [List.length_erase_of_mem hx] at this
        have hp := List.length_pos_of_mem hx
        rw [List.length_cons]
        omega
    exact aux B.nd fun x hx => List.mem_range.mpr (B.lt x hx)
  rw [List.length_range] at h1
  have h2 := B.cnt
  unfold keys at h2
  rw [List.length_map] at h2
  exact ⟨h1, h2⟩
end Dl
namespace Pl
open PySem DL Ti Di Sh De Bo Gw Dl
theorem nb_lists {n : Nat} (ls : List (List Int)) : NB (n + 2) (.lst (ls.map lI)) := .lst fun d hd => by
  obtain ⟨p, _, rfl⟩ := List.mem_map.mp hd
  exact NB.ints p
theorem nb_ties {m : Nat} (ts : List Tie) (h : ∀ t ∈ ts, TieOk m t) : NB 4 (.lst (ts.map dT)) := .lst fun d hd => by
  obtain ⟨t, ht, rfl⟩ := List.mem_map.mp hd
  unfold dT
  refine .tup fun d hd => ?_
  rcases List.mem_cons.mp hd with rfl | hd
  · refine .str _ ?_
    rcases (h t ht).word with h | h <;> rw [h] <;> decide +kernel
  · rcases List.mem_cons.mp hd with rfl | hd
    · exact .int _
    · rw [List.mem_singleton.mp hd]
      refine .tup fun d hd => ?_
      obtain ⟨k, hk, rfl⟩ := List.mem_map.mp hd
      exact .int _
theorem look_lists (ls : List (List Int)) (k : Nat) (h : k < ls.length) : dIxA (.lst (ls.map lI)) (.int (k : Int)) = .ok (lI (gP ls k)) := DL.ixA_lst (by omega) (by
  rw [Int.toNat_natCast, List.getElem?_map, List.getElem?_eq_getElem h]
  unfold gP
  rw [List.getD_eq_getElem?_getD, List.getElem?_eq_getElem h]; rfl)
theorem gP_mem (ls : List (List Int)) (k : Nat) (h : k < ls.length) : gP ls k ∈ ls := by
  unfold gP
  rw [List.getD_eq_getElem?_getD, List.getElem?_eq_getElem h]
  exact List.getElem_mem h
end Pl
namespace Rw
open PySem DL Ti Di Gw Dl
theorem putA_lst {ds : List D} {j : Int} {v : D} (h0 : 0 ≤ j) (h : j < ds.length) : putA (.lst ds) (.int j) v = .ok (.lst (ds.set j.toNat v)) := by
  show (match L2.ixN ds.length j with | some n => R.ok (D.lst (ds.set n v)) | none => R.bad) = _
  rw [DL.ixN_of h0 h]
theorem row_at (rs : List (List Int)) (k : Nat) (h : k < rs.length) : (rs.map lI)[k]? = some (.lst (rs[k].map .int)) := by
  rw [List.getElem?_map, List.getElem?_eq_getElem h]; rfl
theorem set_row (rs : List (List Int)) (k : Nat) (l : List Int) : (rs.map lI).set k (.lst (l.map .int)) = (rs.set k l).map lI := by rw [List.map_set]; rfl
end Rw
namespace Po
open PySem DL Ti Di Sh De Gw Pt Dl Pl Rw
def stepsOf (ps : List Int) (b : Int) : List Nat := (List.range ps.length).filter fun k => decide (ps.getD k 0 = b)
def poolOf (lists : List (List Int)) (ks : List Nat) : List Int := (gP lists (ks.getD 0 0)).filter fun x => ks.all fun s => decide (x ∈ gP lists s)
def poolsOf (ps : List Int) (lists : List (List Int)) : List (List Int) := (List.range (U ps)).map fun b : Nat => poolOf lists (stepsOf ps (b : Int))
theorem steps_snoc (ps : List Int) (j b : Int) : stepsOf (ps ++ [j]) b = stepsOf ps b ++ (if j = b then [ps.length] else []) := by
  unfold stepsOf
  rw [List.length_append, List.length_singleton, List.range_succ, List.filter_append]
  congr 1
  · refine List.filter_congr fun k hk => ?_
    have := List.mem_range.mp hk
    rw [List.getD_eq_getElem?_getD, List.getD_eq_getElem?_getD, List.getElem?_append_left this]
  · have : (ps ++ [j]).getD ps.length 0 = j := by
      rw [List.getD_eq_getElem?_getD, List.getElem?_append_right (Nat.le_refl _), Nat.sub_self]; rfl
    by_cases h : j = b
    · rw [if_pos h, List.filter_cons, this, decide_eq_true h]; rfl
    · rw [if_neg h, List.filter_cons, this, decide_eq_false h]; rfl
theorem steps_ne {ps : List Int} {b : Int} (h : b ∈ ps) : stepsOf ps b ≠ [] := fun he => by
  obtain ⟨k, hk, e⟩ := List.getElem_of_mem h
  have : k ∈ stepsOf ps b := List.mem_filter.mpr ⟨List.mem_range.mpr hk, decide_eq_true (by rw [List.getD_eq_getElem?_getD, List.getElem?_eq_getElem hk]; exact e)⟩
  rw [he] at this
  cases this
theorem steps_nil {ps : List Int} {b : Int} (h : b ∉ ps) : stepsOf ps b = [] := by
  unfold stepsOf
  refine List.filter_eq_nil_iff.mpr fun k hk => ?_
  have hk := List.mem_range.mp hk
  rw [decide_eq_true_iff, List.getD_eq_getElem?_getD, List.getElem?_eq_getElem hk]
  exact fun e => h (e ▸ List.getElem_mem hk)
theorem steps_lt {ps : List Int} {b : Int} : ∀ k ∈ stepsOf ps b, k < ps.length := fun k hk => List.mem_range.mp (List.mem_filter.mp hk).1
theorem pool_one (lists : List (List Int)) (n : Nat) : poolOf lists [n] = gP lists n := by
  unfold poolOf
  show (gP lists n).filter _ = _
  refine List.filter_eq_self.mpr fun x hx => ?_
  rw [List.all_cons, List.all_nil, Bool.and_true]
  exact decide_eq_true hx
theorem pool_more (lists : List (List Int)) (ks : List Nat) (hk : ks ≠ []) (n : Nat) : poolOf lists (ks ++ [n]) = (poolOf lists ks).filter fun x => decide (x ∈ gP lists n) := by
  unfold poolOf
  rw [List.filter_filter]
  have e : (ks ++ [n]).getD 0 0 = ks.getD 0 0 := by
    cases ks with
    | nil => exact absurd rfl hk
    | cons k ks => rfl
  rw [e]
  refine List.filter_congr fun x _ => ?_
  rw [List.all_append, List.all_cons, List.all_nil, Bool.and_true, Bool.and_comm]
theorem common_eq (one other : List Int) (h : one.length ≤ 1000) : Fn.common_38af [.lst (one.map .int), .lst (other.map .int)] = .ok (true, .lst ((one.filter fun x => decide (x ∈ other)).map .int)) := by
  unfold Fn.common_38af; rw [DL.ap_bodyV (by rfl)]; unfold Fn.common_38af_g
  rw [show List.replicate (2 + (3 - 2)) (none : DL.Slot) = [none, none, none] from rfl]
  walk_at "dl"
  rw [DL.lc_is (zs := (one.filter fun x => decide (x ∈ other)).map .int) (by rw [List.length_map]; omega) (by
    have := lc_fmap (g := gSet 2) (t := Fn.common_38af_t2 [.lst (one.map .int), .lst (other.map .int)]) (f := Fn.common_38af_e1 [.lst (one.map .int), .lst (other.map .int)]) (ρ := [none, none, none]) D.int D.int (fun x => decide (x ∈ other)) one (fun k hk => by
      refine lc_one rfl ?_ fun h => rfl
      unfold Fn.common_38af_t2
      walk_at "dl")
    exact this)]
  walk_at "dl"
theorem pools_step {ps : List Int} (hp : IsP ps) (lists : List (List Int)) {j : Int} (h0 : 0 ≤ j) (h1 : j ≤ (U ps : Int)) :
    (j = (U ps : Int) → poolsOf (ps ++ [j]) lists = poolsOf ps lists ++ [gP lists ps.length]) ∧ (j < (U ps : Int) → poolsOf (ps ++ [j]) lists = (poolsOf ps lists).set j.toNat ((gP (poolsOf ps lists) j.toNat).filter fun x => decide (x ∈ gP lists ps.length))) := by
  have hnew := pt_new hp h0 h1
  refine ⟨fun e => ?_, fun hlt => ?_⟩
  · have hnot : j ∉ ps := fun z => by have := hnew.mp z; omega
    unfold poolsOf
    rw [U_snoc, if_neg hnot, List.range_succ, List.map_append]
    congr 1
    · refine List.map_congr_left fun b hb => ?_
      have := List.mem_range.mp hb
      rw [steps_snoc, if_neg (by omega), List.append_nil]
    · show [poolOf lists (stepsOf (ps ++ [j]) ((U ps : Nat) : Int))] = _
      rw [steps_snoc, if_pos e, steps_nil (by rw [← e]; exact hnot), List.nil_append, pool_one]
  · have hin : j ∈ ps := hnew.mpr hlt
    unfold poolsOf
    rw [U_snoc, if_pos hin]
    refine List.ext_getElem (by rw [List.length_set, List.length_map, List.length_map]) fun i i1 i2 => ?_
    rw [List.length_map, List.length_range] at i1
    rw [List.getElem_set, List.getElem_map, List.getElem_range]
    rw [steps_snoc]
    by_cases e : j.toNat = i
    · rw [if_pos e, if_pos (by omega), pool_more _ _ (steps_ne (by rw [show ((i : Nat) : Int) = j by omega]; exact hin))]
      congr 1
      unfold gP
      rw [List.getD_eq_getElem?_getD, List.getElem?_map, List.getElem?_range (by omega), e]; rfl
    · rw [if_neg e, if_neg (by omega), List.append_nil, List.getElem_map, List.getElem_range]
theorem take_pt {ps : List Int} (hp : IsP ps) : ∀ n, n ≤ ps.length → IsP (ps.take n) ∧ ∀ (h : n < ps.length), 0 ≤ ps[n] ∧ ps[n] ≤ (U (ps.take n) : Int) := by
  refine snoc_ind (P := fun ps => IsP ps → ∀ n, n ≤ ps.length → IsP (ps.take n) ∧ ∀ (h : n < ps.length), 0 ≤ ps[n] ∧ ps[n] ≤ (U (ps.take n) : Int)) (fun _ n hn => ?_) (fun l x ih hlx n hn => ?_) ps hp
  · have hn : n ≤ 0 := hn
    have : n = 0 := by omega
    subst this
    exact ⟨rfl, fun h => absurd h (Nat.lt_irrefl _)⟩
  · have h2 : shapeOf (l ++ [x]) = l ++ [x] := hlx
    rw [shape_snoc] at h2
    have h3 := List.append_inj h2 (shape_len l)
    have hl : IsP l := h3.1
    have hx : num (l ++ [x]) x = x := by
      have := h3.2
      injection this
    rw [List.length_append, List.length_singleton] at hn
    by_cases e : n = l.length + 1
    · refine ⟨?_, fun h => ?_⟩
      · rw [List.take_of_length_le (by rw [List.length_append, List.length_singleton]; omega)]
        exact hlx
      · rw [List.length_append, List.length_singleton] at h; omega
    · have hn2 : n ≤ l.length := by omega
      obtain ⟨i1, i2⟩ := ih hl n hn2
      rw [List.take_append_of_le_length hn2]
      refine ⟨i1, fun h => ?_⟩
      by_cases e2 : n < l.length
      · rw [List.getElem_append_left e2]
        exact i2 e2
      · have e3 : n = l.length := by omega
        subst e3
        rw [List.getElem_append_right (Nat.le_refl _), List.take_length]
        simp only [Nat.sub_self, List.getElem_cons_zero]
        by_cases hm : x ∈ l
        · have := pt_lt hl hm
          omega
        · rw [num_new hm] at hx
          unfold U
          omega
theorem pool_len {lists : List (List Int)} (hs : ∀ l ∈ lists, l.length ≤ 100) (ks : List Nat) : (poolOf lists ks).length ≤ 100 := by
  unfold poolOf
  refine Nat.le_trans (List.length_filter_le _ _) ?_
  unfold gP
  rw [List.getD_eq_getElem?_getD]
  by_cases h : ks.getD 0 0 < lists.length
  · rw [List.getElem?_eq_getElem h]
    exact hs _ (List.getElem_mem h)
  · rw [List.getElem?_eq_none (by omega)]
    exact Nat.zero_le _
theorem pools_small {lists : List (List Int)} (hs : ∀ l ∈ lists, l.length ≤ 100) (ps : List Int) : ∀ l ∈ poolsOf ps lists, l.length ≤ 100 := fun l hl => by
  obtain ⟨b, _, rfl⟩ := List.mem_map.mp hl
  exact pool_len hs _
end Po
namespace Fn
open PySem DL
end Fn
namespace Fn
open PySem DL
end Fn
namespace Sk
open PySem DL Di Dl
structure Found (pools : List (List Int)) (hands : List (Option Int)) (own : List (Int × D)) (start : Nat) (P : List Nat) (came : List (Int × D)) (b : Int) : Prop where
  ex : ∃ came0 place, Bf pools hands start P came0 ∧ place ∈ P ∧ b ∈ gP pools place ∧ b ∉ keys came0 ∧ lkD own b = none ∧ came = putD came0 b (kN place)
section
variable {pools : List (List Int)} {hands : List (Option Int)} {own : List (Int × D)} {start : Nat}
abbrev envS (P : List Nat) (came : List (Int × D)) (at_ : Int) (x6 x7 : DL.Slot) : En := [none, none, none, some (true, .lst (P.map kN)), some (true, dKI came), some (false, .int at_), x6, x7]
def Ends (pools : List (List Int)) (hands : List (Option Int)) (own : List (Int × D)) (start : Nat) (r : R Fl) : Prop :=
  (∃ P came at_ x6 x7, r = .ok (.next (envS P came at_ x6 x7)) ∧ Bf pools hands start P came ∧ ∀ p ∈ P, ∀ b ∈ gP pools p, b ∈ keys came)
  ∨ ∃ P came b, r = .ok (.ret true (.tup [.int b, dKI came, .lst (P.map kN)])) ∧ Found pools hands own start P came b
end
end Sk
namespace Dt
open PySem DL Di Dl
theorem gO_set {hands : List (Option Int)} {p k : Nat} {x : Option Int} (hp : p < hands.length) : gO (hands.set p x) k = if k = p then x else gO hands k := by
  unfold gO
  rw [List.getD_eq_getElem?_getD, List.getD_eq_getElem?_getD]
  by_cases h : k = p
  · subst h
    rw [if_pos rfl, List.getElem?_set_self hp]
    rfl
  · rw [if_neg h, List.getElem?_set_ne (fun e => h e.symm)]
structure Mov (pools : List (List Int)) (hands0 hands : List (Option Int)) (own : List (Int × D)) (P : List Nat) (came : List (Int × D)) (b : Int) (p : Nat) : Prop where
  at_ : lkD came b = some (kN p)
  inb : b ∈ gP pools p
  inP : p ∈ P
  len : hands.length = pools.length
  inp : ∀ k x, gO hands k = some x → x ∈ gP pools k
  inj : ∀ j k x, gO hands j = some x → gO hands k = some x → j = k
  new : ∀ k, gO hands k ≠ some b
  val : ∀ x d, x ≠ b → lkD own x = some d → ∃ k, d = kN k ∧ gO hands k = some x
  has : ∀ k x, gO hands k = some x → lkD own x = some (kN k)
  low : ∀ q ∈ P, P.idxOf q ≤ P.idxOf p → gO hands q = gO hands0 q
  dom : ∀ k, (gO hands k).isSome = (gO hands0 k).isSome
theorem Mov.last {pools : List (List Int)} {hands0 hands : List (Option Int)} {own came : List (Int × D)} {P : List Nat} {b : Int} {p : Nat} (M : Mov pools hands0 hands own P came b p) (hp : p < pools.length) (hb : gO hands p = none) :
    Held pools (hands.set p (some b)) (putD own b (kN p)) ∧ ∀ k, (gO (hands.set p (some b)) k).isSome = ((gO hands0 k).isSome || decide (k = p)) := by
  have hpl : p < hands.length := by rw [M.len]; exact hp
  refine ⟨⟨by rw [List.length_set]; exact M.len, ?_, ?_, ?_, ?_⟩, ?_⟩
  · intro k x h
    rw [gO_set hpl] at h
    split at h
    · rename_i e; cases h; rw [e]; exact M.inb
    · exact M.inp k x h
  · intro j k x h1 h2
    rw [gO_set hpl] at h1 h2
    split at h1 <;> split at h2
    · rename_i e1 e2; rw [e1, e2]
    · cases h1; exact absurd h2 (M.new k)
    · cases h2; exact absurd h1 (M.new j)
    · exact M.inj j k x h1 h2
  · intro x d h
    rw [lk_put] at h
    split at h
    · rename_i e
      cases h
      exact ⟨p, rfl, by rw [gO_set hpl, if_pos rfl, e]⟩
    · rename_i e
      obtain ⟨k, h1, h2⟩ := M.val x d e h
      refine ⟨k, h1, ?_⟩
      rw [gO_set hpl, if_neg]
      · exact h2
      · intro e2; rw [e2, hb] at h2; cases h2
  · intro k x h
    rw [gO_set hpl] at h
    rw [lk_put]
    split at h
    · rename_i e; cases h; rw [if_pos rfl, e]
    · rw [if_neg (fun (e : x = b) => M.new k (e ▸ h))]
      exact M.has k x h
  · intro k
    rw [gO_set hpl]
    by_cases e : k = p
    · rw [if_pos e, decide_eq_true e, Bool.or_true]; rfl
    · rw [if_neg e, decide_eq_false e, Bool.or_false, M.dom]
theorem Mov.step {pools : List (List Int)} {hands0 hands : List (Option Int)} {own came : List (Int × D)} {P : List Nat} {b y : Int} {p start : Nat} (M : Mov pools hands0 hands own P came b p) (hp : p < pools.length) (hy : gO hands p = some y) (h0 : gO hands0 start = none)
    (back : ∀ p ∈ P, p ≠ start → ∃ x q, gO hands0 p = some x ∧ lkD came x = some (kN q) ∧ P.idxOf q < P.idxOf p) (src : ∀ x d, lkD came x = some d → x ≠ b → ∃ p, d = kN p ∧ p ∈ P ∧ x ∈ gP pools p) :
    ∃ q, P.idxOf q < P.idxOf p ∧ Mov pools hands0 (hands.set p (some b)) (putD own b (kN p)) P came y q := by
  have hpl : p < hands.length := by rw [M.len]; exact hp
  have hyb : y ≠ b := fun e => M.new p (e ▸ hy)
  have h00 : gO hands0 p = some y := by rw [← M.low p M.inP (Nat.le_refl _)]; exact hy
  have hps : p ≠ start := fun e => by rw [e, h0] at h00; cases h00
  obtain ⟨x, q, b1, b2, b3⟩ := back p M.inP hps
  rw [h00] at b1
  cases b1
  obtain ⟨q', e, hq1, hq2⟩ := src y _ b2 hyb
  have e := kN_inj e
  subst e
  refine ⟨q, b3, b2, hq2, hq1, by rw [List.length_set]; exact M.len, ?_, ?_, ?_, ?_, ?_, ?_, ?_⟩
  · intro k x h
    rw [gO_set hpl] at h
    split at h
    · rename_i e; cases h; rw [e]; exact M.inb
    · exact M.inp k x h
  · intro j k x h1 h2
    rw [gO_set hpl] at h1 h2
    split at h1 <;> split at h2
    · rename_i e1 e2; rw [e1, e2]
    · cases h1; exact absurd h2 (M.new k)
    · cases h2; exact absurd h1 (M.new j)
    · exact M.inj j k x h1 h2
  · intro k h
    rw [gO_set hpl] at h
    split at h
    · cases h; exact hyb rfl
    · rename_i e; exact e (M.inj k p y h hy)
  · intro x d hxy h
    rw [lk_put] at h
    split at h
    · rename_i e
      cases h
      exact ⟨p, rfl, by rw [gO_set hpl, if_pos rfl, e]⟩
    · rename_i e
      obtain ⟨k, h1, h2⟩ := M.val x d e h
      refine ⟨k, h1, ?_⟩
      rw [gO_set hpl, if_neg]
      · exact h2
      · intro e2; rw [e2, hy] at h2; cases h2; exact hxy rfl
  · intro k x h
    rw [gO_set hpl] at h
    rw [lk_put]
    split at h
    · rename_i e; cases h; rw [if_pos rfl, e]
    · rw [if_neg (fun (e : x = b) => M.new k (e ▸ h))]
      exact M.has k x h
  · intro k hk hle
    rw [gO_set hpl, if_neg (fun e => by rw [e] at hle; omega)]
    exact M.low k hk (by omega)
  · intro k
    rw [gO_set hpl]
    by_cases e : k = p
    · rw [if_pos e, e, h00]; rfl
    · rw [if_neg e, M.dom]
end Dt
namespace Hd
open PySem DL Di Dl Dt Sk
section
variable {pools : List (List Int)} {hands0 : List (Option Int)} {came : List (Int × D)} {P : List Nat} {start : Nat}
end
end Hd
namespace Df
open PySem DL Di Dl Dt Sk Hd
def pI (P : List Nat) : List Int := P.map fun n : Nat => (n : Int)
theorem sorted_ok (P : List Nat) : dSorted [.lst (P.map kN)] = .ok (.lst ((srt (pI P)).map .int)) := by
  have e : P.map kN = (pI P).map D.int := by unfold pI; rw [List.map_map]; rfl
  rw [e, DL.sort_ints]
end Df
namespace D2
open PySem DL Di Dl Dt Sk Hd Df Sh De
end D2
namespace Ma
open PySem DL Di Dl Dt Sk Hd Df Sh De D2
structure Match (pools : List (List Int)) (xs : List Int) : Prop where
  len : xs.length = pools.length
  inp : ∀ k (hk : k < xs.length), xs[k] ∈ gP pools k
  nd : xs.Nodup
structure Few (pools : List (List Int)) (P : List Nat) : Prop where
  nd : P.Nodup
  lt : ∀ p ∈ P, p < pools.length
  ex : ∃ bs : List Int, bs.length + 1 = P.length ∧ ∀ p ∈ P, ∀ b ∈ gP pools p, b ∈ bs
end Ma
namespace Se
open PySem DL Ti Di Sh De Br Bo Gw Pt Dl Df Pl Rw Po Ma
def kpB (hands : List Int) (t : Tie) : Bool := keepsB hands t.1 t.2.1 t.2.2
def bkB (ps : List Int) (t : Tie) : Bool := breaksB ps t.1 t.2.1 t.2.2
structure Fits (lists : List (List Int)) (ties : List Tie) (hs : List Int) : Prop where
  len : hs.length = lists.length
  inp : ∀ k, k < lists.length → hs.getD k 0 ∈ gP lists k
  kp : ∀ t ∈ ties, kpB hs t = true
theorem gP_pools {ps : List Int} {lists : List (List Int)} {k : Nat} (h : k < U ps) : gP (poolsOf ps lists) k = poolOf lists (stepsOf ps (k : Int)) := by
  unfold gP poolsOf
  rw [List.getD_eq_getElem?_getD, List.getElem?_map, List.getElem?_range h]
  rfl
theorem pools_len (ps : List Int) (lists : List (List Int)) : (poolsOf ps lists).length = U ps := by
  unfold poolsOf
  rw [List.length_map, List.length_range]
inductive Shw (lists : List (List Int)) (ties : List Tie) : List Int → D → Prop
  | tie {ps : List Int} (i : Nat) (h : i < ties.length) : bkB ps ties[i] = true → Shw lists ties ps (.tup [.str (Str.ofString "tie"), .int (i : Int)])
  | short {ps : List Int} (P : List Nat) : Few (poolsOf ps lists) P → Shw lists ties ps (.tup [.str (Str.ofString "short"), .lst ((srt (pI P)).map .int)])
  | split {ps : List Int} (ds : List D) : ps.length < lists.length → ds.length = U ps + 1 → (∀ k (hk : k < ds.length), Shw lists ties (ps ++ [(k : Int)]) ds[k]) → Shw lists ties ps (.tup [.str (Str.ofString "split"), .lst ds])
theorem pt_snoc' {ps : List Int} (h : IsP ps) {j : Nat} (h1 : j ≤ U ps) : IsP (ps ++ [(j : Int)]) := by
  have h2 : shapeOf ps = ps := h
  unfold IsP
  rw [shape_snoc, h2]
  by_cases hm : (j : Int) ∈ ps
  · rw [num_app hm, pt_num h hm]
  · rw [num_new hm]
    have : ¬ (j : Int) < (U ps : Int) := fun z => hm (pt_mem h (by omega) z)
    unfold U at this h1
    rw [show (uniq ps).length = j by omega]
end Se
namespace Lp
open PySem DL Ti Di Sh De Bo Gw Dl Dw Pl Rw Nu Pt Po
theorem in_all_eq (x : Int) (lists : List (List Int)) (ks : List Nat) (hk : ∀ k ∈ ks, k < lists.length) : ∃ o, Fn.law_in_all_ba70 [.int x, .lst (lists.map lI), .lst (ks.map kI)] = .ok (o, .bl (ks.all fun s => decide (x ∈ gP lists s))) := by
  unfold Fn.law_in_all_ba70; rw [DL.ap_body (by rfl)]; unfold Fn.law_in_all_ba70_g
  walk_at "dl"
  rcases DL.loop_find (g := gSet 3) (gb := Fn.law_in_all_ba70_b1) (o := true) (x := .bl false) (fun ρ => ∃ z3, ρ = [some (false, .int x), some (false, .lst (lists.map lI)), some (false, .lst (ks.map kI)), z3]) kI (fun s => decide (x ∈ gP lists s)) ks [some (false, .int x), some (false, .lst (lists.map lI)), some (false, .lst (ks.map kI)), none] ⟨_, rfl⟩ (fun k hkm ρ hρ => by
    obtain ⟨z3, rfl⟩ := hρ
    have e2 := look_lists lists k (hk k hkm)
    refine ⟨_, rfl, fun hp => ?_, fun hp => ?_⟩
    · unfold Fn.law_in_all_ba70_b1 kI
      walk_at "dl"
      rw [e2]
      unfold lI
      walk_at "dl"
      rw [hp]
      walk_at "dl"
      exact ⟨_, rfl, _, rfl⟩
    · unfold Fn.law_in_all_ba70_b1 kI
      walk_at "dl"
      rw [e2]
      unfold lI
      walk_at "dl"
      rw [hp]
      walk_at "dl") with ⟨h1, ρ', h2, z3, rfl⟩ | ⟨h1, h2⟩
  · rw [h1, h2]
    walk_at "dl"
    exact ⟨_, rfl⟩
  · rw [h1, h2]
    walk_at "dl"
    exact ⟨_, rfl⟩
theorem pool_eq (ps : List Int) (lists : List (List Int)) (b : Int) (hb : b ∈ ps) (hl : ps.length ≤ lists.length) (h100 : lists.length ≤ 100) (hs : ∀ l ∈ lists, l.length ≤ 100) : ∃ o, Fn.law_pool_875c [.lst (ps.map .int), .lst (lists.map lI), .int b] = .ok (o, lI (poolOf lists (stepsOf ps b))) := by
  have hsl : ∀ k ∈ stepsOf ps b, k < lists.length := fun k hk => by have := steps_lt k hk; omega
  have hne := steps_ne hb
  have hslen : (stepsOf ps b).length ≤ 100 := by
    unfold stepsOf
    refine Nat.le_trans (List.length_filter_le _ _) ?_
    rw [List.length_range]; omega
  unfold Fn.law_pool_875c; rw [DL.ap_body (by rfl)]; unfold Fn.law_pool_875c_g
  walk_at "dl"
  rw [DL.inR_small (by omega) (by omega)]
  walk_at "dl"
  have hz : (fun (i : Nat) => D.int (0 + (i : Int))) = kI := by funext i; unfold kI; rw [Int.zero_add]
  rw [hz, Int.toNat_natCast]
  rw [DL.lc_is (zs := (stepsOf ps b).map kI) (by rw [List.length_map, List.length_range]; omega) (by
    have := lc_fmap (g := gSet 4) (t := Fn.law_pool_875c_t2) (f := Fn.law_pool_875c_e1) (ρ := [some (false, .lst (ps.map .int)), some (false, .lst (lists.map lI)), some (false, .int b), none, none, none]) kI kI (fun k => decide (ps.getD k 0 = b)) (List.range ps.length) (fun k hk => by
      refine lc_one rfl ?_ fun h => rfl
      unfold Fn.law_pool_875c_t2 kI
      walk_at "dl"
      rw [look ps k (List.mem_range.mp hk)]
      walk_at "dl")
    exact this)]
  walk_at "dl"
  have h0 : 0 < (stepsOf ps b).length := List.length_pos_iff.mpr hne
  have e0 : dIxA (.lst ((stepsOf ps b).map kI)) (.int 0) = .ok (kI ((stepsOf ps b).getD 0 0)) := DL.ixA_lst (by omega) (by
    rw [show (0 : Int).toNat = 0 from rfl, List.getElem?_map, List.getElem?_eq_getElem h0, List.getD_eq_getElem?_getD, List.getElem?_eq_getElem h0]; rfl)
  have hm0 : (stepsOf ps b).getD 0 0 ∈ stepsOf ps b := by
    rw [List.getD_eq_getElem?_getD, List.getElem?_eq_getElem h0]
    exact List.getElem_mem h0
  have e1 := look_lists lists _ (hsl _ hm0)
  rw [e0]
  unfold kI
  walk_at "dl"
  rw [e1]
  unfold lI
  walk_at "dl"
  have hgs := hs _ (gP_mem lists _ (hsl _ hm0))
  rw [DL.lc_is (zs := (poolOf lists (stepsOf ps b)).map .int) (by rw [List.length_map]; omega) (by
    have := lc_fmap (g := gSet 5) (t := Fn.law_pool_875c_t4) (f := Fn.law_pool_875c_e3) (ρ := [some (false, .lst (ps.map .int)), some (false, .lst (lists.map lI)), some (false, .int b), some (false, .lst ((stepsOf ps b).map kI)), none, none]) D.int D.int (fun x => (stepsOf ps b).all fun s => decide (x ∈ gP lists s)) (gP lists ((stepsOf ps b).getD 0 0)) (fun k hk => by
      refine lc_one rfl ?_ fun h => rfl
      obtain ⟨o, e⟩ := in_all_eq k lists (stepsOf ps b) hsl
      unfold Fn.law_pool_875c_t4
      walk_at "dl"
      rw [DL.callO_flat e rfl]
      walk_at "dl")
    exact this)]
  walk_at "dl"
  exact ⟨_, rfl⟩
end Lp
namespace Fn
open PySem DL
end Fn
namespace Sho
open PySem DL Ti Di Sh De Dl Dt Sk Hd Df D2 Tr Me Ma Nu
def sub (few p : List Int) : Bool := p.all fun b => decide (b ∈ few)
theorem in_ints (k : Int) (ns : List Int) (neg : Bool) : dIn neg (.int k) (.lst (ns.map .int)) = .ok (.bl (xorB neg (decide (k ∈ ns)))) := by
  walk_at "dl"
theorem srt_pI (P : List Nat) : ∃ Q : List Nat, srt (pI P) = pI Q ∧ Q.Perm P := by
  refine ⟨(srt (pI P)).map Int.toNat, ?_, ?_⟩
  · unfold pI
    rw [List.map_map]
    refine (List.map_id _).symm.trans (List.map_congr_left fun x hx => ?_)
    obtain ⟨p, -, rfl⟩ := List.mem_map.mp ((srt_perm _).mem_iff.mp hx)
    show (p : Int) = ((p : Int).toNat : Int)
    omega
  · have := (srt_perm (pI P)).map Int.toNat
    refine this.trans ?_
    unfold pI
    rw [List.map_map]
    exact .of_eq ((List.map_congr_left fun x _ => rfl).trans (List.map_id _))
end Sho
namespace Sw
open PySem DL Ti Di Sh De Br Bo Gw Pt Dl Df Pl Rw Po Ma Nu Se Lp Sho
theorem few_short {ps : List Int} {lists : List (List Int)} {P : List Nat} (S : Few (poolsOf ps lists) P) : ∃ Q : List Nat, srt (pI P) = pI Q ∧ Q.Perm P ∧ Q.Nodup ∧ (∀ p ∈ Q, p < U ps) ∧ Q.Pairwise (· < ·) ∧ Q.length ≤ U ps := by
  obtain ⟨Q, hQ, hp⟩ := srt_pI P
  have hnd : Q.Nodup := hp.nodup_iff.mpr S.nd
  have hlt : ∀ p ∈ Q, p < U ps := fun p h => by
    have := S.lt p (hp.mem_iff.mp h)
    rwa [pools_len] at this
  refine ⟨Q, hQ, hp, hnd, hlt, ?_, ?_⟩
  · have hs := srt_sorted (pI P)
    rw [hQ] at hs
    unfold pI at hs
    rw [List.pairwise_map] at hs
    have := hs.and hnd
    exact this.imp fun h => by
      have h1 := h.1
      have h2 := h.2
      omega
  · have := nodup_len (l := pI Q) (m := pI (List.range (U ps))) (by
      unfold pI List.Nodup
      rw [List.pairwise_map]
      exact hnd.imp fun h e => h (by omega)) fun x hx => by
        obtain ⟨p, hp, rfl⟩ := List.mem_map.mp hx
        exact List.mem_map.mpr ⟨p, List.mem_range.mpr (hlt p hp), rfl⟩
    unfold pI at this
    rw [List.length_map, List.length_map, List.length_range] at this
    exact this
section
variable (lists : List (List Int)) (ties : List Tie) (h10 : lists.length ≤ 10) (hs : ∀ l ∈ lists, l.length ≤ 100) (ht : ∀ t ∈ ties, TieOk lists.length t)
include h10 hs ht
end
end Sw
namespace Fn
open PySem DL
end Fn
namespace Fn
open PySem DL
end Fn
namespace Fn
open PySem DL
end Fn
namespace Fb
open PySem DL Ti Di Br Bo
def bk (ps : List Int) (ts : List Tie) (k : Nat) : Bool := match ts[k]? with
  | some t => breaksB ps t.1 t.2.1 t.2.2
  | none => false
end Fb
namespace So
open PySem DL Ti Di Sh De Br Bo Gw Pt Dl Df Sk Pl Rw Po Ma Se Fb
theorem pools_of_eq2 (ps : List Int) (hp : IsP ps) (lists : List (List Int)) (hl : ps.length ≤ lists.length) (h100 : lists.length ≤ 100) (hs : ∀ l ∈ lists, l.length ≤ 100) : Fn.pools_of_4d0e [.lst (ps.map .int), .lst (lists.map lI)] = .ok (true, .lst ((poolsOf ps lists).map lI)) := by
  unfold Fn.pools_of_4d0e; rw [DL.ap_body (by rfl)]; unfold Fn.pools_of_4d0e_g
  walk_at "dl"
  have hen : enumD (ps.map .int) = (List.range ps.length).map fun i : Nat => D.tup [.int (i : Nat), .int (ps.getD i 0)] := by
    unfold enumD
    refine List.ext_getElem (by rw [List.length_mapIdx, List.length_map, List.length_map, List.length_range]) fun i i1 i2 => ?_
    rw [List.length_map, List.length_range] at i2
    rw [List.getElem_mapIdx, List.getElem_map, List.getElem_map, List.getElem_range, List.getD_eq_getElem?_getD, List.getElem?_eq_getElem i2]
    rfl
  rw [hen]
  obtain ⟨ρ', h1, z3, z4, h2⟩ := DL.loop_at (g := gSeqD 2 (gsCons (gSet 3) (gsCons (gSet 4) gsNil))) (gb := Fn.pools_of_4d0e_b1) (fun i : Nat => D.tup [.int (i : Nat), .int (ps.getD i 0)]) (List.range ps.length)
    (fun i ρ => ∃ (z3 z4 : DL.Slot), ρ = [some (false, .lst (ps.map .int)), some (false, .lst (lists.map lI)), some (true, .lst ((poolsOf (ps.take i) lists).map lI)), z3, z4]) _ ⟨none, none, rfl⟩ (fun i a ρ ha ⟨z3, z4, hρ⟩ => by
      subst hρ
      have hi := DL.at_lt ha
      rw [List.getElem?_eq_getElem hi, List.getElem_range] at ha
      rw [List.length_range] at hi
      cases ha
      have ht : ps.take (i + 1) = ps.take i ++ [ps[i]] := List.take_succ_eq_append_getElem hi
      have hg : ps.getD i 0 = ps[i] := by rw [List.getD_eq_getElem?_getD, List.getElem?_eq_getElem hi]; rfl
      have htl : (ps.take i).length = i := by rw [List.length_take]; omega
      obtain ⟨p1, p2⟩ := take_pt hp i (by omega)
      obtain ⟨p2, p3⟩ := p2 hi
      obtain ⟨s1, s2⟩ := pools_step p1 lists p2 p3
      have hU : U (ps.take i) ≤ i := by
        have := U_le (l := ps.take i) (m := ps.take i) fun x hx => hx
        omega
      have hpl : (poolsOf (ps.take i) lists).length = U (ps.take i) := pools_len _ _
      have hlk := look_lists lists i (by omega)
      rw [hg, ht]
      refine ⟨[some (false, .lst (ps.map .int)), some (false, .lst (lists.map lI)), some (true, .lst ((poolsOf (ps.take i) lists).map lI)), some (false, .int (i : Int)), some (false, .int ps[i])], rfl, ?_⟩
      rw [htl] at s1 s2
      unfold Fn.pools_of_4d0e_b1
      walk_at "dl"
      rw [hpl]
      by_cases hc : ps[i] = (U (ps.take i) : Int)
      · rw [decide_eq_true hc]
        walk_at "dl"
        rw [hlk]
        unfold lI
        walk_at "dl"
        rw [DL.app_ok (by rw [List.length_map]; omega)]
        refine ⟨_, rfl, some (false, .int (i : Int)), some (false, .int ps[i]), ?_⟩
        rw [s1 hc, List.map_append]; rfl
      · rw [decide_eq_false hc]
        walk_at "dl"
        have hlt : ps[i] < (U (ps.take i) : Int) := by omega
        have hjl : ps[i].toNat < (poolsOf (ps.take i) lists).length := by omega
        have hgp : gP (poolsOf (ps.take i) lists) ps[i].toNat = (poolsOf (ps.take i) lists)[ps[i].toNat] := by
          unfold gP
          rw [List.getD_eq_getElem?_getD, List.getElem?_eq_getElem hjl]; rfl
        rw [DL.ixA_lst p2 (row_at _ _ hjl), hlk]
        unfold lI
        walk_at "dl"
        rw [DL.callE_of (common_eq _ _ (by have := pools_small hs (ps.take i) _ (List.getElem_mem hjl); omega))]
        walk_at "dl"
        rw [putA_lst p2 (by rw [List.length_map]; omega)]
        walk_at "dl"
        refine ⟨_, rfl, some (false, .int (i : Int)), some (false, .int ps[i]), ?_⟩
        rw [s2 hlt, hgp]
        have := set_row (poolsOf (ps.take i) lists) ps[i].toNat ((poolsOf (ps.take i) lists)[ps[i].toNat].filter fun x => decide (x ∈ gP lists i))
        unfold lI at this
        rw [this])
  have h1' : loopD (gSeqD 2 (gsCons (gSet 3) (gsCons (gSet 4) gsNil))) Fn.pools_of_4d0e_b1 ((List.range ps.length).map fun i : Nat => D.tup [.int (i : Nat), .int (ps.getD i 0)]) [some (false, .lst (ps.map .int)), some (false, .lst (lists.map lI)), some (true, .lst []), none, none] = .ok (.next ρ') := h1
  rw [h1']
  subst h2
  walk_at "dl"
  rw [List.take_length]
section
variable (lists : List (List Int)) (ties : List Tie) (h10 : lists.length ≤ 10) (hs : ∀ l ∈ lists, l.length ≤ 100) (ht : ∀ t ∈ ties, TieOk lists.length t)
include h10 hs ht
end
end So
namespace Sf
open PySem DL Ti Di Sh De Br Bo Gw Pt Dl Df Pl Rw Po Ma Nu Se Lp Sho Sw So
theorem isw_eq (n : Int) : ∃ o, Fn.is_whole_9e39 [.int n] = .ok (o, .bl true) := by
  unfold Fn.is_whole_9e39; rw [DL.ap_body (by rfl)]; unfold Fn.is_whole_9e39_g
  walk_at "dl"
  exact ⟨_, rfl⟩
def jn2 (s p : List Int) : List Int := srt (s ++ p.filter fun x => decide (x ∉ s))
theorem joined_eq2 (s p : List Int) (h : s.length + p.length ≤ 100000) : ∃ o, Fn.joined_a161 [.lst (s.map .int), .lst (p.map .int)] = .ok (o, .lst ((jn2 s p).map .int)) := by
  have hw : ∃ o, Fn.without_7dfd [.lst (p.map .int), .lst (s.map .int)] = .ok (o, .lst ((p.filter fun x => decide (x ∉ s)).map .int)) := by
    unfold Fn.without_7dfd; rw [DL.ap_body (by rfl)]; unfold Fn.without_7dfd_g
    walk_at "dl"
    rw [DL.lc_is (zs := (p.filter fun x => decide (x ∉ s)).map .int) (by rw [List.length_map]; omega) (by
      exact lc_fmap (g := gSet 2) (t := Fn.without_7dfd_t2) (f := Fn.without_7dfd_e1) (ρ := [some (false, .lst (p.map .int)), some (false, .lst (s.map .int)), none]) D.int D.int (fun x => decide (x ∉ s)) p (fun x hx => by
        refine lc_one rfl ?_ fun _ => rfl
        unfold Fn.without_7dfd_t2
        walk_at "dl"
        by_cases hm : x ∈ s
        · rw [decide_eq_true hm, decide_eq_false (fun z => z hm)]; rfl
        · rw [decide_eq_false hm, decide_eq_true hm]; rfl))]
    walk_at "dl"
    exact ⟨_, rfl⟩
  obtain ⟨o, e⟩ := hw
  have hl := List.length_filter_le (fun x => decide (x ∉ s)) p
  unfold Fn.joined_a161; rw [DL.ap_body (by rfl)]; unfold Fn.joined_a161_g
  walk_at "dl"
  rw [DL.callE_of e]
  walk_at "dl"
  rw [DL.small_of (by omega)]
  walk_at "dl"
  rw [← List.map_append]
  walk_at "dl"
  exact ⟨_, rfl⟩
theorem mem_jn2 {s p : List Int} {x : Int} : x ∈ jn2 s p ↔ x ∈ s ∨ x ∈ p := by
  unfold jn2
  rw [(srt_perm _).mem_iff, List.mem_append, List.mem_filter, decide_eq_true_iff]
  constructor
  · rintro (h | h)
    · exact .inl h
    · exact .inr h.1
  · rintro (h | h)
    · exact .inl h
    · by_cases hs : x ∈ s
      · exact .inl hs
      · exact .inr ⟨h, hs⟩
theorem jn2_len (s p : List Int) : (jn2 s p).length ≤ s.length + p.length := by
  unfold jn2
  rw [(srt_perm _).length_eq, List.length_append]
  have := List.length_filter_le (fun x => decide (x ∉ s)) p
  omega
theorem jn2_nodup {s p : List Int} (hs : s.Nodup) (hp : p.Nodup) : (jn2 s p).Nodup := by
  unfold jn2
  rw [(srt_perm _).nodup_iff, List.nodup_append]
  refine ⟨hs, hp.filter _, fun a ha b hb e => ?_⟩
  have := of_decide_eq_true (List.mem_filter.mp hb).2
  exact this (e ▸ ha)
def shR (pools : List (List Int)) : Int → List Int → List Int → Option (List Int)
  | _, s, [] => some s
  | last, s, b :: bs => if b ≤ last ∨ (pools.length : Int) ≤ b then none else shR pools b (jn2 s (gP pools b.toNat)) bs
theorem look_p (pools : List (List Int)) {b : Int} (h0 : 0 ≤ b) (h : b < pools.length) : dIxA (.lst (pools.map lI)) (.int b) = .ok (.lst ((gP pools b.toNat).map .int)) := DL.ixA_lst h0 (by
  unfold gP
  rw [List.getElem?_map, List.getD_eq_getElem?_getD, List.getElem?_eq_getElem (by omega)]; rfl)
theorem gP_sm {pools : List (List Int)} (hs : ∀ p ∈ pools, p.length ≤ 100) (k : Nat) : (gP pools k).length ≤ 100 := by
  unfold gP
  rw [List.getD_eq_getElem?_getD]
  by_cases h : k < pools.length
  · rw [List.getElem?_eq_getElem h]; exact hs _ (List.getElem_mem h)
  · rw [List.getElem?_eq_none (by omega)]; exact Nat.zero_le _
theorem short_loop (pools : List (List Int)) (hp : pools.length ≤ 10) (hs : ∀ p ∈ pools, p.length ≤ 100) (B : D) : ∀ (bs : List Int) (last : Int) (s : List Int) (z4 : DL.Slot), -1 ≤ last → last ≤ 10 → (s.length : Int) ≤ 100 * (last + 1) →
    ∃ r, loopD (gSet 4) Fn.are_short_b850_b1 (bs.map .int) [some (false, .lst (pools.map lI)), some (false, B), some (false, .int last), some (false, .lst (s.map .int)), z4] = r ∧ ((shR pools last s bs = none ∧ r = .ok (.ret true (.bl false))) ∨ ∃ (s' : List Int) (l' : Int) (z4' : DL.Slot), shR pools last s bs = some s' ∧ r = .ok (.next [some (false, .lst (pools.map lI)), some (false, B), some (false, .int l'), some (false, .lst (s'.map .int)), z4']))
  | [], last, s, z4, _, _, _ => ⟨_, rfl, .inr ⟨s, last, z4, rfl, rfl⟩⟩
  | b :: bs, last, s, z4, h1, h2, h3 => by
    obtain ⟨o1, e1⟩ := isw_eq b
    rw [List.map_cons, DL.ap_loop1]
    unfold shR
    have hb : Fn.are_short_b850_b1 [some (false, .lst (pools.map lI)), some (false, B), some (false, .int last), some (false, .lst (s.map .int)), some (false, .int b)] = if b ≤ last ∨ (pools.length : Int) ≤ b then .ok (.ret true (.bl false)) else .ok (.next [some (false, .lst (pools.map lI)), some (false, B), some (false, .int b), some (false, .lst ((jn2 s (gP pools b.toNat)).map .int)), some (false, .int b)]) := by
      unfold Fn.are_short_b850_b1
      walk_at "dl"
      rw [DL.callO_flat e1 rfl]
      walk_at "dl"
      by_cases c1 : b ≤ last
      · rw [decide_eq_true c1, if_pos (.inl c1)]
        walk_at "dl"
      · rw [decide_eq_false c1]
        walk_at "dl"
        by_cases c2 : (pools.length : Int) ≤ b
        · rw [decide_eq_true c2, if_pos (.inr c2)]
          walk_at "dl"
        · rw [decide_eq_false c2, if_neg (fun h => h.elim c1 c2)]
          walk_at "dl"
          have hgs := gP_sm hs b.toNat
          obtain ⟨o2, e2⟩ := joined_eq2 s (gP pools b.toNat) (by omega)
          rw [look_p pools (by omega) (by omega)]
          walk_at "dl"
          rw [DL.callE_of e2]
          walk_at "dl"
    walk_at "dl"
    rw [hb]
    by_cases hc : b ≤ last ∨ (pools.length : Int) ≤ b
    · rw [if_pos hc, if_pos hc]
      exact ⟨_, rfl, .inl ⟨rfl, rfl⟩⟩
    · rw [if_neg hc, if_neg hc]
      have h4 := jn2_len s (gP pools b.toNat)
      have h5 := gP_sm hs b.toNat
      rw [not_or] at hc
      walk_at "dl"
      exact short_loop pools hp hs B bs b (jn2 s (gP pools b.toNat)) (some (false, .int b)) (by omega) (by omega) (by omega)
theorem shR_some {pools : List (List Int)} (hn : ∀ p ∈ pools, p.Nodup) : ∀ {bs : List Int} {last : Int} {s s' : List Int}, s.Nodup → shR pools last s bs = some s' → s'.Nodup ∧ (∀ b ∈ bs, last < b ∧ b < pools.length) ∧ bs.Pairwise (· < ·) ∧ ∀ x, x ∈ s' ↔ x ∈ s ∨ ∃ b ∈ bs, x ∈ gP pools b.toNat
  | [], _, s, _, h1, h2 => by
    cases h2
    exact ⟨h1, (fun _ h => by cases h), .nil, fun x => ⟨.inl, fun h => h.elim id fun ⟨b, hb, _⟩ => by cases hb⟩⟩
  | b :: bs, last, s, s', h1, h2 => by
    unfold shR at h2
    split at h2
    · cases h2
    · rename_i hc
      rw [not_or] at hc
      have hg : (gP pools b.toNat).Nodup := by
        unfold gP
        rw [List.getD_eq_getElem?_getD]
        by_cases h : b.toNat < pools.length
        · rw [List.getElem?_eq_getElem h]; exact hn _ (List.getElem_mem h)
        · rw [List.getElem?_eq_none (by omega)]; exact List.nodup_nil
      obtain ⟨a1, a2, a3, a4⟩ := shR_some hn (jn2_nodup h1 hg) h2
      refine ⟨a1, fun c hc' => ?_, List.pairwise_cons.mpr ⟨fun c hc' => (a2 c hc').1, a3⟩, fun x => ?_⟩
      · rcases List.mem_cons.mp hc' with rfl | h
        · omega
        · have := a2 c h
          omega
      · rw [a4 x, mem_jn2]
        constructor
        · rintro ((h | h) | ⟨c, hc', h⟩)
          · exact .inl h
          · exact .inr ⟨b, List.mem_cons_self, h⟩
          · exact .inr ⟨c, List.mem_cons_of_mem _ hc', h⟩
        · rintro (h | ⟨c, hc', h⟩)
          · exact .inl (.inl h)
          · rcases List.mem_cons.mp hc' with rfl | h'
            · exact .inl (.inr h)
            · exact .inr ⟨c, h', h⟩
theorem shR_ex {pools : List (List Int)} : ∀ {bs : List Int} {last : Int} {s : List Int}, (∀ b ∈ bs, last < b ∧ b < pools.length) → bs.Pairwise (· < ·) → ∃ s', shR pools last s bs = some s'
  | [], _, s, _, _ => ⟨s, rfl⟩
  | b :: bs, last, s, h1, h2 => by
    have hb := h1 b List.mem_cons_self
    unfold shR
    rw [if_neg (by omega)]
    have h3 := List.pairwise_cons.mp h2
    exact shR_ex (fun c hc => ⟨h3.1 c hc, (h1 c (List.mem_cons_of_mem _ hc)).2⟩) h3.2
theorem are_short_eq (pools : List (List Int)) (hp : pools.length ≤ 10) (hs : ∀ p ∈ pools, p.length ≤ 100) (hn : ∀ p ∈ pools, p.Nodup) (bs : List Int) : ∃ (o b : Bool), Fn.are_short_b850 [.lst (pools.map lI), .lst (bs.map .int)] = .ok (o, .bl b) ∧ (b = true ↔ ∃ P, Few pools P ∧ bs = srt (pI P)) := by
  have key : ∀ s', shR pools (-1) [] bs = some s' → (s'.length < bs.length ↔ ∃ P, Few pools P ∧ bs = srt (pI P)) := fun s' hs' => by
    obtain ⟨a1, a2, a3, a4⟩ := shR_some hn List.nodup_nil hs'
    constructor
    · intro hlt
      have hpi : pI (bs.map Int.toNat) = bs := by
        unfold pI
        rw [List.map_map]
        refine (List.map_congr_left fun x hx => ?_).trans (List.map_id _)
        have := (a2 x hx).1
        show ((x.toNat : Nat) : Int) = x
        omega
      refine ⟨bs.map Int.toNat, ⟨?_, fun p hp => ?_, s' ++ List.replicate (bs.length - 1 - s'.length) 0, ?_, fun p hp b hb => ?_⟩, ?_⟩
      · unfold List.Nodup
        rw [List.pairwise_map]
        refine a3.imp_of_mem fun {x y} hx hy h e => ?_
        have := (a2 x hx).1
        have := (a2 y hy).1
        omega
      · obtain ⟨x, hx, rfl⟩ := List.mem_map.mp hp
        have := a2 x hx
        omega
      · rw [List.length_append, List.length_replicate, List.length_map]
        omega
      · obtain ⟨x, hx, rfl⟩ := List.mem_map.mp hp
        exact List.mem_append_left _ ((a4 b).mpr (.inr ⟨x, hx, hb⟩))
      · rw [hpi]
        exact srt_of (.refl _) (a3.imp fun h => Int.le_of_lt h)
    · rintro ⟨P, hP, hbs⟩
      obtain ⟨cs, hcl, hcs⟩ := hP.ex
      have h1 := nodup_len a1 (m := cs) fun x hx => by
        rcases (a4 x).mp hx with h | ⟨b, hb, h⟩
        · cases h
        · rw [hbs, (srt_perm _).mem_iff] at hb
          obtain ⟨p, hp, rfl⟩ := List.mem_map.mp hb
          exact hcs p hp x h
      have h2 : bs.length = P.length := by
        rw [hbs, (srt_perm _).length_eq]
        unfold pI
        rw [List.length_map]
      omega
  obtain ⟨r, e, hr⟩ := short_loop pools hp hs (.lst (bs.map .int)) bs (-1) [] none (by omega) (by omega) (by simp)
  unfold Fn.are_short_b850; rw [DL.ap_body (by rfl)]; unfold Fn.are_short_b850_g
  walk_at "dl"
  have e' : loopD (gSet 4) Fn.are_short_b850_b1 (bs.map .int) [some (false, .lst (pools.map lI)), some (false, .lst (bs.map .int)), some (false, .int (-1)), some (false, .lst []), none] = r := e
  rw [e']
  rcases hr with ⟨h1, rfl⟩ | ⟨s', l', z4', h1, rfl⟩
  · walk_at "dl"
    refine ⟨_, false, rfl, ⟨(fun h => by cases h), ?_⟩⟩
    rintro ⟨P, hP, hbs⟩
    obtain ⟨Q, hQ, hpm, hnd, hlt, hlts⟩ : ∃ Q : List Nat, srt (pI P) = pI Q ∧ Q.Perm P ∧ Q.Nodup ∧ (∀ p ∈ Q, p < pools.length) ∧ Q.Pairwise (· < ·) := by
      obtain ⟨Q, hQ, hp⟩ := srt_pI P
      have hnd : Q.Nodup := hp.nodup_iff.mpr hP.nd
      refine ⟨Q, hQ, hp, hnd, fun p h => hP.lt p (hp.mem_iff.mp h), ?_⟩
      have hs := srt_sorted (pI P)
      rw [hQ] at hs
      unfold pI at hs
      rw [List.pairwise_map] at hs
      exact (hs.and hnd).imp fun h => by
        have h1 := h.1
        have h2 := h.2
        omega
    obtain ⟨s', hs'⟩ := shR_ex (pools := pools) (bs := bs) (last := -1) (s := []) (fun b hb => by
      rw [hbs, hQ] at hb
      obtain ⟨p, hp, rfl⟩ := List.mem_map.mp hb
      have := hlt p hp
      omega) (by
      rw [hbs, hQ]
      unfold pI
      rw [List.pairwise_map]
      exact hlts.imp fun h => by omega)
    rw [h1] at hs'
    cases hs'
  · walk_at "dl"
    refine ⟨_, _, rfl, ?_⟩
    rw [decide_eq_true_iff, ← key s' h1]
    omega
inductive Wf : D → Prop
  | tie (i : Int) : Wf (.tup [.str (Str.ofString "tie"), .int i])
  | short (bs : List Int) : Wf (.tup [.str (Str.ofString "short"), .lst (bs.map .int)])
  | split (ds : List D) : (∀ k (h : k < ds.length), Wf ds[k]) → Wf (.tup [.str (Str.ofString "split"), .lst ds])
section
variable {lists : List (List Int)} {ties : List Tie} {ps : List Int}
theorem n1 : Str.ofString "tie" ≠ Str.ofString "short" := by decide +kernel
theorem n2 : Str.ofString "tie" ≠ Str.ofString "split" := by decide +kernel
theorem n3 : Str.ofString "short" ≠ Str.ofString "split" := by decide +kernel
theorem shw_inv {d : D} (S : Shw lists ties ps d) : (∃ (i : Nat) (h : i < ties.length), bkB ps ties[i] = true ∧ d = .tup [.str (Str.ofString "tie"), .int (i : Int)]) ∨ (∃ P, Few (poolsOf ps lists) P ∧ d = .tup [.str (Str.ofString "short"), .lst ((srt (pI P)).map .int)]) ∨ ∃ ds : List D, ps.length < lists.length ∧ ds.length = U ps + 1 ∧ (∀ k (hk : k < ds.length), Shw lists ties (ps ++ [(k : Int)]) ds[k]) ∧ d = .tup [.str (Str.ofString "split"), .lst ds] := by
  cases S with
  | tie i h hb => exact .inl ⟨i, h, hb, rfl⟩
  | short P hP => exact .inr (.inl ⟨P, hP, rfl⟩)
  | split ds h1 h2 h3 => exact .inr (.inr ⟨ds, h1, h2, h3, rfl⟩)
theorem ints_inj {a b : List Int} (h : a.map D.int = b.map D.int) : a = b := by
  refine List.map_inj_right (fun x y e => by injection e) |>.mp h
theorem shw_tie {i : Int} : Shw lists ties ps (.tup [.str (Str.ofString "tie"), .int i]) ↔ ∃ (k : Nat) (h : k < ties.length), i = (k : Int) ∧ bkB ps ties[k] = true := by
  constructor
  · intro S
    rcases shw_inv S with ⟨k, h, hb, e⟩ | ⟨P, _, e⟩ | ⟨ds, _, _, _, e⟩
    · injection e with e
      injection e with _ e
      injection e with e _
      injection e with e
      exact ⟨k, h, e, hb⟩
    · injection e with e
      injection e with e _
      injection e with e
      exact absurd e n1
    · injection e with e
      injection e with e _
      injection e with e
      exact absurd e n2
  · rintro ⟨k, h, rfl, hb⟩
    exact .tie k h hb
theorem shw_split {ds : List D} : Shw lists ties ps (.tup [.str (Str.ofString "split"), .lst ds]) ↔ ps.length < lists.length ∧ ds.length = U ps + 1 ∧ ∀ k (hk : k < ds.length), Shw lists ties (ps ++ [(k : Int)]) ds[k] := by
  constructor
  · intro S
    rcases shw_inv S with ⟨k, h, hb, e⟩ | ⟨P, hP, e⟩ | ⟨ds', a1, a2, a3, e⟩
    · injection e with e
      injection e with e _
      injection e with e
      exact absurd e.symm n2
    · injection e with e
      injection e with e _
      injection e with e
      exact absurd e.symm n3
    · injection e with e
      injection e with _ e
      injection e with e _
      injection e with e
      subst e
      exact ⟨a1, a2, a3⟩
  · rintro ⟨a1, a2, a3⟩
    exact .split ds a1 a2 a3
end
theorem pool_nodup {lists : List (List Int)} (hn : ∀ l ∈ lists, l.Nodup) (ps : List Int) : ∀ p ∈ poolsOf ps lists, p.Nodup := fun p hp => by
  obtain ⟨b, _, rfl⟩ := List.mem_map.mp hp
  show (poolOf lists (stepsOf ps (b : Int))).Nodup
  unfold poolOf
  refine List.Nodup.sublist List.filter_sublist ?_
  unfold gP
  rw [List.getD_eq_getElem?_getD]
  by_cases h : (stepsOf ps (b : Int)).getD 0 0 < lists.length
  · rw [List.getElem?_eq_getElem h]; exact hn _ (List.getElem_mem h)
  · rw [List.getElem?_eq_none (by omega)]; exact List.nodup_nil
section
variable (lists : List (List Int)) (ties : List Tie) (h10 : lists.length ≤ 10) (hs : ∀ l ∈ lists, l.length ≤ 100) (hn : ∀ l ∈ lists, l.Nodup) (ht : ∀ t ∈ ties, TieOk lists.length t)
include h10 hs hn ht
end
end Sf
namespace Lc
open PySem DL Ti Gw
theorem lc_map {α : Type} {i : Nat} {f : En → R D} {ρ : En} (F G : α → D) (xs : List α) (hl : xs.length ≤ 1000000) (hf : ∀ a ∈ xs, f ((wipeR ρ [i]).set i (some (false, F a))) = .ok (G a)) : lcK (.ok (xs.map F)) [i] (gSet i) tYesD f ρ = .ok (.lst (xs.map G)) := by
  refine DL.lc_is (by rw [List.length_map]; exact hl) ?_
  have := lc_fmap (g := gSet i) (t := tYesD) (f := f) (ρ := wipeR ρ [i]) F G (fun _ => true) xs (fun a ha => lc_one rfl rfl fun _ => hf a ha)
  rw [List.filter_eq_self.mpr (fun _ _ => rfl)] at this
  exact this
theorem lc_rows {i : Nat} {f : En → R D} {ρ : En} (ls : List (List Int)) (hl : ls.length ≤ 1000000) (hf : ∀ l ∈ ls, f ((wipeR ρ [i]).set i (some (false, .lst (l.map .int)))) = .ok (.lst (l.map .int))) : lcK (.ok (ls.map lI)) [i] (gSet i) tYesD f ρ = .ok (.lst (ls.map lI)) := lc_map lI lI ls hl hf
end Lc
namespace Ap
open PySem DL Ti Di Sh De Br Bo Gw Pt Dl Df Pl Rw Po Ma Nu Se Lp Sho Sw So Sf Lc
def HeadOk (h : D) : Prop := h = .non ∨ (∃ i, h = .int i) ∨ (∃ s, h = .str s) ∨ h = .lst [.str (Str.ofString "tie")]
inductive Dt : Bool → D → Prop
  | non {k : Bool} : Dt k .non
  | bl {k : Bool} (b : Bool) : Dt k (.bl b)
  | int {k : Bool} (i : Int) : Dt k (.int i)
  | str {k : Bool} (s : Str) : Dt k (.str s)
  | lstP (ds : List D) : Dt true (.lst ds)
  | tupR (ds : List D) : Dt false (.tup ds)
  | lst (ds : List D) : ds.length ≤ 100 → (∀ d ∈ ds, Dt true d) → Dt false (.lst ds)
  | tup (ds : List D) : (∀ h r, ds = [h, r] → HeadOk h) → (∀ h r, ds = [h, r] → Dt false r) → Dt true (.tup ds)
abbrev Dat (d : D) : Prop := Dt true d
def isI : D → Bool
  | .int _ => true
  | _ => false
theorem whole_any {k : Bool} {d : D} (h : Dt k d) : ∃ o, Fn.law_whole_9e39 [d] = .ok (o, .bl (isI d)) := by
  cases h with
  | bl b =>
    unfold Fn.law_whole_9e39; rw [DL.ap_body (by rfl)]; unfold Fn.law_whole_9e39_g
    exact ⟨_, rfl⟩
  | int i => exact whole_eq i
  | _ =>
    unfold Fn.law_whole_9e39; rw [DL.ap_body (by rfl)]; unfold Fn.law_whole_9e39_g
    exact ⟨_, rfl⟩
theorem isI_of {d : D} (h : isI d = true) : ∃ i, d = .int i := by
  cases d with
  | int i => exact ⟨i, rfl⟩
  | _ => exact nomatch h
theorem few_key {pools : List (List Int)} {bs s' : List Int} (a1 : s'.Nodup) (a2 : ∀ b ∈ bs, 0 ≤ b ∧ b < pools.length) (a3 : bs.Pairwise (· < ·)) (a4 : ∀ x, x ∈ s' ↔ ∃ b ∈ bs, x ∈ gP pools b.toNat) : s'.length < bs.length ↔ ∃ P, Few pools P ∧ bs = srt (pI P) := by
  constructor
  · intro hlt
    have hpi : pI (bs.map Int.toNat) = bs := by
      unfold pI
      rw [List.map_map]
      refine (List.map_congr_left fun x hx => ?_).trans (List.map_id _)
      have := (a2 x hx).1
      show ((x.toNat : Nat) : Int) = x
      omega
    refine ⟨bs.map Int.toNat, ⟨?_, fun p hp => ?_, s' ++ List.replicate (bs.length - 1 - s'.length) 0, ?_, fun p hp b hb => ?_⟩, ?_⟩
    · unfold List.Nodup
      rw [List.pairwise_map]
      refine a3.imp_of_mem fun {x y} hx hy h e => ?_
      have := (a2 x hx).1
      have := (a2 y hy).1
      omega
    · obtain ⟨x, hx, rfl⟩ := List.mem_map.mp hp
      have := a2 x hx
      omega
    · rw [List.length_append, List.length_replicate, List.length_map]
      omega
    · obtain ⟨x, hx, rfl⟩ := List.mem_map.mp hp
      exact List.mem_append_left _ ((a4 b).mpr ⟨x, hx, hb⟩)
    · rw [hpi]
      exact srt_of (.refl _) (a3.imp fun h => Int.le_of_lt h)
  · rintro ⟨P, hP, hbs⟩
    obtain ⟨cs, hcl, hcs⟩ := hP.ex
    have h1 := nodup_len a1 (m := cs) fun x hx => by
      obtain ⟨b, hb, h⟩ := (a4 x).mp hx
      rw [hbs, (srt_perm _).mem_iff] at hb
      obtain ⟨p, hp, rfl⟩ := List.mem_map.mp hb
      exact hcs p hp x h
    have h2 : bs.length = P.length := by
      rw [hbs, (srt_perm _).length_eq]
      unfold pI
      rw [List.length_map]
    omega
def Up (ps : List Int) (items : List D) : Prop := ∃ bs : List Int, items = bs.map .int ∧ bs.Pairwise (· < ·) ∧ ∀ b ∈ bs, b ∈ ps
theorem few_up {ps : List Int} (hp : IsP ps) {lists : List (List Int)} {P : List Nat} {items : List D} (S : Few (poolsOf ps lists) P) (h : items = (srt (pI P)).map .int) : Up ps items := by
  obtain ⟨Q, hQ, hpm, hnd, hlt, hlts, hlQ⟩ := few_short S
  refine ⟨srt (pI P), h, ?_, fun b hb => ?_⟩
  · rw [hQ]
    unfold pI
    rw [List.pairwise_map]
    exact hlts.imp fun h => by omega
  · rw [hQ] at hb
    obtain ⟨p, hp', rfl⟩ := List.mem_map.mp hb
    have := hlt p hp'
    exact pt_mem hp (by omega) (by omega)
theorem up_at {ps : List Int} {items : List D} (h : Up ps items) {i : Nat} (hi : i < items.length) : ∃ b, items[i] = .int b ∧ b ∈ ps ∧ ∀ b', 0 < i → items[i - 1]? = some (.int b') → b' < b := by
  obtain ⟨bs, rfl, h1, h2⟩ := h
  rw [List.length_map] at hi
  refine ⟨bs[i], by rw [List.getElem_map], h2 _ (List.getElem_mem hi), fun b' h0 e => ?_⟩
  rw [List.getElem?_map, List.getElem?_eq_getElem (by omega)] at e
  cases e
  exact List.pairwise_iff_getElem.mp h1 (i - 1) i (by omega) hi (by omega)
section
variable (ps : List Int) (hp : IsP ps) (lists : List (List Int)) (hl : ps.length ≤ lists.length) (h10 : lists.length ≤ 10) (hs : ∀ l ∈ lists, l.length ≤ 100)
include hp hl h10 hs
theorem short_lst (items : List D) (hil : items.length ≤ 100) (hit : ∀ d ∈ items, Dat d) : ∃ (o b : Bool), Fn.law_short_f143 [.lst (ps.map .int), .lst (lists.map lI), .lst items] = .ok (o, .bl b) ∧ (b = true ↔ ∃ P, Few (poolsOf ps lists) P ∧ items = (srt (pI P)).map .int) := by
  have hU : U ps ≤ ps.length := U_le fun x hx => hx
  unfold Fn.law_short_f143; rw [DL.ap_body (by rfl)]; unfold Fn.law_short_f143_g
  walk_at "dl"
  rw [DL.inR_small (by omega) (by omega)]
  walk_at "dl"
  rw [Int.toNat_natCast]
  have := DL.loop_ind (g := gSet 4) (gb := Fn.law_short_f143_b2) (W := fun r => (r = .ok (.ret true (.bl false)) ∧ ¬ Up ps items) ∨ ∃ (bs : List Int) (kvs : List (Int × D)) (z4 z5 : DL.Slot), items = bs.map .int ∧ bs.Pairwise (· < ·) ∧ (∀ b ∈ bs, b ∈ ps) ∧ (keys kvs).Nodup ∧ (∀ x, x ∈ keys kvs ↔ ∃ b ∈ bs, x ∈ poolOf lists (stepsOf ps b)) ∧ r = .ok (.next [some (false, .lst (ps.map .int)), some (false, .lst (lists.map lI)), some (false, .lst items), some (true, dKI kvs), z4, z5]))
    ((List.range items.length).map fun i : Nat => D.int (0 + (i : Int)))
    (fun i ρ => ∃ (bs : List Int) (kvs : List (Int × D)) (z4 z5 : DL.Slot), items.take i = bs.map .int ∧ bs.Pairwise (· < ·) ∧ (∀ b ∈ bs, b ∈ ps) ∧ (keys kvs).Nodup ∧ (∀ x, x ∈ keys kvs ↔ ∃ b ∈ bs, x ∈ poolOf lists (stepsOf ps b)) ∧ kvs.length ≤ 1000 * i ∧ ρ = [some (false, .lst (ps.map .int)), some (false, .lst (lists.map lI)), some (false, .lst items), some (true, dKI kvs), z4, z5])
    [some (false, .lst (ps.map .int)), some (false, .lst (lists.map lI)), some (false, .lst items), some (true, dKI []), none, none] ⟨[], [], none, none, rfl, .nil, (fun _ h => nomatch h), List.nodup_nil, (fun x => ⟨fun h => (nomatch h), fun ⟨b, hb, _⟩ => nomatch hb⟩), Nat.zero_le _, rfl⟩ (by
      rintro i d ρ hd ⟨bs, kvs, z4, z5, k1, k2, k3, k4, k5, k6, rfl⟩
      have hi := DL.at_lt hd
      rw [List.length_map, List.length_range] at hi
      have hd' : d = .int (0 + (i : Int)) := by
        rw [List.getElem?_map, List.getElem?_range hi] at hd
        cases hd; rfl
      subst hd'
      have hbl : bs.length = i := by
        have := congrArg List.length k1
        rw [List.length_map, List.length_take] at this
        omega
      refine ⟨[some (false, .lst (ps.map .int)), some (false, .lst (lists.map lI)), some (false, .lst items), some (true, dKI kvs), some (false, .int (0 + (i : Int))), z5], rfl, ?_⟩
      have hq : dIxA (.lst items) (.int (0 + (i : Int))) = .ok items[i] := DL.ixA_lst (by omega) (by
        rw [show (0 + (i : Int)).toNat = i by omega]; exact List.getElem?_eq_getElem hi)
      obtain ⟨o1, e1⟩ := whole_any (hit _ (List.getElem_mem hi))
      unfold Fn.law_short_f143_b2
      generalize hR : (sFor (itr (nop (aCons (rdE 0) (aCons (rdE 1) (aCons (bop (rd 2) (rd 4) dIxA) aNil))) (callE Fn.law_pool_875c))) (gSet 5) Fn.law_short_f143_b1) = rest
      walk_at "dl"
      cases hI : isI items[i] with
      | false =>
        rw [hI] at e1
        rw [hq]
        walk_at "dl"
        rw [DL.callO_flat e1 rfl]
        walk_at "dl"
        refine .inr (.inr (.inl ⟨_, _, rfl, .inl ⟨rfl, fun h => ?_⟩⟩))
        obtain ⟨b, e, _⟩ := up_at h hi
        rw [e] at hI
        cases hI
      | true =>
        obtain ⟨n, hn⟩ := isI_of hI
        rw [hI, hn] at e1
        rw [hn] at hq
        rw [hq]
        walk_at "dl"
        rw [DL.callO_flat e1 rfl]
        walk_at "dl"
        rw [hq]
        walk_at "dl"
        rcases (Decidable.em (n ∈ ps)).symm with hin | hin
        · rw [decide_eq_false hin]
          walk_at "dl"
          refine .inr (.inr (.inl ⟨_, _, rfl, .inl ⟨rfl, fun h => ?_⟩⟩))
          obtain ⟨b, e, hb, _⟩ := up_at h hi
          rw [hn] at e
          cases e
          exact hin hb
        rw [decide_eq_true hin]
        walk_at "dl"
        -- what stands ahead
        have hahead : 0 < i → ∃ n', items[i - 1]? = some (.int n') ∧ bs.getLast? = some n' := fun h0 => by
          have e : (items.take i)[i - 1]? = (bs.map D.int)[i - 1]? := by rw [k1]
          have hb : bs[i - 1]? = some bs[i - 1] := List.getElem?_eq_getElem (by omega)
          rw [List.getElem?_take, if_pos (by omega), List.getElem?_map, hb] at e
          refine ⟨bs[i - 1], e, ?_⟩
          rw [List.getLast?_eq_getElem?]
          have h1 : bs.length - 1 = i - 1 := by omega
          rw [h1]
          exact hb
        obtain ⟨o2, e2⟩ := pool_eq ps lists n hin hl (by omega) hs
        have hpl := pool_len hs (stepsOf ps n)
        have hfor : ∃ (kvs' : List (Int × D)) (z5' : DL.Slot), (keys kvs').Nodup ∧ (∀ x, x ∈ keys kvs' ↔ x ∈ keys kvs ∨ x ∈ poolOf lists (stepsOf ps n)) ∧ kvs'.length ≤ 1000 * (i + 1) ∧ rest [some (false, .lst (ps.map .int)), some (false, .lst (lists.map lI)), some (false, .lst items), some (true, dKI kvs), some (false, .int (0 + (i : Int))), z5] = .ok (.next [some (false, .lst (ps.map .int)), some (false, .lst (lists.map lI)), some (false, .lst items), some (true, dKI kvs'), some (false, .int (0 + (i : Int))), z5']) := by
          rw [← hR]
          walk_at "dl"
          rw [hq]
          walk_at "dl"
          rw [DL.callE_of e2]
          generalize poolOf lists (stepsOf ps n) = pool at hpl ⊢
          unfold lI
          walk_at "dl"
          obtain ⟨ρ2, g1, kvs', z5', m1, m2, m3, g2⟩ := DL.loop_at (g := gSet 5) (gb := Fn.law_short_f143_b1) D.int pool
            (fun j ρ => ∃ (kvs' : List (Int × D)) (z5' : DL.Slot), (keys kvs').Nodup ∧ (∀ x, x ∈ keys kvs' ↔ x ∈ keys kvs ∨ x ∈ pool.take j) ∧ kvs'.length ≤ 1000 * i + j ∧ ρ = [some (false, .lst (ps.map .int)), some (false, .lst (lists.map fun l => .lst (l.map .int))), some (false, .lst items), some (true, dKI kvs'), some (false, .int (0 + (i : Int))), z5']) _ ⟨kvs, z5, k4, (fun x => by simp), by omega, rfl⟩ (fun j b ρ hb ⟨kvs', z5', m1, m2, m3, hρ⟩ => by
              subst hρ
              have hj := DL.at_lt hb
              rw [List.getElem?_eq_getElem hj] at hb
              cases hb
              refine ⟨_, rfl, ?_⟩
              unfold Fn.law_short_f143_b1
              walk_at "dl"
              rw [put_ki (by omega)]
              walk_at "dl"
              have hk : ∀ x, x ∈ keys (putD kvs' pool[j] (.bl true)) ↔ x ∈ keys kvs' ∨ x = pool[j] := fun x => by
                rw [keys_put]
                split
                · rename_i hm
                  exact ⟨.inl, fun h => h.elim id fun e => by rw [e]; exact hm⟩
                · rw [List.mem_append, List.mem_singleton]
              refine ⟨_, rfl, putD kvs' pool[j] (.bl true), some (false, .int pool[j]), ?_, fun x => ?_, ?_, rfl⟩
              · rw [keys_put]
                split
                · exact m1
                · rename_i hnot
                  rw [List.nodup_append]
                  exact ⟨m1, List.pairwise_singleton _ _, fun a ha c hc e => hnot (by rw [List.mem_singleton] at hc; rw [← hc, ← e]; exact ha)⟩
              · rw [hk, m2, List.take_succ_eq_append_getElem hj, List.mem_append, List.mem_singleton, or_assoc]
              · have : (keys (putD kvs' pool[j] (.bl true))).length ≤ (keys kvs').length + 1 := by
                  rw [keys_put]
                  split
                  · omega
                  · rw [List.length_append, List.length_singleton]; omega
                unfold keys at this
                rw [List.length_map, List.length_map] at this
                omega)
          rw [g1]
          subst g2
          exact ⟨kvs', z5', m1, fun x => by rw [m2, List.take_length], by omega, rfl⟩
        obtain ⟨kvs', z5', m1, m2, m3, hfor⟩ := hfor
        have hnext : (∀ n', bs.getLast? = some n' → n' < n) → ∃ (bs' : List Int) (kvs'' : List (Int × D)) (z4' z5'' : DL.Slot), items.take (i + 1) = bs'.map .int ∧ bs'.Pairwise (· < ·) ∧ (∀ b ∈ bs', b ∈ ps) ∧ (keys kvs'').Nodup ∧ (∀ x, x ∈ keys kvs'' ↔ ∃ b ∈ bs', x ∈ poolOf lists (stepsOf ps b)) ∧ kvs''.length ≤ 1000 * (i + 1) ∧ [some (false, .lst (ps.map .int)), some (false, .lst (lists.map lI)), some (false, .lst items), some (true, dKI kvs'), some (false, .int (0 + (i : Int))), z5'] = [some (false, .lst (ps.map .int)), some (false, .lst (lists.map lI)), some (false, .lst items), some (true, dKI kvs''), z4', z5''] := fun hlast => by
          refine ⟨bs ++ [n], kvs', _, _, ?_, ?_, fun b hb => ?_, m1, fun x => ?_, m3, rfl⟩
          · rw [List.take_succ_eq_append_getElem hi, k1, hn, List.map_append]; rfl
          · rw [List.pairwise_append]
            refine ⟨k2, List.pairwise_singleton _ _, fun a ha b hb => ?_⟩
            rw [List.mem_singleton.mp hb]
            obtain ⟨j, hj, rfl⟩ := List.getElem_of_mem ha
            have hne : bs ≠ [] := fun z => by rw [z] at hj; exact absurd hj (Nat.not_lt_zero _)
            have h1 := hlast (bs.getLast hne) (List.getLast?_eq_some_getLast hne)
            rw [List.getLast_eq_getElem] at h1
            rcases Nat.lt_or_ge j (bs.length - 1) with h | h
            · have := List.pairwise_iff_getElem.mp k2 j (bs.length - 1) hj (by omega) h
              omega
            · have : j = bs.length - 1 := by omega
              subst this
              exact h1
          · rcases List.mem_append.mp hb with h | h
            · exact k3 b h
            · rw [List.mem_singleton.mp h]; exact hin
          · rw [m2, k5]
            constructor
            · rintro (⟨b, hb, h⟩ | h)
              · exact ⟨b, List.mem_append_left _ hb, h⟩
              · exact ⟨n, List.mem_append_right _ List.mem_cons_self, h⟩
            · rintro ⟨b, hb, h⟩
              rcases List.mem_append.mp hb with h' | h'
              · exact .inl ⟨b, h', h⟩
              · rw [List.mem_singleton.mp h'] at h; exact .inr h
        by_cases hz : (0 : Int) < 0 + (i : Int)
        · obtain ⟨n', h1, h2⟩ := hahead (by omega)
          have hq' : dIxA (.lst items) (.int (0 + (i : Int) - 1)) = .ok (.int n') := DL.ixA_lst (by omega) (by
            rw [show (0 + (i : Int) - 1).toNat = i - 1 by omega]; exact h1)
          rw [decide_eq_true hz]
          walk_at "dl"
          rw [hq, hq']
          walk_at "dl"
          by_cases hle : n ≤ n'
          · rw [decide_eq_true hle]
            walk_at "dl"
            refine .inr (.inr (.inl ⟨_, _, rfl, .inl ⟨rfl, fun h => ?_⟩⟩))
            obtain ⟨b, e, _, hb⟩ := up_at h hi
            rw [hn] at e
            cases e
            have := hb n' (by omega) h1
            omega
          · rw [decide_eq_false hle]
            walk_at "dl"
            rw [hfor]
            exact .inl ⟨_, .inl rfl, hnext fun m hm => by rw [h2] at hm; cases hm; omega⟩
        · rw [decide_eq_false hz]
          walk_at "dl"
          rw [hfor]
          refine .inl ⟨_, .inl rfl, hnext fun m hm => ?_⟩
          have : bs = [] := List.eq_nil_of_length_eq_zero (by omega)
          rw [this] at hm
          cases hm) (by
      rintro ρ ⟨bs, kvs, z4, z5, k1, k2, k3, k4, k5, k6, rfl⟩
      rw [List.length_map, List.length_range, List.take_length] at k1
      exact .inr ⟨bs, kvs, z4, z5, k1, k2, k3, k4, k5, rfl⟩)
  rcases this with ⟨h1, h2⟩ | ⟨bs, kvs, z4, z5, k1, k2, k3, k4, k5, h1⟩
  · have h1' : loopD (gSet 4) Fn.law_short_f143_b2 ((List.range items.length).map fun i : Nat => D.int (0 + (i : Int))) [some (false, .lst (ps.map .int)), some (false, .lst (lists.map lI)), some (false, .lst items), some (true, .dK []), none, none] = .ok (.ret true (.bl false)) := h1
    rw [h1']
    walk_at "dl"
    exact ⟨_, false, rfl, (fun h => nomatch h), fun ⟨P, hP, e⟩ => absurd (few_up hp hP e) h2⟩
  · have h1' : loopD (gSet 4) Fn.law_short_f143_b2 ((List.range items.length).map fun i : Nat => D.int (0 + (i : Int))) [some (false, .lst (ps.map .int)), some (false, .lst (lists.map lI)), some (false, .lst items), some (true, .dK []), none, none] = .ok (.next [some (false, .lst (ps.map .int)), some (false, .lst (lists.map lI)), some (false, .lst items), some (true, dKI kvs), z4, z5]) := h1
    rw [h1']
    walk_at "dl"
    rw [len_ki]
    walk_at "dl"
    refine ⟨_, _, rfl, ?_⟩
    have hkey := few_key (pools := poolsOf ps lists) (bs := bs) (s' := keys kvs) k4 (fun b hb => by
      have := pt_lt hp (k3 b hb)
      rw [pools_len]; exact this) k2 (fun x => by
      rw [k5]
      constructor
      · rintro ⟨b, hb, h⟩
        have := pt_lt hp (k3 b hb)
        refine ⟨b, hb, ?_⟩
        rw [gP_pools (by omega), show ((b.toNat : Nat) : Int) = b by omega]
        exact h
      · rintro ⟨b, hb, h⟩
        have := pt_lt hp (k3 b hb)
        rw [gP_pools (by omega), show ((b.toNat : Nat) : Int) = b by omega] at h
        exact ⟨b, hb, h⟩)
    have hl1 : (keys kvs).length = kvs.length := by unfold keys; rw [List.length_map]
    have hl2 : items.length = bs.length := by rw [k1, List.length_map]
    rw [decide_eq_true_iff, hl2, ← hl1]
    constructor
    · intro h
      obtain ⟨P, hP, e⟩ := hkey.mp (by omega)
      exact ⟨P, hP, by rw [k1, e]⟩
    · rintro ⟨P, hP, e⟩
      have : bs = srt (pI P) := ints_inj (k1.symm.trans e)
      have := hkey.mpr ⟨P, hP, this⟩
      omega
def isLs : D → Bool
  | .lst _ => true
  | _ => false
omit hp hl h10 hs in
theorem short_non {d : D} (h : Dt false d) (hL : isLs d = false) : ∃ o, Fn.law_short_f143 [.lst (ps.map .int), .lst (lists.map lI), d] = .ok (o, .bl false) := by
  cases h with
  | lst ds _ _ => cases hL
  | _ =>
    unfold Fn.law_short_f143; rw [DL.ap_body (by rfl)]; unfold Fn.law_short_f143_g
    exact ⟨_, rfl⟩
end
def isS (w : Str) : D → Bool
  | .str s => decide (s = w)
  | _ => false
theorem head_eq {h : D} (hh : HeadOk h) {w : Str} (hw : PyData.canLay0 (.str w) = true) (neg : Bool) : dEq neg h (.str w) = .ok (.bl (xorB neg (isS w h))) := by
  rcases hh with rfl | ⟨i, rfl⟩ | ⟨s, rfl⟩ | rfl
  · rfl
  · rfl
  · rfl
  · have h1 : De.NB 1 (.lst [.str (Str.ofString "tie")]) := .lst fun d hd => by
      rw [List.mem_singleton.mp hd]
      exact .str _ (by decide +kernel)
    exact De.deep_eq (P := False) (neg := neg) h1 (De.NB.str (n := 0) w hw) (by omega) (by omega) (Iff.intro (fun h => D.noConfusion h) (fun h => h.elim))
theorem isS_of {w : Str} {h : D} (e : isS w h = true) : h = .str w := by
  cases h with
  | str s => rw [of_decide_eq_true e]
  | _ => cases e
theorem isS_self (w : Str) : isS w (.str w) = true := decide_eq_true rfl
def kT : Str := Str.ofString "tie"
def kH : Str := Str.ofString "short"
def kP : Str := Str.ofString "split"
theorem kT_ok : PyData.canLay0 (.str kT) = true := by decide +kernel
theorem kH_ok : PyData.canLay0 (.str kH) = true := by decide +kernel
theorem kP_ok : PyData.canLay0 (.str kP) = true := by decide +kernel
section
variable {lists : List (List Int)} {ties : List Tie} {ps : List Int}
theorem shw_pair {d : D} (S : Shw lists ties ps d) : ∃ h r, d = .tup [h, r] ∧ (h = .str kT ∨ h = .str kH ∨ h = .str kP) := by
  rcases shw_inv S with ⟨k, h, hb, e⟩ | ⟨P, _, e⟩ | ⟨ds, _, _, _, e⟩
  · exact ⟨_, _, e, .inl rfl⟩
  · exact ⟨_, _, e, .inr (.inl rfl)⟩
  · exact ⟨_, _, e, .inr (.inr rfl)⟩
theorem shw_t {r : D} (S : Shw lists ties ps (.tup [.str kT, r])) : ∃ (k : Nat) (h : k < ties.length), r = .int (k : Int) ∧ bkB ps ties[k] = true := by
  rcases shw_inv S with ⟨k, h, hb, e⟩ | ⟨P, _, e⟩ | ⟨ds, _, _, _, e⟩
  · injection e with e
    injection e with _ e
    injection e with e _
    exact ⟨k, h, e, hb⟩
  · injection e with e
    injection e with e _
    injection e with e
    exact absurd e n1
  · injection e with e
    injection e with e _
    injection e with e
    exact absurd e n2
theorem shw_h {r : D} (S : Shw lists ties ps (.tup [.str kH, r])) : ∃ P, Few (poolsOf ps lists) P ∧ r = .lst ((srt (pI P)).map .int) := by
  rcases shw_inv S with ⟨k, h, hb, e⟩ | ⟨P, hP, e⟩ | ⟨ds, _, _, _, e⟩
  · injection e with e
    injection e with e _
    injection e with e
    exact absurd e.symm n1
  · injection e with e
    injection e with _ e
    injection e with e _
    exact ⟨P, hP, e⟩
  · injection e with e
    injection e with e _
    injection e with e
    exact absurd e n3
theorem shw_p {r : D} (S : Shw lists ties ps (.tup [.str kP, r])) : ∃ ds, r = .lst ds ∧ ps.length < lists.length ∧ ds.length = U ps + 1 ∧ ∀ k (hk : k < ds.length), Shw lists ties (ps ++ [(k : Int)]) ds[k] := by
  rcases shw_inv S with ⟨k, h, hb, e⟩ | ⟨P, hP, e⟩ | ⟨ds, a1, a2, a3, e⟩
  · injection e with e
    injection e with e _
    injection e with e
    exact absurd e.symm n2
  · injection e with e
    injection e with e _
    injection e with e
    exact absurd e.symm n3
  · injection e with e
    injection e with _ e
    injection e with e _
    exact ⟨ds, e, a1, a2, a3⟩
end
section
variable (lists : List (List Int)) (ties : List Tie) (h10 : lists.length ≤ 10) (hs : ∀ l ∈ lists, l.length ≤ 100) (ht : ∀ t ∈ ties, TieOk lists.length t)
include h10 hs ht
theorem lshows_any : ∀ (n : Nat) (ps : List Int) (d : D), Dat d → IsP ps → ps.length ≤ lists.length → lists.length - ps.length < n →
    ∃ (o b : Bool), Fn.law_shows_e19d n [.lst (ps.map .int), .lst (lists.map lI), .lst (ties.map dT), d] = .ok (o, .bl b) ∧ (b = true ↔ Shw lists ties ps d)
  | 0, _, _, _, _, _, h => absurd h (Nat.not_lt_zero _)
  | n + 1, ps, d, S, hp, hle, hn => by
    have hgo : ∀ ds, Fn.law_shows_e19d (n + 1) ds = DL.bodyN 4 7 (Fn.law_shows_e19d_g (Fn.law_shows_e19d n)) ds := fun _ => rfl
    have hU : U ps ≤ ps.length := U_le fun x hx => hx
    have hUU : (uniq ps).length = U ps := rfl
    rw [hgo, DL.ap_body (by rfl)]; unfold Fn.law_shows_e19d_g
    have hno : (∀ h r, d = .tup [h, r] → False) → ¬ Shw lists ties ps d := fun h S => by
      obtain ⟨a, r, e, _⟩ := shw_pair S
      exact h a r e
    have fin : ∀ {b : Bool}, (∀ h r, d = .tup [h, r] → False) → b = false → (b = true ↔ Shw lists ties ps d) := fun {b} h e => Iff.intro (fun z => by rw [e] at z; cases z) (fun S => absurd S (hno h))
    cases S with
    | non => exact ⟨_, false, rfl, fin (fun _ _ e => by cases e) rfl⟩
    | bl b => exact ⟨_, false, rfl, fin (fun _ _ e => by cases e) rfl⟩
    | int b => exact ⟨_, false, rfl, fin (fun _ _ e => by cases e) rfl⟩
    | str b => exact ⟨_, false, rfl, fin (fun _ _ e => by cases e) rfl⟩
    | lstP ds => exact ⟨_, false, rfl, fin (fun _ _ e => by cases e) rfl⟩
    | tup ds h3 h4 =>
      by_cases hl : ds.length = 2
      · obtain ⟨h, r, rfl⟩ : ∃ h r, ds = [h, r] := by
          match ds, hl with
          | [h, r], _ => exact ⟨h, r, rfl⟩
        have hh := h3 h r rfl
        have hr : Dt false r := h4 h r rfl
        have ht1 := head_eq hh kT_ok false
        have ht2 := head_eq hh kH_ok false
        have ht3 := head_eq hh kP_ok true
        unfold kT at ht1
        unfold kH at ht2
        unfold kP at ht3
        walk_at "dl"
        rw [show decide (((2 : Nat) : Int) = 2) = true from rfl]
        walk_at "dl"
        rw [ht1]
        walk_at "dl"
        cases hT : isS (Str.ofString "tie") h with
        | true =>
          have eh : h = .str kT := isS_of hT
          subst eh
          obtain ⟨o1, e1⟩ := whole_any hr
          walk_at "dl"
          rw [DL.callO_flat e1 rfl]
          walk_at "dl"
          cases hI : isI r with
          | false =>
            walk_at "dl"
            refine ⟨_, false, rfl, (fun z => nomatch z), fun S => ?_⟩
            obtain ⟨k, _, e, _⟩ := shw_t S
            rw [e] at hI; cases hI
          | true =>
            obtain ⟨i, rfl⟩ := isI_of hI
            walk_at "dl"
            by_cases hi0 : 0 ≤ i
            · by_cases hil : i < (ties.length : Int)
              · obtain ⟨k, rfl⟩ : ∃ k : Nat, i = (k : Int) := ⟨i.toNat, by omega⟩
                have hk : k < ties.length := by omega
                have hm := List.getElem_mem hk
                obtain ⟨o2, e2⟩ := law_breaks_eq ps ties[k].1 ties[k].2.1 ties[k].2.2 (by have := (ht _ hm).len; omega)
                have e2 : Fn.law_breaks_a0c3 [.lst (ps.map .int), dT ties[k]] = .ok (o2, .bl (bkB ps ties[k])) := e2
                have hx : dIxA (.lst (ties.map dT)) (.int (k : Int)) = .ok (dT ties[k]) := DL.ixA_lst (by omega) (by
                  rw [Int.toNat_natCast, List.getElem?_map, List.getElem?_eq_getElem hk]; rfl)
                rw [decide_eq_true hi0]
                walk_at "dl"
                rw [decide_eq_true hil]
                walk_at "dl"
                rw [hx]
                walk_at "dl"
                rw [DL.callO_flat e2 rfl]
                walk_at "dl"
                refine ⟨_, _, rfl, ?_⟩
                have := shw_tie (lists := lists) (ties := ties) (ps := ps) (i := (k : Int))
                constructor
                · exact fun hb => this.mpr ⟨k, hk, rfl, hb⟩
                · intro S
                  obtain ⟨k', hk', e, hb⟩ := this.mp S
                  have : k = k' := by omega
                  subst this
                  exact hb
              · rw [decide_eq_true hi0]
                walk_at "dl"
                rw [decide_eq_false hil]
                walk_at "dl"
                refine ⟨_, false, rfl, (fun z => nomatch z), fun S => ?_⟩
                obtain ⟨k, hk, e, _⟩ := shw_t S
                injection e with e
                omega
            · rw [decide_eq_false hi0]
              walk_at "dl"
              refine ⟨_, false, rfl, (fun z => nomatch z), fun S => ?_⟩
              obtain ⟨k, hk, e, _⟩ := shw_t S
              injection e with e
              omega
        | false =>
          walk_at "dl"
          rw [ht2]
          walk_at "dl"
          cases hH : isS (Str.ofString "short") h with
          | true =>
            have eh : h = .str kH := isS_of hH
            subst eh
            walk_at "dl"
            cases hL : isLs r with
            | false =>
              obtain ⟨o1, e1⟩ := short_non (ps := ps) (lists := lists) hr hL
              rw [DL.callO_flat e1 rfl]
              walk_at "dl"
              refine ⟨_, false, rfl, (fun z => nomatch z), fun S => ?_⟩
              obtain ⟨P, _, e⟩ := shw_h S
              rw [e] at hL; cases hL
            | true =>
              cases hr with
              | lst items a1 a2 =>
                obtain ⟨o1, b1, e1, i1⟩ := short_lst ps hp lists hle h10 hs items a1 a2
                rw [DL.callO_flat e1 rfl]
                walk_at "dl"
                refine ⟨_, b1, rfl, ?_⟩
                rw [i1]
                constructor
                · rintro ⟨P, hP, rfl⟩
                  exact .short P hP
                · intro S
                  obtain ⟨P, hP, e⟩ := shw_h S
                  injection e with e
                  exact ⟨P, hP, e⟩
              | _ => cases hL
          | false =>
            walk_at "dl"
            rw [DL.lenS_ints (by omega)]
            walk_at "dl"
            rw [hUU, ht3]
            walk_at "dl"
            cases hP : isS (Str.ofString "split") h with
            | false =>
              walk_at "dl"
              refine ⟨_, false, rfl, (fun z => nomatch z), fun S => ?_⟩
              obtain ⟨h', r', e, hk⟩ := shw_pair S
              injection e with e
              injection e with e _
              subst e
              rcases hk with rfl | rfl | rfl
              · rw [show isS (Str.ofString "tie") (.str kT) = true from isS_self _] at hT; cases hT
              · rw [show isS (Str.ofString "short") (.str kH) = true from isS_self _] at hH; cases hH
              · rw [show isS (Str.ofString "split") (.str kP) = true from isS_self _] at hP; cases hP
            | true =>
              have eh : h = .str kP := isS_of hP
              subst eh
              walk_at "dl"
              have hnl : isLs r = false → ¬ Shw lists ties ps (.tup [.str kP, r]) := fun h S => by
                obtain ⟨ds, e, _⟩ := shw_p S
                rw [e] at h; cases h
              cases hr with
              | non => exact ⟨_, false, rfl, (fun z => nomatch z), fun S => absurd S (hnl rfl)⟩
              | bl b => exact ⟨_, false, rfl, (fun z => nomatch z), fun S => absurd S (hnl rfl)⟩
              | int b => exact ⟨_, false, rfl, (fun z => nomatch z), fun S => absurd S (hnl rfl)⟩
              | str b => exact ⟨_, false, rfl, (fun z => nomatch z), fun S => absurd S (hnl rfl)⟩
              | tupR ds => exact ⟨_, false, rfl, (fun z => nomatch z), fun S => absurd S (hnl rfl)⟩
              | lst items a1 a2 =>
                walk_at "dl"
                by_cases hil : items.length = U ps + 1
                · rw [decide_eq_true (show (items.length : Int) = (U ps : Int) + 1 by omega)]
                  walk_at "dl"
                  rw [DL.inR_small (by omega) (by omega)]
                  walk_at "dl"
                  rw [show ((U ps : Int) + 1).toNat = U ps + 1 by omega]
                  have := DL.loop_ind (g := gSet 6) (gb := Fn.law_shows_e19d_b1 (Fn.law_shows_e19d n)) (W := fun r => (r = .ok (.ret true (.bl false)) ∧ ¬ Shw lists ties ps (.tup [.str kP, .lst items])) ∨ ∃ (z6 : DL.Slot), (∀ k (hk : k < items.length), Shw lists ties (ps ++ [(k : Int)]) items[k]) ∧ ps.length < lists.length ∧ r = .ok (.next [some (false, .lst (ps.map .int)), some (false, .lst (lists.map lI)), some (false, .lst (ties.map dT)), some (false, .tup [.str kP, .lst items]), some (false, .lst items), some (false, .int (U ps : Nat)), z6]))
                    ((List.range (U ps + 1)).map fun i : Nat => D.int (0 + (i : Int)))
                    (fun i ρ => ∃ (z6 : DL.Slot), (∀ k (hk : k < items.length), k < i → Shw lists ties (ps ++ [(k : Int)]) items[k]) ∧ (0 < i → ps.length < lists.length) ∧ ρ = [some (false, .lst (ps.map .int)), some (false, .lst (lists.map lI)), some (false, .lst (ties.map dT)), some (false, .tup [.str kP, .lst items]), some (false, .lst items), some (false, .int (U ps : Nat)), z6])
                    [some (false, .lst (ps.map .int)), some (false, .lst (lists.map lI)), some (false, .lst (ties.map dT)), some (false, .tup [.str kP, .lst items]), some (false, .lst items), some (false, .int (U ps : Nat)), none] ⟨none, (fun k hk h => absurd h (Nat.not_lt_zero _)), (fun h => absurd h (Nat.lt_irrefl _)), rfl⟩ (by
                      rintro i d ρ hd ⟨z6, g1, g2, rfl⟩
                      have hi := DL.at_lt hd
                      rw [List.length_map, List.length_range] at hi
                      have hd' : d = .int (0 + (i : Int)) := by
                        rw [List.getElem?_map, List.getElem?_range hi] at hd
                        cases hd; rfl
                      subst hd'
                      refine ⟨[some (false, .lst (ps.map .int)), some (false, .lst (lists.map lI)), some (false, .lst (ties.map dT)), some (false, .tup [.str kP, .lst items]), some (false, .lst items), some (false, .int (U ps : Nat)), some (false, .int (0 + (i : Int)))], rfl, ?_⟩
                      unfold Fn.law_shows_e19d_b1
                      walk_at "dl"
                      by_cases hfull : ps.length = lists.length
                      · rw [decide_eq_true (show (ps.length : Int) = (lists.length : Int) by omega)]
                        walk_at "dl"
                        refine .inr (.inr (.inl ⟨_, _, rfl, .inl ⟨rfl, fun S => ?_⟩⟩))
                        obtain ⟨_, _, h, _⟩ := shw_p S
                        omega
                      · rw [decide_eq_false (show ¬ (ps.length : Int) = (lists.length : Int) by omega)]
                        walk_at "dl"
                        have hid : i < items.length := by omega
                        have hx : dIxA (.lst items) (.int (0 + (i : Int))) = .ok items[i] := DL.ixA_lst (by omega) (by
                          rw [show (0 + (i : Int)).toNat = i by omega, List.getElem?_eq_getElem hid])
                        obtain ⟨o1, b1, e1, i1⟩ := lshows_any n (ps ++ [(i : Int)]) items[i] (a2 _ (List.getElem_mem hid)) (pt_snoc' hp (by omega)) (by rw [List.length_append, List.length_singleton]; omega) (by rw [List.length_append, List.length_singleton]; omega)
                        rw [List.map_append] at e1
                        have e1 : Fn.law_shows_e19d n [.lst (ps.map .int ++ [.int (i : Int)]), .lst (lists.map lI), .lst (ties.map dT), items[i]] = .ok (o1, .bl b1) := e1
                        rw [← Int.zero_add (i : Int)] at e1
                        rw [hx, DL.small_of (by omega)]
                        walk_at "dl"
                        rw [DL.callO_flat e1 rfl]
                        walk_at "dl"
                        cases b1 with
                        | true =>
                          walk_at "dl"
                          refine .inl ⟨_, .inl rfl, _, fun k hk hki => ?_, fun _ => by omega, rfl⟩
                          rcases Nat.lt_or_ge k i with h | h
                          · exact g1 k hk h
                          · have : k = i := by omega
                            subst this
                            exact i1.mp rfl
                        | false =>
                          walk_at "dl"
                          refine .inr (.inr (.inl ⟨_, _, rfl, .inl ⟨rfl, fun S => ?_⟩⟩))
                          obtain ⟨ds, e, _, _, h⟩ := shw_p S
                          injection e with e
                          subst e
                          have := i1.mpr (h i hid)
                          cases this) (by
                      rintro ρ ⟨z6, g1, g2, rfl⟩
                      rw [List.length_map, List.length_range] at g1 g2
                      exact .inr ⟨z6, fun k hk => g1 k hk (by omega), g2 (by omega), rfl⟩)
                  rcases this with ⟨h1, h2⟩ | ⟨z6, h1, h2, h3⟩
                  · rw [h1]
                    walk_at "dl"
                    exact ⟨_, false, rfl, (fun z => nomatch z), fun S => absurd S h2⟩
                  · rw [h3]
                    walk_at "dl"
                    exact ⟨_, true, rfl, fun _ => .split items h2 hil h1, fun _ => rfl⟩
                · rw [decide_eq_false (show ¬ (items.length : Int) = (U ps : Int) + 1 by omega)]
                  walk_at "dl"
                  refine ⟨_, false, rfl, (fun z => nomatch z), fun S => ?_⟩
                  obtain ⟨ds, e, _, h, _⟩ := shw_p S
                  injection e with e
                  subst e
                  exact absurd h hil
      · walk_at "dl"
        rw [decide_eq_false (show ¬ (ds.length : Int) = 2 by omega)]
        walk_at "dl"
        exact ⟨_, false, rfl, fin (fun h r e => by injection e with e; rw [e] at hl; exact hl rfl) rfl⟩
end
end Ap
namespace Lpa
open PySem DL Ti Di Sh De Br Bo Gw Pt Dl Df Pl Rw Po Ma Nu Se Lp Sho Sw So Sf Lc Ap
theorem short_pI (ps : List Int) (hp : IsP ps) (lists : List (List Int)) (hl : ps.length ≤ lists.length) (h10 : lists.length ≤ 10) (hs : ∀ l ∈ lists, l.length ≤ 100) (Q : List Nat) (hq : Q.length ≤ 100) :
    ∃ (o b : Bool), Fn.law_short_f143 [.lst (ps.map .int), .lst (lists.map lI), .lst ((pI Q).map .int)] = .ok (o, .bl b) := by
  obtain ⟨o, b, e, _⟩ := short_lst ps hp lists hl h10 hs ((pI Q).map .int) (by unfold pI; rw [List.length_map, List.length_map]; exact hq) (fun d hd => by
    obtain ⟨x, _, rfl⟩ := List.mem_map.mp hd
    exact .int x)
  exact ⟨o, b, e⟩
theorem range_pI (n : Nat) : (List.range n).map (fun i : Nat => D.int (0 + (i : Int))) = (pI (List.range n)).map D.int := by
  unfold pI
  rw [List.map_map]
  refine List.map_congr_left fun i _ => ?_
  show D.int (0 + (i : Int)) = D.int (i : Int)
  rw [Int.zero_add]
theorem blocks_eq2 (ps : List Int) (hp : IsP ps) (lists : List (List Int)) (hl : ps.length ≤ lists.length) (h10 : lists.length ≤ 10) (hs : ∀ l ∈ lists, l.length ≤ 100) : ∃ (o : Bool) (bs : List Int), Fn.law_blocks_7e69 [.lst (ps.map .int), .lst (lists.map lI)] = .ok (o, .lst (bs.map .int)) ∧ bs.length ≤ 10 := by
  have hU : U ps ≤ ps.length := U_le fun x hx => hx
  have hUU : (uniq ps).length = U ps := rfl
  unfold Fn.law_blocks_7e69; rw [DL.ap_body (by rfl)]; unfold Fn.law_blocks_7e69_g
  walk_at "dl"
  rw [DL.lenS_ints (by omega), hUU]
  walk_at "dl"
  rw [DL.inR_small (by omega) (by omega)]
  walk_at "dl"
  rw [Int.toNat_natCast]
  have := DL.loop_ind (g := gSet 3) (gb := Fn.law_blocks_7e69_b2) (W := fun r => (∃ (o : Bool) (bs : List Int), r = .ok (.ret o (.lst (bs.map .int))) ∧ bs.length ≤ 10) ∨ ∃ (z3 z5 : DL.Slot), r = .ok (.next [some (false, .lst (ps.map .int)), some (false, .lst (lists.map lI)), some (false, .int (U ps : Nat)), z3, none, z5])) ((List.range (U ps)).map fun i : Nat => D.int (0 + (i : Int)))
    (fun i ρ => ∃ (z3 z5 : DL.Slot), ρ = [some (false, .lst (ps.map .int)), some (false, .lst (lists.map lI)), some (false, .int (U ps : Nat)), z3, none, z5])
    [some (false, .lst (ps.map .int)), some (false, .lst (lists.map lI)), some (false, .int (U ps : Nat)), none, none, none] ⟨none, none, rfl⟩ (by
      rintro i d ρ hd ⟨z3, z5, rfl⟩
      have hi := DL.at_lt hd
      rw [List.length_map, List.length_range] at hi
      have hd' : d = .int (0 + (i : Int)) := by
        rw [List.getElem?_map, List.getElem?_range hi] at hd
        cases hd; rfl
      subst hd'
      refine ⟨[some (false, .lst (ps.map .int)), some (false, .lst (lists.map lI)), some (false, .int (U ps : Nat)), some (false, .int (0 + (i : Int))), none, z5], rfl, ?_⟩
      obtain ⟨o1, b1, e1⟩ := short_pI ps hp lists hl h10 hs [i] (by simp)
      have e1 : Fn.law_short_f143 [.lst (ps.map .int), .lst (lists.map lI), .lst [.int (i : Int)]] = .ok (o1, .bl b1) := e1
      rw [← Int.zero_add (i : Int)] at e1
      unfold Fn.law_blocks_7e69_b2
      walk_at "dl"
      rw [DL.callO_flat e1 rfl]
      walk_at "dl"
      cases b1 with
      | true =>
        walk_at "dl"
        exact .inr (.inr (.inl ⟨_, _, rfl, .inl ⟨_, [0 + (i : Int)], rfl, by simp⟩⟩))
      | false =>
        walk_at "dl"
        rw [DL.inR_small (by omega) (by omega)]
        walk_at "dl"
        rw [show (0 + (i : Int)).toNat = i by omega]
        have := DL.loop_ind (g := gSet 5) (gb := Fn.law_blocks_7e69_b1) (W := fun r => (∃ (o : Bool) (bs : List Int), r = .ok (.ret o (.lst (bs.map .int))) ∧ bs.length ≤ 10) ∨ ∃ (z5 : DL.Slot), r = .ok (.next [some (false, .lst (ps.map .int)), some (false, .lst (lists.map lI)), some (false, .int (U ps : Nat)), some (false, .int (0 + (i : Int))), none, z5])) ((List.range i).map fun i : Nat => D.int (0 + (i : Int)))
          (fun j ρ => ∃ (z5 : DL.Slot), ρ = [some (false, .lst (ps.map .int)), some (false, .lst (lists.map lI)), some (false, .int (U ps : Nat)), some (false, .int (0 + (i : Int))), none, z5])
          [some (false, .lst (ps.map .int)), some (false, .lst (lists.map lI)), some (false, .int (U ps : Nat)), some (false, .int (0 + (i : Int))), none, z5] ⟨z5, rfl⟩ (by
            rintro j d ρ hd ⟨z5, rfl⟩
            have hj := DL.at_lt hd
            rw [List.length_map, List.length_range] at hj
            have hd' : d = .int (0 + (j : Int)) := by
              rw [List.getElem?_map, List.getElem?_range hj] at hd
              cases hd; rfl
            subst hd'
            refine ⟨[some (false, .lst (ps.map .int)), some (false, .lst (lists.map lI)), some (false, .int (U ps : Nat)), some (false, .int (0 + (i : Int))), none, some (false, .int (0 + (j : Int)))], rfl, ?_⟩
            obtain ⟨o2, b2, e2⟩ := short_pI ps hp lists hl h10 hs [j, i] (by simp)
            have e2 : Fn.law_short_f143 [.lst (ps.map .int), .lst (lists.map lI), .lst [.int (j : Int), .int (i : Int)]] = .ok (o2, .bl b2) := e2
            rw [← Int.zero_add (j : Int), ← Int.zero_add (i : Int)] at e2
            unfold Fn.law_blocks_7e69_b1
            walk_at "dl"
            rw [DL.callO_flat e2 rfl]
            walk_at "dl"
            cases b2 with
            | true =>
              walk_at "dl"
              exact .inr (.inr (.inl ⟨_, _, rfl, .inl ⟨_, [0 + (j : Int), 0 + (i : Int)], rfl, by simp⟩⟩))
            | false =>
              walk_at "dl"
              exact .inl ⟨_, .inl rfl, _, rfl⟩) (by
            rintro ρ ⟨z5, rfl⟩
            exact .inr ⟨z5, rfl⟩)
        rcases this with ⟨o, bs, h1, hb⟩ | ⟨z5', h1⟩
        · refine .inr (.inr (.inl ⟨o, .lst (bs.map .int), ?_, .inl ⟨_, bs, rfl, hb⟩⟩))
          first | exact h1 | (rw [h1]) | (erw [h1])
        · refine .inl ⟨_, .inl ?_, some (false, .int (0 + (i : Int))), z5', rfl⟩
          first | exact h1 | (rw [h1]) | (erw [h1])) (by
      rintro ρ ⟨z3, z5, rfl⟩
      exact .inr ⟨z3, z5, rfl⟩)
  rcases this with ⟨o, bs, h1, hb⟩ | ⟨z3, z5, h1⟩
  · rw [h1]
    walk_at "dl"
    exact ⟨_, bs, rfl, hb⟩
  · rw [h1]
    walk_at "dl"
    rw [DL.lr1_ok (by omega) (by omega), Int.toNat_natCast, range_pI]
    walk_at "dl"
    obtain ⟨o2, b2, e2⟩ := short_pI ps hp lists hl h10 hs (List.range (U ps)) (by rw [List.length_range]; omega)
    rw [DL.callO_flat e2 rfl]
    walk_at "dl"
    cases b2 with
    | true =>
      walk_at "dl"
      exact ⟨_, _, rfl, by unfold pI; rw [List.length_map, List.length_range]; omega⟩
    | false =>
      walk_at "dl"
      exact ⟨_, [], rfl, by simp⟩
inductive Wd : Nat → D → Prop
  | tie {m : Nat} (i : Int) : Wd m (.tup [.str (Str.ofString "tie"), .int i])
  | short {m : Nat} (bs : List Int) : bs.length ≤ 10 + m → Wd m (.tup [.str (Str.ofString "short"), .lst (bs.map .int)])
  | split {m : Nat} (ds : List D) : ds.length ≤ 10 + m → (∀ d ∈ ds, Wd m d) → Wd (m + 1) (.tup [.str (Str.ofString "split"), .lst ds])
theorem Wd.mono {m : Nat} {d : D} (w : Wd m d) : ∀ {m' : Nat}, m ≤ m' → Wd m' d := by
  induction w with
  | tie i => exact fun _ => .tie i
  | short bs h => exact fun h' => .short bs (by omega)
  | split ds h _ ih =>
    intro m' h'
    cases m' with
    | zero => exact absurd h' (by omega)
    | succ m' => exact .split ds (by omega) fun d hd => ih d hd (by omega)
theorem Wd.nb {m : Nat} {d : D} (w : Wd m d) : NB (2 * m + 4) d := by
  have hw : ∀ {x : Str} {n : Nat}, PyData.canLay0 (.str x) = true → NB n (.str x) := fun h => .str _ h
  induction w with
  | tie i =>
    refine .tup fun d hd => ?_
    rcases List.mem_cons.mp hd with rfl | hd
    · exact hw kT_ok
    · rw [List.mem_singleton.mp hd]; exact .int _
  | @short m bs h =>
    refine .tup fun d hd => ?_
    rcases List.mem_cons.mp hd with rfl | hd
    · exact hw kH_ok
    · rw [List.mem_singleton.mp hd]; exact NB.ints bs
  | @split m ds h _ ih =>
    have e : 2 * (m + 1) + 4 = ((2 * m + 4) + 1) + 1 := by omega
    rw [e]
    refine .tup fun d hd => ?_
    rcases List.mem_cons.mp hd with rfl | hd
    · exact hw kP_ok
    · rw [List.mem_singleton.mp hd]; exact .lst ih
theorem Wd.dat {m : Nat} {d : D} (w : Wd m d) (hm : m ≤ 80) : Dat d := by
  have two : ∀ (s : Str) (r : D), Dt false r → Dat (.tup [.str s, r]) := fun s r hr => .tup _ (fun h r' e => by
    injection e with e _
    subst e
    exact .inr (.inr (.inl ⟨s, rfl⟩))) (fun h r' e => by
    injection e with _ e
    injection e with e _
    subst e
    exact hr)
  induction w with
  | tie i => exact two _ _ (.int i)
  | short bs h => exact two _ _ (.lst _ (by rw [List.length_map]; omega) fun d hd => by
      obtain ⟨x, _, rfl⟩ := List.mem_map.mp hd
      exact .int x)
  | split ds h _ ih => exact two _ _ (.lst _ (by omega) fun d hd => ih d hd (by omega))
end Lpa
namespace Hon
open PySem DL Ti Di Sh De Br Bo Gw Pt Dl Df Dw Pl Rw Po Ma Nu Se Lp Sho So Sw Sf Ce Lc Ap Lpa
theorem ap_bodyS {n N : Nat} {io : List Nat} {g : En → R Fl} {ds : List D} (h : ds.length = n) : bodyS n N io g ds = endM io (noE (g (ioEnvS N io ds))) := by unfold bodyS; rw [if_pos h]
theorem cons_of {f : En → R D} {g : En → R (List D)} {ρ : En} {d : D} {ds : List D} (h1 : f ρ = .ok d) (h2 : g ρ = .ok ds) : aCons f g ρ = .ok (d :: ds) := by
  show bd (f ρ) (fun d => bd (g ρ) fun ds => .ok (d :: ds)) = _
  rw [h1, bd_ok, h2]; rfl
theorem nil_of {ρ : En} : aNil ρ = .ok [] := rfl
theorem pair_dat {s : Str} {r : D} (hr : Dt false r) : Dat (.tup [.str s, r]) := .tup _ (fun h r' e => by
    injection e with e _
    subst e
    exact .inr (.inr (.inl ⟨s, rfl⟩))) (fun h r' e => by
    injection e with _ e
    injection e with e _
    subst e
    exact hr)
theorem ints_dat {bs : List Int} (h : bs.length ≤ 100) : Dt false (.lst (bs.map .int)) := .lst _ (by rw [List.length_map]; exact h) fun d hd => by
  obtain ⟨x, _, rfl⟩ := List.mem_map.mp hd
  exact .int x
section
variable (lists : List (List Int)) (ties : List Tie) (h6 : lists.length ≤ 6) (hs : ∀ l ∈ lists, l.length ≤ 100) (ht : ∀ t ∈ ties, TieOk lists.length t) (htl : ties.length ≤ 1000)
include h6 hs ht htl
def env9 (ps : List Int) (lists : List (List Int)) (ties : List Tie) (l c : Int) (z5 z6 z7 z8 : DL.Slot) : En := [some (false, .lst (ps.map .int)), some (false, .lst (lists.map lI)), some (false, .lst (ties.map dT)), some (true, .lst [.int l]), some (false, .int c), z5, z6, z7, z8]
omit h6 hs ht htl in
theorem env5 {d0 d1 d2 d3 d4 : D} : ioEnvS 9 [3] [d0, d1, d2, d3, d4] = [some (false, d0), some (false, d1), some (false, d2), some (true, d3), some (false, d4), none, none, none, none] := by rfl
omit h6 hs ht htl in
theorem many_eq (self : DenM) (m n : Nat) (IH : ∀ (ps : List Int), IsP ps → ps.length ≤ lists.length → lists.length - ps.length < n → ∀ l c : Int, ∃ (d : D) (l' : Int), self [.lst (ps.map .int), .lst (lists.map lI), .lst (ties.map dT), .lst [.int l], .int c] = .ok (d, [.lst [.int l']]) ∧ Dat d ∧ (l ≤ 0 → l' ≤ 0 ∧ Wd m d))
    (ps : List Int) (hp : IsP ps) (hle : ps.length < lists.length) (h6 : lists.length ≤ 6) (hlt : lists.length - ps.length < n + 1) (c : Int) (z6 z5 : DL.Slot) : ∀ (xs : List Nat), (∀ i ∈ xs, i ≤ U ps) → ∀ (l : Int) (z8 : DL.Slot), ∃ (zs : List D) (l' : Int) (z8' : DL.Slot),
      lcMgo [8] (gSet 8) (Fn.law_honest_3311_c2 self) (xs.map fun i : Nat => D.int (0 + (i : Int))) (env9 ps lists ties l c z5 z6 (some (false, .int (U ps : Nat))) z8) = .ok (zs, env9 ps lists ties l' c z5 z6 (some (false, .int (U ps : Nat))) z8') ∧ zs.length = xs.length ∧ (∀ z ∈ zs, Dat z) ∧ (l ≤ 0 → l' ≤ 0 ∧ ∀ z ∈ zs, Wd m z)
  | [], _, l, z8 => ⟨[], l, z8, rfl, rfl, (fun _ h => nomatch h), fun h => ⟨h, fun _ h => nomatch h⟩⟩
  | i :: xs, hx, l, z8 => by
    have hi := hx i List.mem_cons_self
    obtain ⟨d, l1, e1, a1, w1⟩ := IH (ps ++ [(i : Int)]) (pt_snoc' hp (by omega)) (by rw [List.length_append, List.length_singleton]; omega) (by rw [List.length_append, List.length_singleton]; omega) l c
    rw [List.map_append] at e1
    have e1 : self [.lst (ps.map .int ++ [.int (i : Int)]), .lst (lists.map lI), .lst (ties.map dT), .lst [.int l], .int c] = .ok (d, [.lst [.int l1]]) := e1
    obtain ⟨zs, l', z8', g1, g2, g3, g4⟩ := many_eq self m n IH ps hp hle h6 hlt c z6 z5 xs (fun j hj => hx j (List.mem_cons_of_mem _ hj)) l1 (some (false, .int (0 + (i : Int))))
    refine ⟨d :: zs, l', z8', ?_, by rw [List.length_cons, List.length_cons, g2], fun z hz => ?_, fun h0 => ?_⟩
    · rw [List.map_cons]
      refine lcMgo_step (ρ1 := env9 ps lists ties l c z5 z6 (some (false, .int (U ps : Nat))) (some (false, .int (0 + (i : Int))))) rfl (ρ2 := env9 ps lists ties l1 c z5 z6 (some (false, .int (U ps : Nat))) (some (false, .int (0 + (i : Int))))) ?_ g1
      unfold Fn.law_honest_3311_c2
      refine DL.callM_of (ds := [.lst (ps.map .int ++ [.int (i : Int)]), .lst (lists.map lI), .lst (ties.map dT), .lst [.int l], .int c]) (es := [.lst [.int l1]]) (cons_of ?_ (cons_of rfl (cons_of rfl (cons_of rfl (cons_of rfl nil_of))))) rfl e1 rfl
      unfold env9
      walk_at "dl"
      rw [Int.zero_add, DL.small_of (by omega)]
      walk_at "dl"
    · rcases List.mem_cons.mp hz with rfl | hz
      · exact a1
      · exact g3 z hz
    · obtain ⟨k1, k2⟩ := w1 h0
      obtain ⟨k3, k4⟩ := g4 k1
      refine ⟨k3, fun z hz => ?_⟩
      rcases List.mem_cons.mp hz with rfl | hz
      · exact k2
      · exact k4 z hz
omit h6 hs ht htl in
theorem env57 {d0 d1 d2 d3 d4 : D} : ioEnvS 7 [3] [d0, d1, d2, d3, d4] = [some (false, d0), some (false, d1), some (false, d2), some (true, d3), some (false, d4), none, none] := by rfl
theorem honest_eq (self : DenM) (m n : Nat) (IH : ∀ (ps : List Int), IsP ps → ps.length ≤ lists.length → lists.length - ps.length < n → ∀ l c : Int, ∃ (d : D) (l' : Int), self [.lst (ps.map .int), .lst (lists.map lI), .lst (ties.map dT), .lst [.int l], .int c] = .ok (d, [.lst [.int l']]) ∧ Dat d ∧ (l ≤ 0 → l' ≤ 0 ∧ Wd m d))
    (ps : List Int) (hp : IsP ps) (hle : ps.length ≤ lists.length) (hlt : lists.length - ps.length < n + 1) (l c : Int) : ∃ (d : D) (l' : Int), Fn.law_honest_3311 self [.lst (ps.map .int), .lst (lists.map lI), .lst (ties.map dT), .lst [.int l], .int c] = .ok (d, [.lst [.int l']]) ∧ Dat d ∧ (∃ xs, d = .tup xs) ∧ (l ≤ 0 → l' ≤ 0 ∧ Wd (m + 1) d) := by
  have hgo : Fn.law_honest_3311 self [.lst (ps.map .int), .lst (lists.map lI), .lst (ties.map dT), .lst [.int l], .int c] = endM [3] (DL.noE (Fn.law_honest_3311_g self (env9 ps lists ties l c none none none none))) := by
    unfold Fn.law_honest_3311
    rw [ap_bodyS (by rfl), env5]
    rfl
  have hU : U ps ≤ ps.length := U_le fun x hx => hx
  have hUU : (uniq ps).length = U ps := rfl
  rw [hgo]; unfold Fn.law_honest_3311_g env9
  walk_at "dl"
  rw [DL.inR_small (by omega) (by omega)]
  walk_at "dl"
  rw [Int.toNat_natCast]
  have := DL.loop_ind (g := gSet 5) (gb := Fn.law_honest_3311_b1 self) (W := fun r => (∃ (i : Int), r = .ok (.ret false (.tup [.tup [.str (Str.ofString "tie"), .int i], .lst [.int l]]))) ∨ ∃ (z5 : DL.Slot), r = .ok (.next (env9 ps lists ties l c z5 none none none))) ((List.range ties.length).map fun i : Nat => D.int (0 + (i : Int)))
    (fun i ρ => ∃ (z5 : DL.Slot), ρ = env9 ps lists ties l c z5 none none none)
    (env9 ps lists ties l c none none none none) ⟨none, rfl⟩ (by
      rintro i d ρ hd ⟨z5, rfl⟩
      have hi := DL.at_lt hd
      rw [List.length_map, List.length_range] at hi
      have hd' : d = .int (0 + (i : Int)) := by
        rw [List.getElem?_map, List.getElem?_range hi] at hd
        cases hd; rfl
      subst hd'
      refine ⟨env9 ps lists ties l c (some (false, .int (0 + (i : Int)))) none none none, rfl, ?_⟩
      have hm := List.getElem_mem hi
      obtain ⟨o2, e2⟩ := law_breaks_eq ps ties[i].1 ties[i].2.1 ties[i].2.2 (by have := (ht _ hm).len; omega)
      have hx : dIxA (.lst (ties.map dT)) (.int (0 + (i : Int))) = .ok (dT ties[i]) := DL.ixA_lst (by omega) (by
        rw [show (0 + (i : Int)).toNat = i by omega, List.getElem?_map, List.getElem?_eq_getElem hi]; rfl)
      have e2 : Fn.law_breaks_a0c3 [.lst (ps.map .int), dT ties[i]] = .ok (o2, .bl (bkB ps ties[i])) := e2
      unfold Fn.law_honest_3311_b1 env9
      walk_at "dl"
      rw [hx]
      walk_at "dl"
      rw [DL.callO_flat e2 rfl]
      walk_at "dl"
      cases bkB ps ties[i] with
      | true =>
        walk_at "dl"
        rw [DL.ap_retM]
        walk_at "dl"
        exact .inr (.inr (.inl ⟨_, _, rfl, .inl ⟨_, rfl⟩⟩))
      | false =>
        walk_at "dl"
        exact .inl ⟨_, .inl rfl, _, rfl⟩) (by
      rintro ρ ⟨z5, rfl⟩
      exact .inr ⟨z5, rfl⟩)
  unfold env9 at this
  rcases this with ⟨i, h1⟩ | ⟨z5, h1⟩
  · rw [h1]
    walk_at "dl"
    exact ⟨_, l, rfl, pair_dat (.int i), ⟨_, rfl⟩, fun h => ⟨h, .tie i⟩⟩
  · rw [h1]
    walk_at "dl"
    obtain ⟨o3, bs, e3, hb3⟩ := blocks_eq2 ps hp lists hle (by omega) hs
    rw [DL.callE_of e3]
    walk_at "dl"
    by_cases hb : bs = []
    · rw [decide_eq_true hb]
      walk_at "dl"
      by_cases hw : ps.length = lists.length
      · rw [decide_eq_true (show (ps.length : Int) = (lists.length : Int) by omega)]
        walk_at "dl"
        rw [DL.ap_retM]
        walk_at "dl"
        exact ⟨_, l, rfl, pair_dat (ints_dat (by omega)), ⟨_, rfl⟩, fun h => ⟨h, .short bs (by omega)⟩⟩
      · rw [decide_eq_false (show ¬ (ps.length : Int) = (lists.length : Int) by omega)]
        walk_at "dl"
        rw [DL.lenS_ints (by omega), hUU]
        walk_at "dl"
        obtain ⟨zs, l', z8, g1, g2, g3, g4⟩ := many_eq lists ties self m n IH ps hp (by omega) h6 (by omega) c (some (false, .lst (bs.map .int))) z5 (List.range (U ps + 1)) (fun i hi => by have := List.mem_range.mp hi; omega) l none
        have hr : (irg (aCons (bop (rd 7) (cst (D.int 1)) dAdd) aNil) rng1) (env9 ps lists ties l c z5 (some (false, .lst (bs.map .int))) (some (false, .int (U ps : Nat))) none) = .ok ((List.range (U ps + 1)).map fun i : Nat => D.int (0 + (i : Int))) := by
          unfold env9
          walk_at "dl"
          rw [DL.inR_small (by omega) (by omega)]
          walk_at "dl"
          rw [show ((U ps : Int) + 1).toNat = U ps + 1 by omega]
        have hlc := lcM_of (own := [8]) (g := gSet 8) hr (by rw [List.length_map, List.length_range]; omega) g1
        have hret := retC_ok (io := [3]) (tupM_ok (f := cst (.str (Str.ofString "split"))) rfl hlc) (es := [.lst [.int l']]) rfl
        unfold env9 at hret
        rw [hret]
        exact ⟨_, l', rfl, pair_dat (.lst zs (by rw [g2, List.length_range]; omega) g3), ⟨_, rfl⟩, fun h => ⟨(g4 h).1, .split zs (by rw [g2, List.length_range]; omega) (g4 h).2⟩⟩
    · rw [decide_eq_false hb]
      walk_at "dl"
      rw [DL.ap_retM]
      walk_at "dl"
      exact ⟨_, l, rfl, pair_dat (ints_dat (by omega)), ⟨_, rfl⟩, fun h => ⟨h, .short bs (by omega)⟩⟩
end
end Hon
namespace Aq
open PySem DL Ti Di Sh De Br Bo Gw Pt Dl Df Pl Rw Po Ma Nu Se Lp Sho Sw So Sf Lc Ap
theorem isw_any {k : Bool} {d : D} (h : Dt k d) : ∃ o, Fn.is_whole_9e39 [d] = .ok (o, .bl (isI d)) := by
  cases h with
  | bl b =>
    unfold Fn.is_whole_9e39; rw [DL.ap_body (by rfl)]; unfold Fn.is_whole_9e39_g
    exact ⟨_, rfl⟩
  | int i => exact isw_eq i
  | _ =>
    unfold Fn.is_whole_9e39; rw [DL.ap_body (by rfl)]; unfold Fn.is_whole_9e39_g
    exact ⟨_, rfl⟩
theorem short_loopD (pools : List (List Int)) (hp : pools.length ≤ 10) (hs : ∀ p ∈ pools, p.length ≤ 100) (B : D) : ∀ (items : List D) (last : Int) (s : List Int) (z4 : DL.Slot), (∀ d ∈ items, Dat d) → -1 ≤ last → last ≤ 10 → (s.length : Int) ≤ 100 * (last + 1) →
    ∃ r, loopD (gSet 4) Fn.are_short_b850_b1 items [some (false, .lst (pools.map lI)), some (false, B), some (false, .int last), some (false, .lst (s.map .int)), z4] = r ∧ (((∀ bs : List Int, items = bs.map .int → shR pools last s bs = none) ∧ r = .ok (.ret true (.bl false))) ∨ ∃ (bs s' : List Int) (l' : Int) (z4' : DL.Slot), items = bs.map .int ∧ shR pools last s bs = some s' ∧ r = .ok (.next [some (false, .lst (pools.map lI)), some (false, B), some (false, .int l'), some (false, .lst (s'.map .int)), z4']))
  | [], last, s, z4, _, _, _, _ => ⟨_, rfl, .inr ⟨[], s, last, z4, rfl, rfl, rfl⟩⟩
  | d :: items, last, s, z4, hd, h1, h2, h3 => by
    obtain ⟨o1, e1⟩ := isw_any (hd d List.mem_cons_self)
    rw [DL.ap_loop1]
    cases hI : isI d with
    | false =>
      rw [hI] at e1
      have hb : Fn.are_short_b850_b1 [some (false, .lst (pools.map lI)), some (false, B), some (false, .int last), some (false, .lst (s.map .int)), some (false, d)] = .ok (.ret true (.bl false)) := by
        unfold Fn.are_short_b850_b1
        walk_at "dl"
        rw [DL.callO_flat e1 rfl]
        walk_at "dl"
      walk_at "dl"
      rw [hb]
      refine ⟨_, rfl, .inl ⟨fun bs e => ?_, rfl⟩⟩
      cases bs with
      | nil => cases e
      | cons b bs =>
        rw [List.map_cons] at e
        injection e with e _
        rw [e] at hI
        cases hI
    | true =>
      rw [hI] at e1
      obtain ⟨b, rfl⟩ := isI_of hI
      have hb : Fn.are_short_b850_b1 [some (false, .lst (pools.map lI)), some (false, B), some (false, .int last), some (false, .lst (s.map .int)), some (false, .int b)] = if b ≤ last ∨ (pools.length : Int) ≤ b then .ok (.ret true (.bl false)) else .ok (.next [some (false, .lst (pools.map lI)), some (false, B), some (false, .int b), some (false, .lst ((jn2 s (gP pools b.toNat)).map .int)), some (false, .int b)]) := by
        unfold Fn.are_short_b850_b1
        walk_at "dl"
        rw [DL.callO_flat e1 rfl]
        walk_at "dl"
        by_cases c1 : b ≤ last
        · rw [decide_eq_true c1, if_pos (.inl c1)]
          walk_at "dl"
        · rw [decide_eq_false c1]
          walk_at "dl"
          by_cases c2 : (pools.length : Int) ≤ b
          · rw [decide_eq_true c2, if_pos (.inr c2)]
            walk_at "dl"
          · rw [decide_eq_false c2, if_neg (fun h => h.elim c1 c2)]
            walk_at "dl"
            have hgs := gP_sm hs b.toNat
            obtain ⟨o2, e2⟩ := joined_eq2 s (gP pools b.toNat) (by omega)
            rw [look_p pools (by omega) (by omega)]
            walk_at "dl"
            rw [DL.callE_of e2]
            walk_at "dl"
      walk_at "dl"
      rw [hb]
      by_cases hc : b ≤ last ∨ (pools.length : Int) ≤ b
      · rw [if_pos hc]
        refine ⟨_, rfl, .inl ⟨fun bs e => ?_, rfl⟩⟩
        cases bs with
        | nil => cases e
        | cons b' bs =>
          rw [List.map_cons] at e
          injection e with e _
          injection e with e
          subst e
          unfold shR
          rw [if_pos hc]
      · rw [if_neg hc]
        have h4 := jn2_len s (gP pools b.toNat)
        have h5 := gP_sm hs b.toNat
        have hc0 := hc
        rw [not_or] at hc
        walk_at "dl"
        obtain ⟨r, g1, g2⟩ := short_loopD pools hp hs B items b (jn2 s (gP pools b.toNat)) (some (false, .int b)) (fun d h => hd d (List.mem_cons_of_mem _ h)) (by omega) (by omega) (by omega)
        refine ⟨r, g1, ?_⟩
        rcases g2 with ⟨g2, g3⟩ | ⟨bs, s', l', z4', g2, g3, g4⟩
        · refine .inl ⟨fun bs e => ?_, g3⟩
          cases bs with
          | nil => cases e
          | cons b' bs =>
            rw [List.map_cons] at e
            injection e with e e'
            injection e with e
            subst e
            unfold shR
            rw [if_neg hc0]
            exact g2 bs e'
        · refine .inr ⟨b :: bs, s', l', z4', by rw [List.map_cons, g2], ?_, g4⟩
          unfold shR
          rw [if_neg hc0]
          exact g3
theorem are_short_any (pools : List (List Int)) (hp : pools.length ≤ 10) (hs : ∀ p ∈ pools, p.length ≤ 100) (hn : ∀ p ∈ pools, p.Nodup) (items : List D) (hi : ∀ d ∈ items, Dat d) : ∃ (o b : Bool), Fn.are_short_b850 [.lst (pools.map lI), .lst items] = .ok (o, .bl b) ∧ (b = true ↔ ∃ P, Few pools P ∧ items = (srt (pI P)).map .int) := by
  by_cases hall : ∃ bs : List Int, items = bs.map .int
  · obtain ⟨bs, rfl⟩ := hall
    obtain ⟨o, b, e, h⟩ := are_short_eq pools hp hs hn bs
    refine ⟨o, b, e, h.trans ⟨fun ⟨P, hP, e⟩ => ⟨P, hP, by rw [e]⟩, fun ⟨P, hP, e⟩ => ⟨P, hP, ints_inj e⟩⟩⟩
  · obtain ⟨r, e, hr⟩ := short_loopD pools hp hs (.lst items) items (-1) [] none hi (by omega) (by omega) (by simp)
    unfold Fn.are_short_b850; rw [DL.ap_body (by rfl)]; unfold Fn.are_short_b850_g
    walk_at "dl"
    have e' : loopD (gSet 4) Fn.are_short_b850_b1 items [some (false, .lst (pools.map lI)), some (false, .lst items), some (false, .int (-1)), some (false, .lst []), none] = r := e
    rw [e']
    rcases hr with ⟨_, rfl⟩ | ⟨bs, _, _, _, h, _⟩
    · walk_at "dl"
      exact ⟨_, false, rfl, (fun h => nomatch h), fun ⟨P, _, e⟩ => absurd ⟨_, e⟩ hall⟩
    · exact absurd ⟨bs, h⟩ hall
theorem are_short_non {pools : List (List Int)} {d : D} (h : Dt false d) (hL : isLs d = false) : ∃ o, Fn.are_short_b850 [.lst (pools.map lI), d] = .ok (o, .bl false) := by
  cases h with
  | lst ds _ _ => cases hL
  | _ =>
    unfold Fn.are_short_b850; rw [DL.ap_body (by rfl)]; unfold Fn.are_short_b850_g
    exact ⟨_, rfl⟩
section
variable (lists : List (List Int)) (ties : List Tie) (h10 : lists.length ≤ 10) (hs : ∀ l ∈ lists, l.length ≤ 100) (hn : ∀ l ∈ lists, l.Nodup) (ht : ∀ t ∈ ties, TieOk lists.length t)
include h10 hs hn ht
theorem shows_any : ∀ (n : Nat) (ps : List Int) (d : D), Dat d → IsP ps → ps.length ≤ lists.length → lists.length - ps.length < n →
    ∃ (o b : Bool), Fn.shows_for_df5e n [.lst (ps.map .int), .lst (lists.map lI), .lst (ties.map dT), d] = .ok (o, .bl b) ∧ (b = true ↔ Shw lists ties ps d)
  | 0, _, _, _, _, _, h => absurd h (Nat.not_lt_zero _)
  | n + 1, ps, d, S, hp, hle, hlt0 => by
    have hgo : ∀ ds, Fn.shows_for_df5e (n + 1) ds = DL.bodyN 4 9 (Fn.shows_for_df5e_g (Fn.shows_for_df5e n)) ds := fun _ => rfl
    have hU : U ps ≤ ps.length := U_le fun x hx => hx
    rw [hgo, DL.ap_body (by rfl)]; unfold Fn.shows_for_df5e_g
    have hno : (∀ h r, d = .tup [h, r] → False) → ¬ Shw lists ties ps d := fun h S => by
      obtain ⟨a, r, e, _⟩ := shw_pair S
      exact h a r e
    have fin : ∀ {b : Bool}, (∀ h r, d = .tup [h, r] → False) → b = false → (b = true ↔ Shw lists ties ps d) := fun {b} h e => Iff.intro (fun z => by rw [e] at z; cases z) (fun S => absurd S (hno h))
    cases S with
    | non => exact ⟨_, false, rfl, fin (fun _ _ e => by cases e) rfl⟩
    | bl b => exact ⟨_, false, rfl, fin (fun _ _ e => by cases e) rfl⟩
    | int b => exact ⟨_, false, rfl, fin (fun _ _ e => by cases e) rfl⟩
    | str b => exact ⟨_, false, rfl, fin (fun _ _ e => by cases e) rfl⟩
    | lstP ds => exact ⟨_, false, rfl, fin (fun _ _ e => by cases e) rfl⟩
    | tup ds h3 h4 =>
      by_cases hl : ds.length = 2
      · obtain ⟨h, r, rfl⟩ : ∃ h r, ds = [h, r] := by
          match ds, hl with
          | [h, r], _ => exact ⟨h, r, rfl⟩
        have hh := h3 h r rfl
        have hr : Dt false r := h4 h r rfl
        have ht1 := head_eq hh kT_ok false
        have ht2 := head_eq hh kH_ok false
        have ht3 := head_eq hh kP_ok true
        unfold kT at ht1
        unfold kH at ht2
        unfold kP at ht3
        walk_at "dl"
        rw [show decide (((2 : Nat) : Int) = 2) = true from rfl]
        walk_at "dl"
        rw [ht1]
        walk_at "dl"
        cases hT : isS (Str.ofString "tie") h with
        | true =>
          have eh : h = .str kT := isS_of hT
          subst eh
          obtain ⟨o1, e1⟩ := isw_any hr
          walk_at "dl"
          rw [DL.callO_flat e1 rfl]
          walk_at "dl"
          cases hI : isI r with
          | false =>
            walk_at "dl"
            refine ⟨_, false, rfl, (fun z => nomatch z), fun S => ?_⟩
            obtain ⟨k, _, e, _⟩ := shw_t S
            rw [e] at hI; cases hI
          | true =>
            obtain ⟨i, rfl⟩ := isI_of hI
            walk_at "dl"
            by_cases hi0 : 0 ≤ i
            · by_cases hil : i < (ties.length : Int)
              · obtain ⟨k, rfl⟩ : ∃ k : Nat, i = (k : Int) := ⟨i.toNat, by omega⟩
                have hk : k < ties.length := by omega
                have hm := List.getElem_mem hk
                obtain ⟨o2, e2⟩ := breaks_eq ps ties[k].1 ties[k].2.1 ties[k].2.2 (by have := (ht _ hm).len; omega)
                have e2 : Fn.breaks_a702 [.lst (ps.map .int), dT ties[k]] = .ok (o2, .bl (bkB ps ties[k])) := e2
                have hx : dIxA (.lst (ties.map dT)) (.int (k : Int)) = .ok (dT ties[k]) := DL.ixA_lst (by omega) (by
                  rw [Int.toNat_natCast, List.getElem?_map, List.getElem?_eq_getElem hk]; rfl)
                rw [decide_eq_true hi0]
                walk_at "dl"
                rw [decide_eq_true hil]
                walk_at "dl"
                rw [hx]
                walk_at "dl"
                rw [DL.callO_flat e2 rfl]
                walk_at "dl"
                refine ⟨_, _, rfl, ?_⟩
                have := shw_tie (lists := lists) (ties := ties) (ps := ps) (i := (k : Int))
                constructor
                · exact fun hb => this.mpr ⟨k, hk, rfl, hb⟩
                · intro S
                  obtain ⟨k', hk', e, hb⟩ := this.mp S
                  have : k = k' := by omega
                  subst this
                  exact hb
              · rw [decide_eq_true hi0]
                walk_at "dl"
                rw [decide_eq_false hil]
                walk_at "dl"
                refine ⟨_, false, rfl, (fun z => nomatch z), fun S => ?_⟩
                obtain ⟨k, hk, e, _⟩ := shw_t S
                injection e with e
                omega
            · rw [decide_eq_false hi0]
              walk_at "dl"
              refine ⟨_, false, rfl, (fun z => nomatch z), fun S => ?_⟩
              obtain ⟨k, hk, e, _⟩ := shw_t S
              injection e with e
              omega
        | false =>
          walk_at "dl"
          rw [ht2]
          walk_at "dl"
          cases hH : isS (Str.ofString "short") h with
          | true =>
            have eh : h = .str kH := isS_of hH
            subst eh
            walk_at "dl"
            rw [DL.callE_of (pools_of_eq2 ps hp lists hle (by omega) hs)]
            walk_at "dl"
            cases hL : isLs r with
            | false =>
              obtain ⟨o1, e1⟩ := are_short_non (pools := poolsOf ps lists) hr hL
              rw [DL.callO_flat e1 rfl]
              walk_at "dl"
              refine ⟨_, false, rfl, (fun z => nomatch z), fun S => ?_⟩
              obtain ⟨P, _, e⟩ := shw_h S
              rw [e] at hL; cases hL
            | true =>
              cases hr with
              | lst items a1 a2 =>
                obtain ⟨o1, b1, e1, i1⟩ := are_short_any (poolsOf ps lists) (by rw [pools_len]; omega) (pools_small hs ps) (pool_nodup hn ps) items a2
                rw [DL.callO_flat e1 rfl]
                walk_at "dl"
                refine ⟨_, b1, rfl, ?_⟩
                rw [i1]
                constructor
                · rintro ⟨P, hP, rfl⟩
                  exact .short P hP
                · intro S
                  obtain ⟨P, hP, e⟩ := shw_h S
                  injection e with e
                  exact ⟨P, hP, e⟩
              | _ => cases hL
          | false =>
            walk_at "dl"
            rw [ht3]
            walk_at "dl"
            cases hP : isS (Str.ofString "split") h with
            | false =>
              walk_at "dl"
              refine ⟨_, false, rfl, (fun z => nomatch z), fun S => ?_⟩
              obtain ⟨h', r', e, hk⟩ := shw_pair S
              injection e with e
              injection e with e _
              subst e
              rcases hk with rfl | rfl | rfl
              · rw [show isS (Str.ofString "tie") (.str kT) = true from isS_self _] at hT; cases hT
              · rw [show isS (Str.ofString "short") (.str kH) = true from isS_self _] at hH; cases hH
              · rw [show isS (Str.ofString "split") (.str kP) = true from isS_self _] at hP; cases hP
            | true =>
              have eh : h = .str kP := isS_of hP
              subst eh
              walk_at "dl"
              have hnl : isLs r = false → ¬ Shw lists ties ps (.tup [.str kP, r]) := fun h S => by
                obtain ⟨ds, e, _⟩ := shw_p S
                rw [e] at h; cases h
              cases hr with
              | non => exact ⟨_, false, rfl, (fun z => nomatch z), fun S => absurd S (hnl rfl)⟩
              | bl b => exact ⟨_, false, rfl, (fun z => nomatch z), fun S => absurd S (hnl rfl)⟩
              | int b => exact ⟨_, false, rfl, (fun z => nomatch z), fun S => absurd S (hnl rfl)⟩
              | str b => exact ⟨_, false, rfl, (fun z => nomatch z), fun S => absurd S (hnl rfl)⟩
              | tupR ds => exact ⟨_, false, rfl, (fun z => nomatch z), fun S => absurd S (hnl rfl)⟩
              | lst ds a1 a2 =>
                rw [show Shw lists ties ps (.tup [.str kP, .lst ds]) ↔ ps.length < lists.length ∧ ds.length = U ps + 1 ∧ ∀ k (hk : k < ds.length), Shw lists ties (ps ++ [(k : Int)]) ds[k] from shw_split]
                walk_at "dl"
                by_cases hw : ps.length = lists.length
                · rw [decide_eq_true (show (ps.length : Int) = (lists.length : Int) by omega)]
                  walk_at "dl"
                  exact ⟨_, _, rfl, ⟨(fun h => by cases h), fun h => absurd hw (by omega)⟩⟩
                · rw [decide_eq_false (show ¬ (ps.length : Int) = (lists.length : Int) by omega)]
                  walk_at "dl"
                  have hlt : ps.length < lists.length := by omega
                  have hWU : W ps = (U ps : Int) := pt_W hp
                  obtain ⟨o3, e3⟩ := grown_eq ps (by omega) (by omega) (by omega)
                  have hgl : grownL ps = (List.range (U ps + 1)).map fun k : Nat => ps ++ [(k : Int)] := by
                    unfold grownL
                    rw [hWU, show ((U ps : Int) + 1).toNat = U ps + 1 by omega]
                  have hgll : (grownL ps).length = U ps + 1 := by rw [hgl, List.length_map, List.length_range]
                  rw [DL.callE_of e3]
                  walk_at "dl"
                  rw [hgll]
                  by_cases hdl : ds.length = U ps + 1
                  · rw [decide_eq_true (show (ds.length : Int) = ((U ps + 1 : Nat) : Int) by omega)]
                    walk_at "dl"
                    have hz : ∀ i (h : i < U ps + 1), (zipD ((grownL ps).map lI) ds)[i]? = some (.tup [lI (ps ++ [(i : Int)]), ds[i]]) := fun i h => by
                      unfold zipD
                      rw [List.getElem?_zipWith, hgl, List.getElem?_map, List.getElem?_map, List.getElem?_range h, List.getElem?_eq_getElem (by omega)]
                      rfl
                    have hzl : (zipD ((grownL ps).map lI) ds).length = U ps + 1 := by
                      unfold zipD
                      rw [List.length_zipWith, List.length_map, hgll, hdl, Nat.min_self]
                    have := DL.loop_ind (g := gSeqD 2 (gsCons (gSet 7) (gsCons (gSet 8) gsNil))) (gb := Fn.shows_for_df5e_b1 (Fn.shows_for_df5e n)) (W := fun r => (r = .ok (.ret true (.bl false)) ∧ ¬ ∀ k (hk : k < ds.length), Shw lists ties (ps ++ [(k : Int)]) ds[k]) ∨ ∃ (z7 z8 : DL.Slot), (∀ k (hk : k < ds.length), Shw lists ties (ps ++ [(k : Int)]) ds[k]) ∧ r = .ok (.next [some (false, .lst (ps.map .int)), some (false, .lst (lists.map lI)), some (false, .lst (ties.map dT)), some (false, .tup [.str kP, .lst ds]), some (false, .lst ((grownL ps).map lI)), some (false, .str (Str.ofString "split")), some (false, .lst ds), z7, z8])) (zipD ((grownL ps).map lI) ds)
                      (fun i ρ => ∃ (z7 z8 : DL.Slot), (∀ k (hk : k < ds.length), k < i → Shw lists ties (ps ++ [(k : Int)]) ds[k]) ∧ ρ = [some (false, .lst (ps.map .int)), some (false, .lst (lists.map lI)), some (false, .lst (ties.map dT)), some (false, .tup [.str kP, .lst ds]), some (false, .lst ((grownL ps).map lI)), some (false, .str (Str.ofString "split")), some (false, .lst ds), z7, z8])
                      [some (false, .lst (ps.map .int)), some (false, .lst (lists.map lI)), some (false, .lst (ties.map dT)), some (false, .tup [.str kP, .lst ds]), some (false, .lst ((grownL ps).map lI)), some (false, .str (Str.ofString "split")), some (false, .lst ds), none, none] ⟨none, none, (fun k hk h => absurd h (Nat.not_lt_zero _)), rfl⟩ (by
                        rintro i d ρ hd ⟨z7, z8, hpre, rfl⟩
                        have hi := DL.at_lt hd
                        rw [hzl] at hi
                        have hd' : d = .tup [lI (ps ++ [(i : Int)]), ds[i]] := by
                          rw [hz i hi] at hd
                          cases hd; rfl
                        subst hd'
                        refine ⟨[some (false, .lst (ps.map .int)), some (false, .lst (lists.map lI)), some (false, .lst (ties.map dT)), some (false, .tup [.str kP, .lst ds]), some (false, .lst ((grownL ps).map lI)), some (false, .str (Str.ofString "split")), some (false, .lst ds), some (false, lI (ps ++ [(i : Int)])), some (false, ds[i])], rfl, ?_⟩
                        obtain ⟨o4, b4, e4, r4⟩ := shows_any n (ps ++ [(i : Int)]) ds[i] (a2 _ (List.getElem_mem (by omega))) (pt_snoc' hp (by omega)) (by rw [List.length_append, List.length_singleton]; omega) (by rw [List.length_append, List.length_singleton]; omega)
                        have e4 : Fn.shows_for_df5e n [lI (ps ++ [(i : Int)]), .lst (lists.map lI), .lst (ties.map dT), ds[i]] = .ok (o4, .bl b4) := e4
                        cases b4 with
                        | true =>
                          refine .inl ⟨_, .inl ?_, some (false, lI (ps ++ [(i : Int)])), some (false, ds[i]), fun k hk h => ?_, rfl⟩
                          · unfold Fn.shows_for_df5e_b1
                            walk_at "dl"
                            rw [DL.callO_flat e4 rfl]
                            walk_at "dl"
                          · by_cases e : k = i
                            · subst e
                              exact r4.mp rfl
                            · exact hpre k hk (by omega)
                        | false =>
                          refine .inr (.inr (.inl ⟨true, .bl false, ?_, .inl ⟨rfl, fun hall => ?_⟩⟩))
                          · unfold Fn.shows_for_df5e_b1
                            walk_at "dl"
                            rw [DL.callO_flat e4 rfl]
                            walk_at "dl"
                          · have := r4.mpr (hall i (by omega))
                            cases this) (by
                        rintro ρ ⟨z7, z8, hpre, rfl⟩
                        rw [hzl] at hpre
                        exact .inr ⟨z7, z8, fun k hk => hpre k hk (by omega), rfl⟩)
                    rcases this with ⟨h1, h2⟩ | ⟨z7, z8, h1, h2⟩
                    · erw [h1]
                      walk_at "dl"
                      exact ⟨_, _, rfl, ⟨(fun h => by cases h), fun h => absurd h.2.2 h2⟩⟩
                    · erw [h2]
                      walk_at "dl"
                      exact ⟨_, _, rfl, ⟨fun _ => ⟨hlt, hdl, h1⟩, fun _ => rfl⟩⟩
                  · rw [decide_eq_false (show ¬ (ds.length : Int) = ((U ps + 1 : Nat) : Int) by omega)]
                    walk_at "dl"
                    exact ⟨_, _, rfl, ⟨(fun h => by cases h), fun h => absurd h.2.1 hdl⟩⟩
      · walk_at "dl"
        rw [decide_eq_false (show ¬ (ds.length : Int) = 2 by omega)]
        walk_at "dl"
        exact ⟨_, false, rfl, fin (fun h r e => by injection e with e; rw [e] at hl; exact hl rfl) rfl⟩
theorem shows_any2 (d : D) (S : Dat d) : ∃ (o b : Bool), Fn.shows_0c85 [.lst (lists.map lI), .lst (ties.map dT), d] = .ok (o, .bl b) ∧ (b = true ↔ Shw lists ties [] d) := by
  obtain ⟨o, b, e, h⟩ := shows_any lists ties h10 hs hn ht 12 [] d S pt_nil (Nat.zero_le _) (by rw [List.length_nil]; omega)
  have e : Fn.shows_for_df5e 12 [.lst [], .lst (lists.map lI), .lst (ties.map dT), d] = .ok (o, .bl b) := e
  unfold Fn.shows_0c85; rw [DL.ap_body (by rfl)]; unfold Fn.shows_0c85_g
  walk_at "dl"
  rw [DL.callO_flat e rfl]
  walk_at "dl"
  exact ⟨_, _, rfl, h⟩
end
end Aq
namespace Lk24
open PySem DL Ti Di Sh De Br Bo Gw Pt Dl Df Dw Pl Rw Po Ma Nu Se Lp Sho So Sw Sf Ce Lc Ap Aq Lpa Hon
def headB : D → Bool
  | .non => true
  | .int _ => true
  | .str _ => true
  | .lst [.str s] => decide (s = Str.ofString "tie")
  | _ => false
theorem headB_ok {h : D} (e : headB h = true) : HeadOk h := by
  unfold headB at e
  split at e
  · exact .inl rfl
  · exact .inr (.inl ⟨_, rfl⟩)
  · exact .inr (.inr (.inl ⟨_, rfl⟩))
  · rw [of_decide_eq_true e]; exact .inr (.inr (.inr rfl))
  · cases e
mutual
def papB : D → Bool
  | .non => true
  | .bl _ => true
  | .int _ => true
  | .str _ => true
  | .lst _ => true
  | .tup [h, r] => headB h && rstB r
  | .tup _ => true
  | _ => false
def rstB : D → Bool
  | .non => true
  | .bl _ => true
  | .int _ => true
  | .str _ => true
  | .tup _ => true
  | .lst ds => decide (ds.length ≤ 100) && papBs ds
  | _ => false
def papBs : List D → Bool
  | [] => true
  | d :: ds => papB d && papBs ds
end
mutual
theorem papB_ok : ∀ (d : D), papB d = true → Dt true d
  | .non, _ => .non
  | .bl b, _ => .bl b
  | .int i, _ => .int i
  | .str s, _ => .str s
  | .lst ds, _ => .lstP ds
  | .tup [h, r], e => by
    have e : (headB h && rstB r) = true := by unfold papB at e; exact e
    have e := Bool.and_eq_true_iff.mp e
    have hr := rstB_ok r e.2
    refine .tup _ (fun h' r' q => ?_) (fun h' r' q => ?_)
    · injection q with q _
      rw [← q]; exact headB_ok e.1
    · injection q with _ q
      injection q with q _
      rw [← q]; exact hr
  | .tup [], _ => .tup _ (fun _ _ q => nomatch q) (fun _ _ q => nomatch q)
  | .tup [_], _ => .tup _ (fun _ _ q => nomatch q) (fun _ _ q => nomatch q)
  | .tup (_ :: _ :: _ :: _), _ => .tup _ (fun _ _ q => nomatch q) (fun _ _ q => nomatch q)
  | .scr _, e => nomatch e
  | .dK _, e => nomatch e
  | .dT _, e => nomatch e
  | .ref _, e => nomatch e
  | .rows _, e => nomatch e
  | .exn _, e => nomatch e
  | .deep _, e => nomatch e
  | .junk _, e => nomatch e
  | .obj _, e => nomatch e
theorem rstB_ok : ∀ (d : D), rstB d = true → Dt false d
  | .non, _ => .non
  | .bl b, _ => .bl b
  | .int i, _ => .int i
  | .str s, _ => .str s
  | .tup ds, _ => .tupR ds
  | .lst ds, e => by
    have e : (decide (ds.length ≤ 100) && papBs ds) = true := by unfold rstB at e; exact e
    have e := Bool.and_eq_true_iff.mp e
    exact .lst ds (of_decide_eq_true e.1) (papBs_ok ds e.2)
  | .scr _, e => nomatch e
  | .dK _, e => nomatch e
  | .dT _, e => nomatch e
  | .ref _, e => nomatch e
  | .rows _, e => nomatch e
  | .exn _, e => nomatch e
  | .deep _, e => nomatch e
  | .junk _, e => nomatch e
  | .obj _, e => nomatch e
theorem papBs_ok : ∀ (ds : List D), papBs ds = true → ∀ d ∈ ds, Dt true d
  | [], _, _, h => nomatch h
  | d :: ds, e, x, h => by
    have e : (papB d && papBs ds) = true := by unfold papBs at e; exact e
    have e := Bool.and_eq_true_iff.mp e
    have h1 := papB_ok d e.1
    have h2 := papBs_ok ds e.2
    rcases List.mem_cons.mp h with q | h
    · rw [q]; exact h1
    · exact h2 x h
end
def Both (d : D) : Prop := Dt true d ∧ Dt false d
theorem odd_eq (c : Int) : ∃ (o : Bool) (d : D), Fn.law_odd_c3c0 [.int c] = .ok (o, d) ∧ Both d := by
  have pick : ∀ L : List D, L.length = 40 → (L.all fun x => papB x && rstB x) = true → ∃ (o : Bool) (d : D), endD (noE (retK (bd2 (R.ok (.lst L)) (dMod (.int c) (.int ((40 : Nat) : Int))) dIxA) false)) = .ok (o, d) ∧ Both d := fun L h1 h2 => by
    rw [DL.mod_pos (by omega)]
    have q1 := Int.emod_nonneg c (show ((40 : Nat) : Int) ≠ 0 by omega)
    have q2 := Int.emod_lt_of_pos c (show 0 < ((40 : Nat) : Int) by omega)
    have hk : (c % ((40 : Nat) : Int)).toNat < L.length := by omega
    have e : dIxA (.lst L) (.int (c % ((40 : Nat) : Int))) = .ok L[(c % ((40 : Nat) : Int)).toNat] := DL.ixA_lst q1 (List.getElem?_eq_getElem hk)
    have hb := Bool.and_eq_true_iff.mp (List.all_eq_true.mp h2 _ (List.getElem_mem hk))
    refine ⟨false, _, ?_, papB_ok _ hb.1, rstB_ok _ hb.2⟩
    show endD (noE (retK (dIxA (.lst L) (.int (c % ((40 : Nat) : Int)))) false)) = _
    rw [e]; rfl
  unfold Fn.law_odd_c3c0; rw [DL.ap_body (by rfl)]; unfold Fn.law_odd_c3c0_g
  walk_at "dl"
  exact pick _ rfl rfl
theorem truths_ints {bs : List Int} (h : bs.length ≤ 100) : ∃ (o : Bool) (d : D), Fn.law_truths_d54f [.lst (bs.map .int)] = .ok (o, d) ∧ Dt false d := by
  unfold Fn.law_truths_d54f; rw [DL.ap_body (by rfl)]; unfold Fn.law_truths_d54f_g
  walk_at "dl"
  rw [lc_map (i := 1) (f := Fn.law_truths_d54f_e1) D.int (fun b => D.bl (decide (b = 1))) bs (by omega) (fun b hb => by
    unfold Fn.law_truths_d54f_e1
    walk_at "dl")]
  walk_at "dl"
  refine ⟨_, _, rfl, .lst _ (by rw [List.length_map]; exact h) fun d hd => ?_⟩
  obtain ⟨b, _, rfl⟩ := List.mem_map.mp hd
  exact .bl _
theorem truths_paps {m : Nat} (hm : m ≤ 25) {ds : List D} (h : ds.length ≤ 100) (hw : ∀ d ∈ ds, Wd m d) : ∃ (o : Bool) (d : D), Fn.law_truths_d54f [.lst ds] = .ok (o, d) ∧ Dt false d := by
  unfold Fn.law_truths_d54f; rw [DL.ap_body (by rfl)]; unfold Fn.law_truths_d54f_g
  walk_at "dl"
  have := lc_map (i := 1) (f := Fn.law_truths_d54f_e1) (ρ := [some (false, .lst ds), none]) (fun d : D => d) (fun _ => D.bl false) ds (by omega) (fun d hd => by
    have w := hw d hd
    have e : dEq false d (.int 1) = .ok (.bl false) := by
      obtain ⟨xs, rfl⟩ : ∃ xs, d = .tup xs := by cases w <;> exact ⟨_, rfl⟩
      exact De.deep_eq (P := False) (neg := false) w.nb (De.NB.int (n := 0) 1) (by omega) (by omega) (Iff.intro (fun h => D.noConfusion h) (fun h => h.elim))
    unfold Fn.law_truths_d54f_e1
    walk_at "dl"
    rw [e])
  rw [List.map_id'] at this
  rw [this]
  walk_at "dl"
  refine ⟨_, _, rfl, .lst _ (by rw [List.length_map]; exact h) fun d hd => ?_⟩
  obtain ⟨b, _, rfl⟩ := List.mem_map.mp hd
  exact .bl _
theorem truths_int (i : Int) : ∃ (o : Bool) (d : D), Fn.law_truths_d54f [.int i] = .ok (o, d) ∧ Dt false d := by
  unfold Fn.law_truths_d54f; rw [DL.ap_body (by rfl)]; unfold Fn.law_truths_d54f_g
  walk_at "dl"
  exact ⟨_, _, rfl, .bl _⟩
theorem isLs_of {d : D} (h : isLs d = true) : ∃ ds, d = .lst ds := by
  cases d with
  | lst ds => exact ⟨ds, rfl⟩
  | _ => exact nomatch h
theorem turned_eq {m : Nat} (hm : m ≤ 25) {d : D} (w : Wd m d) (c : Int) : ∃ (o : Bool) (d' : D), Fn.law_turned_7c04 [d, .int c] = .ok (o, d') ∧ Both d' := by
  obtain ⟨s, r, rfl, hs, ⟨⟨hrt, hr⟩, h90⟩, htr⟩ : ∃ s r, d = .tup [.str s, r] ∧ s.length ≤ 100 ∧ (Both r ∧ ∀ ds, r = .lst ds → ds.length ≤ 90) ∧ ∃ (o : Bool) (x : D), Fn.law_truths_d54f [r] = .ok (o, x) ∧ Dt false x := by
    cases w with
    | tie i => exact ⟨_, _, rfl, by decide +kernel, ⟨⟨.int i, .int i⟩, fun _ e => nomatch e⟩, truths_int i⟩
    | short bs h => exact ⟨_, _, rfl, by decide +kernel, ⟨⟨.lstP _, ints_dat (by omega)⟩, fun _ e => by injection e with e; rw [← e, List.length_map]; omega⟩, truths_ints (by omega)⟩
    | split ds h1 h2 => exact ⟨_, _, rfl, by decide +kernel, ⟨⟨.lstP _, .lst ds (by omega) fun d hd => (h2 d hd).dat (by omega)⟩, fun _ e => by injection e with e; rw [← e]; omega⟩, truths_paps (by omega) (by omega) h2⟩
  obtain ⟨o1, x1, e1, hx1⟩ := htr
  unfold Fn.law_turned_7c04; rw [DL.ap_body (by rfl)]; unfold Fn.law_turned_7c04_g
  walk_at "dl"
  have hisi : isiD "list" r = .ok (.bl (isLs r)) := by cases hr <;> rfl
  by_cases hc : c % 2 = 0
  · rw [decide_eq_true hc]
    obtain ⟨o2, d2, e2, h2⟩ := odd_eq (c / 2)
    walk_at "dl"
    rw [DL.callE_of e2]
    walk_at "dl"
    exact ⟨_, _, rfl, h2⟩
  rw [decide_eq_false hc]
  walk_at "dl"
  have hw0 := Int.emod_nonneg (c / 2) (show (8 : Int) ≠ 0 by omega)
  have hw1 := Int.emod_lt_of_pos (c / 2) (show (0 : Int) < 8 by omega)
  generalize c / 2 % 8 = way at hw0 hw1 ⊢
  have tail : ∀ (z : Bool), z = false → True := fun _ _ => trivial
  rcases (by omega : way = 0 ∨ way = 1 ∨ way = 2 ∨ way = 3 ∨ way = 4 ∨ way = 5 ∨ way = 6 ∨ way = 7) with h | h | h | h | h | h | h | h <;> subst h
  · walk_at "dl"
    exact ⟨_, _, rfl, .lstP _, .lst _ (by simp) fun d hd => by
      rcases List.mem_cons.mp hd with rfl | hd
      · exact .str s
      · rw [List.mem_singleton.mp hd]; exact hrt⟩
  · walk_at "dl"
    exact ⟨_, _, rfl, .tup _ (fun _ _ q => nomatch q) (fun _ _ q => nomatch q), .tupR _⟩
  · walk_at "dl"
    exact ⟨_, _, rfl, .tup _ (fun _ _ q => nomatch q) (fun _ _ q => nomatch q), .tupR _⟩
  · walk_at "dl"
    rw [hisi]
    cases hL : isLs r with
    | true =>
      obtain ⟨ds, rfl⟩ := isLs_of hL
      walk_at "dl"
      exact ⟨_, _, rfl, pair_dat (.tupR _), .tupR _⟩
    | false =>
      walk_at "dl"
      rw [DL.callE_of e1]
      walk_at "dl"
      exact ⟨_, _, rfl, pair_dat hx1, .tupR _⟩
  · walk_at "dl"
    rw [hisi]
    cases hL : isLs r with
    | true =>
      obtain ⟨ds, rfl⟩ := isLs_of hL
      have h9 := h90 ds rfl
      walk_at "dl"
      rw [DL.small_of (by omega)]
      walk_at "dl"
      cases hr with
      | lst _ a1 a2 =>
        refine ⟨_, _, rfl, pair_dat (.lst (ds ++ [.non]) (by rw [List.length_append, List.length_singleton]; omega) fun d hd => ?_), .tupR _⟩
        rcases List.mem_append.mp hd with h | h
        · exact a2 d h
        · rw [List.mem_singleton.mp h]; exact .non
    | false =>
      walk_at "dl"
      rw [DL.callE_of e1]
      walk_at "dl"
      exact ⟨_, _, rfl, pair_dat hx1, .tupR _⟩
  · walk_at "dl"
    rw [show dUpper (.str s) = .ok (.str (PySem.Txt.upper s)) from by
      show grd (decide (s.length ≤ 5592405)) (R.ok _) = _
      rw [decide_eq_true (by omega)]; rfl]
    walk_at "dl"
    exact ⟨_, _, rfl, pair_dat hr, .tupR _⟩
  · walk_at "dl"
    exact ⟨_, _, rfl, pair_dat .non, .tupR _⟩
  · walk_at "dl"
    rw [DL.callE_of e1]
    walk_at "dl"
    exact ⟨_, _, rfl, pair_dat hx1, .tupR _⟩
section
variable (lists : List (List Int)) (ties : List Tie) (h6 : lists.length ≤ 6) (hs : ∀ l ∈ lists, l.length ≤ 100) (ht : ∀ t ∈ ties, TieOk lists.length t) (htl : ties.length ≤ 1000)
include h6 hs ht htl
theorem paper_eq : ∀ (n : Nat), n ≤ 20 → ∀ (ps : List Int), IsP ps → ps.length ≤ lists.length → lists.length - ps.length < n → ∀ l c : Int, ∃ (d : D) (l' : Int), Fn.law_paper_14a1 n [.lst (ps.map .int), .lst (lists.map lI), .lst (ties.map dT), .lst [.int l], .int c] = .ok (d, [.lst [.int l']]) ∧ Both d ∧ (l ≤ 0 → l' ≤ 0 ∧ Wd n d)
  | 0, _, _, _, _, h, _, _ => absurd h (Nat.not_lt_zero _)
  | n + 1, hn20, ps, hp, hle, hlt, l, c => by
    have hgo : Fn.law_paper_14a1 (n + 1) [.lst (ps.map .int), .lst (lists.map lI), .lst (ties.map dT), .lst [.int l], .int c] = endM [3] (DL.noE (Fn.law_paper_14a1_g (Fn.law_paper_14a1 n) [some (false, .lst (ps.map .int)), some (false, .lst (lists.map lI)), some (false, .lst (ties.map dT)), some (true, .lst [.int l]), some (false, .int c), none, none])) := by
      show bodyS 5 7 [3] (Fn.law_paper_14a1_g (Fn.law_paper_14a1 n)) _ = _
      rw [ap_bodyS (by rfl), env57]
    rw [hgo]; unfold Fn.law_paper_14a1_g
    walk_at "dl"
    rw [show putA (D.lst [D.int l]) (D.int 0) (D.int (l - 1)) = .ok (.lst [.int (l - 1)]) from rfl]
    walk_at "dl"
    obtain ⟨d, l', e1, a1, ⟨xs, hxs⟩, w1⟩ := honest_eq lists ties h6 hs ht htl (Fn.law_paper_14a1 n) n n (fun ps h1 h2 h3 l c => by
      obtain ⟨d, l', q1, q2, q3⟩ := paper_eq n (by omega) ps h1 h2 h3 l c
      exact ⟨d, l', q1, q2.1, q3⟩) ps hp hle hlt (l - 1) c
    have c1 : callM (Fn.law_honest_3311 (Fn.law_paper_14a1 n)) (aCons (rdE 0) (aCons (rdE 1) (aCons (rdE 2) (aCons (rdI 3) (aCons (rdE 4) aNil))))) [3] [some (false, .lst (ps.map .int)), some (false, .lst (lists.map lI)), some (false, .lst (ties.map dT)), some (true, .lst [.int (l - 1)]), some (false, .int c), some (false, .bl (decide (l - 1 = 0))), none] = .ok (d, [some (false, .lst (ps.map .int)), some (false, .lst (lists.map lI)), some (false, .lst (ties.map dT)), some (true, .lst [.int l']), some (false, .int c), some (false, .bl (decide (l - 1 = 0))), none]) :=
      DL.callM_of (ds := [.lst (ps.map .int), .lst (lists.map lI), .lst (ties.map dT), .lst [.int (l - 1)], .int c]) (es := [.lst [.int l']]) (cons_of rfl (cons_of rfl (cons_of rfl (cons_of rfl (cons_of rfl nil_of))))) rfl e1 rfl
    rw [DL.ap_setM, c1, DL.setM_ok]
    walk_at "dl"
    by_cases hz : l - 1 = 0
    · rw [decide_eq_true hz]
      obtain ⟨k1, k2⟩ := w1 (by omega)
      obtain ⟨o2, d2, e2, a2⟩ := turned_eq (by omega) k2 c
      walk_at "dl"
      rw [DL.ap_retM]
      walk_at "dl"
      rw [DL.callE_of e2]
      exact ⟨_, l', rfl, a2, fun h => absurd hz (by omega)⟩
    · rw [decide_eq_false hz]
      walk_at "dl"
      rw [DL.ap_retM]
      walk_at "dl"
      exact ⟨_, l', rfl, ⟨a1, by rw [hxs]; exact .tupR _⟩, fun h => w1 (by omega)⟩
end
theorem wrapped_eq (cells : List Int) (hl : cells.length ≤ 100) {d : D} (hd : Both d) : ∃ (o : Bool) (d' : D), Fn.law_wrapped_697f [d, .lst (cells.map .int)] = .ok (o, d') ∧ Both d' := by
  unfold Fn.law_wrapped_697f; rw [DL.ap_body (by rfl)]; unfold Fn.law_wrapped_697f_g
  walk_at "dl"
  obtain ⟨ρ', h1, d', z, hd', h2⟩ := DL.loop_at (g := gSet 2) (gb := Fn.law_wrapped_697f_b1) D.int cells
    (fun i ρ => ∃ (d' : D) (z : DL.Slot), Both d' ∧ ρ = [some (false, d'), some (false, .lst (cells.map .int)), z]) _ ⟨d, none, hd, rfl⟩ (fun i c ρ hc ⟨d', z, hd', hρ⟩ => by
      subst hρ
      refine ⟨_, rfl, ?_⟩
      unfold Fn.law_wrapped_697f_b1
      walk_at "dl"
      have one : ∀ x ∈ [d'], Dt true x := fun x hx => by rw [List.mem_singleton.mp hx]; exact hd'.1
      rcases (by omega : c % 5 = 0 ∨ c % 5 = 1 ∨ c % 5 = 2 ∨ c % 5 = 3 ∨ c % 5 = 4) with h | h | h | h | h <;> rw [h]
      · exact ⟨_, rfl, _, _, ⟨.lstP _, .lst [d'] (by simp) one⟩, rfl⟩
      · exact ⟨_, rfl, _, _, ⟨.tup [d'] (fun _ _ q => by cases q) (fun _ _ q => by cases q), .tupR _⟩, rfl⟩
      · exact ⟨_, rfl, _, _, ⟨pair_dat (.lst [d'] (by simp) one), .tupR _⟩, rfl⟩
      · exact ⟨_, rfl, _, _, ⟨pair_dat hd'.2, .tupR _⟩, rfl⟩
      · exact ⟨_, rfl, _, _, ⟨pair_dat (.lst [d'] (by simp) one), .tupR _⟩, rfl⟩)
  rw [h1]
  subst h2
  walk_at "dl"
  exact ⟨_, _, rfl, hd'⟩
theorem law_true : ∀ ns : List Int, ns.length ≤ 63 → ∃ o, Fn.law_ab80 [.scr ns] = .ok (o, .bl true) := by
  intro ns hl
  obtain ⟨o2, menu, lists, ties, e2, hD⟩ := drawn_eq ns 4 hl (by omega)
  have hl3 := hD.l3
  have hl1 := hD.l1
  have htl := hD.t1
  have h8 : ∀ l ∈ lists, l.length ≤ 100 := fun l h => by
    have h1 := nodup_sub_len ((hD.l4 l h).1.imp fun h => Int.ne_of_lt h) (hD.l4 l h).2
    have h2 := hD.m3
    omega
  have hn : ∀ l ∈ lists, l.Nodup := fun l h => (hD.l4 l h).1.imp fun h => Int.ne_of_lt h
  obtain ⟨oa, ea⟩ := cell_eq ns ((ns.length : Int) / 2) (by omega) (by omega)
  obtain ⟨ob, eb⟩ := cell_eq ns ((ns.length : Int) / 2 + 1) (by omega) (by omega)
  obtain ⟨oc, ec⟩ := cell_eq ns 0 (by omega) (by omega)
  unfold Fn.law_ab80; rw [DL.ap_body (by rfl)]; unfold Fn.law_ab80_g
  walk_at "dl"
  rw [DL.callE_of e2]
  walk_at "dl"
  rw [DL.callE_of ea]
  walk_at "dl"
  obtain ⟨d, l', e3, b3, -⟩ := paper_eq lists ties hl3 h8 hD.t2 (by omega) 12 (by omega) [] pt_nil (Nat.zero_le _) (by rw [List.length_nil]; omega) (1 + cellOf ns ((ns.length : Int) / 2) % 12) (cellOf ns ((ns.length : Int) / 2 + 1))
  have c1 : callM (Fn.law_paper_14a1 12) (aCons (nop aNil mkLst) (aCons (rdE 6) (aCons (rdE 7) (aCons (rdI 1) (aCons (nop (aCons (rdE 0) (aCons (bop (bop (nop (aCons (rd 0) aNil) dLen) (cst (D.int 2)) dDiv) (cst (D.int 1)) dAdd) aNil)) (callE Fn.law_cell_547d)) aNil))))) [1] [some (false, .scr ns), some (true, .lst [.int (1 + cellOf ns ((ns.length : Int) / 2) % 12)]), none, none, none, some (false, .lst (menu.map .int)), some (false, .lst (lists.map lI)), some (false, .lst (ties.map dT)), none] = .ok (d, [some (false, .scr ns), some (true, .lst [.int l']), none, none, none, some (false, .lst (menu.map .int)), some (false, .lst (lists.map lI)), some (false, .lst (ties.map dT)), none]) :=
    DL.callM_of (ds := [.lst [], .lst (lists.map lI), .lst (ties.map dT), .lst [.int (1 + cellOf ns ((ns.length : Int) / 2) % 12)], .int (cellOf ns ((ns.length : Int) / 2 + 1))]) (es := [.lst [.int l']]) (cons_of rfl (cons_of rfl (cons_of rfl (cons_of rfl (cons_of (by
      walk_at "dl"
      rw [DL.callE_of eb]) nil_of))))) rfl e3 rfl
  rw [DL.ap_setM, c1, DL.setM_ok]
  walk_at "dl"
  rw [DL.callE_of ec]
  walk_at "dl"
  -- wrapped, or not
  have hw : ∃ d2 : D, Both d2 ∧ iteK (R.ok (decide (cellOf ns 0 / 96 % 4 = 1))) (sSet 2 (nop (aCons (rdE 2) (aCons (slc (rd 0) (pSome (cst (D.int 9))) (pSome (cst (D.int 39)))) aNil)) (callE Fn.law_wrapped_697f))) sSkip [some (false, .scr ns), some (true, .lst [.int l']), some (false, d), none, none, some (false, .lst (menu.map .int)), some (false, .lst (lists.map lI)), some (false, .lst (ties.map dT)), none] = .ok (.next [some (false, .scr ns), some (true, .lst [.int l']), some (false, d2), none, none, some (false, .lst (menu.map .int)), some (false, .lst (lists.map lI)), some (false, .lst (ties.map dT)), none]) := by
    cases decide (cellOf ns 0 / 96 % 4 = 1) with
    | true =>
      obtain ⟨o4, d4, e4, b4⟩ := wrapped_eq (cutD ns (some 9) (some 39)) (by rw [DL.cut_mid (by omega) (by omega), List.length_take, List.length_drop]; omega) b3
      refine ⟨d4, b4, ?_⟩
      walk_at "dl"
      rw [DL.callE_of e4]
      walk_at "dl"
    | false =>
      refine ⟨d, b3, ?_⟩
      walk_at "dl"
  obtain ⟨d2, b2, hw⟩ := hw
  rw [hw]
  walk_at "dl"
  rw [lc_rows lists (by omega) (fun l hl => by
    unfold Fn.law_ab80_e1
    walk_at "dl")]
  walk_at "dl"
  obtain ⟨o4, b4, e4, i4⟩ := shows_any2 lists ties (by omega) h8 hn hD.t2 d2 b2.1
  rw [DL.callE_of e4]
  walk_at "dl"
  have hqq : ∀ b, dEq b (D.lst [.lst (lists.map lI), .lst (ties.map dT)]) (D.lst [.lst (lists.map lI), .lst (ties.map dT)]) = .ok (.bl (xorB b true)) := fun b => De.eq_self (n := 5) (.lst fun d hd => by
    rcases List.mem_cons.mp hd with rfl | hd
    · exact nb_lists (n := 2) lists
    · rw [List.mem_singleton.mp hd]
      exact nb_ties ties hD.t2) (by omega)
  rw [hqq]
  walk_at "dl"
  obtain ⟨o5, b5, e5, i5⟩ := lshows_any lists ties (by omega) h8 hD.t2 12 [] d2 b2.1 pt_nil (Nat.zero_le _) (by rw [List.length_nil]; omega)
  have e5 : Fn.law_shows_e19d 12 [.lst [], .lst (lists.map lI), .lst (ties.map dT), d2] = .ok (o5, .bl b5) := e5
  rw [DL.callE_of e5]
  have hb : b4 = b5 := by
    rw [Bool.eq_iff_iff, i4, i5]
  subst hb
  walk_at "dl"
  exact ⟨_, rfl⟩
end Lk24
open PySem PySem.W PyProof.Rows
set_option maxHeartbeats 0 in
theorem PySem.Challenge.cw_deskround_k24_papers_of_anything_holds : PySem.Challenge.rw_deskround_k24_papers_of_anything.Holds := by
  refine hdTop ?_
  k_fill
  refine L2.walk_of (l := PySem.Challenge.rw_deskround_k24_papers_of_anything) (n := 63) (k := 31) (x := "script") (CX := fun _ => L2.CX0) (sp := fun w => DL.spLaw _) rfl (by decide) rfl ⟨rfl, by decide, by decide⟩ (fun w h Y => PySem.W.kIn_of Y) ?F (fun _ _ a ns hl _ hS => ⟨a, ns, rfl, hS, hl, fun _ => rfl⟩) (fun _ _ _ _ _ h => h)
  case F =>
    intro w mg fa h KX G hmg
    refine' Lk24.all_mk Lk24.law_true KX G hmg ?a_is_whole ?l_is_whole ?c_is_whole ?k_is_whole ?a_common ?l_common ?c_common ?k_common ?a_without ?l_without ?c_without ?k_without ?a_width ?l_width ?c_width ?k_width ?a_breaks ?l_breaks ?c_breaks ?k_breaks ?a__law_cell ?l__law_cell ?c__law_cell ?k__law_cell ?a__law_whole ?l__law_whole ?c__law_whole ?k__law_whole ?a__law_bond ?l__law_bond ?c__law_bond ?k__law_bond ?a__law_unlike ?l__law_unlike ?c__law_unlike ?k__law_unlike ?a__law_in_all ?l__law_in_all ?c__law_in_all ?k__law_in_all ?a__law_odd ?l__law_odd ?c__law_odd ?k__law_odd ?a__law_truths ?l__law_truths ?c__law_truths ?k__law_truths ?a__law_wrapped ?l__law_wrapped ?c__law_wrapped ?k__law_wrapped ?a_joined ?l_joined ?c_joined ?k_joined ?a_grown ?l_grown ?c_grown ?k_grown ?a_pools_of ?l_pools_of ?c_pools_of ?k_pools_of ?a__law_menu ?l__law_menu ?c__law_menu ?k__law_menu ?a__law_breaks ?l__law_breaks ?c__law_breaks ?k__law_breaks ?a__law_pool ?l__law_pool ?c__law_pool ?k__law_pool ?a__law_turned ?l__law_turned ?c__law_turned ?k__law_turned ?a_are_short ?l_are_short ?c_are_short ?k_are_short ?a__law_drawn ?l__law_drawn ?c__law_drawn ?k__law_drawn ?a__law_short ?l__law_short ?c__law_short ?k__law_short ?a_shows_for ?l_shows_for ?c_shows_for ?k_shows_for ?a__law_shows ?l__law_shows ?c__law_shows ?k__law_shows ?a__law_blocks ?l__law_blocks ?c__law_blocks ?k__law_blocks ?a_shows ?l_shows ?c_shows ?k_shows ?a__law_honest ?l__law_honest ?c__law_honest ?k__law_honest ?a__law_paper ?l__law_paper ?c__law_paper ?k__law_paper ?a_law ?l_law ?c_law ?k_law ?z_bool ?z_enumerate ?z_int ?z_isinstance ?z_len ?z_list ?z_max ?z_min ?z_range ?z_set ?z_sorted ?z_tuple ?z_zip
    (case a_is_whole => k_is); (case l_is_whole => k_is); (case c_is_whole => k_is); (case k_is_whole => k_is); (case a_common => k_is); (case l_common => k_is); (case c_common => k_is); (case k_common => k_is); (case a_without => k_is); (case l_without => k_is); (case c_without => k_is); (case k_without => k_is); (case a_width => k_is); (case l_width => k_is); (case c_width => k_is); (case k_width => k_is); (case a_breaks => k_is); (case l_breaks => k_is); (case c_breaks => k_is); (case k_breaks => k_is); (case a__law_cell => k_is); (case l__law_cell => k_is); (case c__law_cell => k_is); (case k__law_cell => k_is); (case a__law_whole => k_is); (case l__law_whole => k_is); (case c__law_whole => k_is); (case k__law_whole => k_is); (case a__law_bond => k_is); (case l__law_bond => k_is); (case c__law_bond => k_is); (case k__law_bond => k_is); (case a__law_unlike => k_is); (case l__law_unlike => k_is); (case c__law_unlike => k_is); (case k__law_unlike => k_is); (case a__law_in_all => k_is); (case l__law_in_all => k_is); (case c__law_in_all => k_is); (case k__law_in_all => k_is); (case a__law_odd => k_is); (case l__law_odd => k_is); (case c__law_odd => k_is); (case k__law_odd => k_is); (case a__law_truths => k_is); (case l__law_truths => k_is); (case c__law_truths => k_is); (case k__law_truths => k_is); (case a__law_wrapped => k_is); (case l__law_wrapped => k_is); (case c__law_wrapped => k_is); (case k__law_wrapped => k_is); (case a_joined => k_is); (case l_joined => k_is); (case c_joined => k_is); (case k_joined => k_is); (case a_grown => k_is); (case l_grown => k_is); (case c_grown => k_is); (case k_grown => k_is); (case a_pools_of => k_is); (case l_pools_of => k_is); (case c_pools_of => k_is); (case k_pools_of => k_is); (case a__law_menu => k_is); (case l__law_menu => k_is); (case c__law_menu => k_is); (case k__law_menu => k_is); (case a__law_breaks => k_is); (case l__law_breaks => k_is); (case c__law_breaks => k_is); (case k__law_breaks => k_is); (case a__law_pool => k_is); (case l__law_pool => k_is); (case c__law_pool => k_is); (case k__law_pool => k_is); (case a__law_turned => k_is); (case l__law_turned => k_is); (case c__law_turned => k_is); (case k__law_turned => k_is); (case a_are_short => k_is); (case l_are_short => k_is); (case c_are_short => k_is); (case k_are_short => k_is); (case a__law_drawn => k_is); (case l__law_drawn => k_is); (case c__law_drawn => k_is); (case k__law_drawn => k_is); (case a__law_short => k_is); (case l__law_short => k_is); (case c__law_short => k_is); (case k__law_short => k_is); (case a_shows_for => k_is); (case l_shows_for => k_is); (case c_shows_for => k_is); (case k_shows_for => k_is); (case a__law_shows => k_is); (case l__law_shows => k_is); (case c__law_shows => k_is); (case k__law_shows => k_is); (case a__law_blocks => k_is); (case l__law_blocks => k_is); (case c__law_blocks => k_is); (case k__law_blocks => k_is); (case a_shows => k_is); (case l_shows => k_is); (case c_shows => k_is); (case k_shows => k_is); (case a__law_honest => k_is); (case l__law_honest => k_is); (case c__law_honest => k_is); (case k__law_honest => k_is); (case a__law_paper => k_is); (case l__law_paper => k_is); (case c__law_paper => k_is); (case k__law_paper => k_is); (case a_law => k_is); (case l_law => k_is); (case c_law => k_is); (case k_law => k_is); (case z_bool => k_is); (case z_enumerate => k_is); (case z_int => k_is); (case z_isinstance => k_is); (case z_len => k_is); (case z_list => k_is); (case z_max => k_is); (case z_min => k_is); (case z_range => k_is); (case z_set => k_is); (case z_sorted => k_is); (case z_tuple => k_is); (case z_zip => k_is)

import PyProof.Rows.All
import Wide.All
import OpenK.AllK
import Wide.FinOn
import HandS.ForMost
import HandS.Deep
import HandS.SortInts
import HandS.Wide
import HandS.IsInst
import HandS.Style
import HandS.Text
import HandS.NoneIn
import KE.KSortedM
import HandS.More
import HandS.WordsDict
import HandS.Strs
import HandS.SetFor
import HandS.Zip
import HandS.SortKw
import KE.DataMinMax
import HandS.Rev
import HandS.SortRule
import PyProof.Rows.SortKeyStr
import HandS.Conv
import HandS.Iter
import KE.SortKeyHeap
import KE.SortData
import HandS.Exc
import HandS.ExcOwn
import HandS.TryOnly
import HandS.TryMany
import HandS.WordsExc
import HandS.ExcIs
import HandS.Comp
import KE.GoesRaise
import KE.OsRunLaw
import PySem.Challenge.RW_deskround_k68_no_round
set_option Elab.async false
set_option linter.all false
set_option maxRecDepth 100000
set_option maxHeartbeats 4000000
section
open PyProof.Rows PySem.Calls HeadRun PySem PySem.W
namespace HdT
noncomputable section
def hdView : Program := { PySem.Challenge.rw_deskround_k68_no_round.row.prog with main := { PySem.Challenge.rw_deskround_k68_no_round.row.prog.main with body := ([1,2,3,5,6,7,9,10,11,12,13,15,16,17,18,19,20,21,22,23,25,26,27,28,29,30,31,32,33,34,35,36,37,38] : List Nat).filterMap fun i => PySem.Challenge.rw_deskround_k68_no_round.row.prog.main.body[i]? } }
theorem good_eq : openGood hdView ([] : List PySem.Str) = ((⟨(PySem.W.Fast.tw3399658132070893891 hdView).map fun d => some d.shape, true, [], true, true, true, 0⟩ : Seen), bltViewBooted, true, true, (((PySem.W.Fast.tw3247288618530077131 hdView).map fun d => some d.1.shape, true) : List (Option FnShape) × Bool), ((PySem.W.Fast.tw210736558901404530 hdView (PySem.W.Fast.tw821141287760084731 hdView ([] : List PySem.Str))).map fun c => some c.withCmp.plainShape), ((PySem.W.Fast.tw4354255287344443571 hdView ([] : List PySem.Str)).map fun c => some (c.plainShape, true)), (((PySem.W.Fast.tw694669760492028198 hdView).map fun d => some d.1.shape, true) : List (Option FnShape) × Bool), ((PySem.W.Fast.tw1571739515156823405 hdView ([] : List PySem.Str)).map fun c => (wclsGood c, (some (c.plainShape, true) : Option (PlainShape × Bool))))) := by
  unfold openGood expectedOf pinGoodD plainGoodE plainGoodD wideGood clsGoodW
  rw [show @recsOf = PySem.W.Fast.tw3399658132070893891 from PySem.W.Fast.te3399658132070893891, show @drecsOf = PySem.W.Fast.tw3247288618530077131 from PySem.W.Fast.te3247288618530077131, show @plainsOf = PySem.W.Fast.tw210736558901404530 from PySem.W.Fast.te210736558901404530, show @looseW = PySem.W.Fast.tw821141287760084731 from PySem.W.Fast.te821141287760084731, show @dclssOf = PySem.W.Fast.tw4354255287344443571 from PySem.W.Fast.te4354255287344443571, show @wdefsOf = PySem.W.Fast.tw694669760492028198 from PySem.W.Fast.te694669760492028198, show @wclssOf = PySem.W.Fast.tw1571739515156823405 from PySem.W.Fast.te1571739515156823405]
theorem run3 {α β γ δ : Type} {o : Option α} {f : α → β} {g : α → γ} {h : α → δ} {b : β} {c : γ} {d : δ} (h1 : o.map f = some b) (h2 : o.map g = some c) (h3 : o.map h = some d) : o.map (fun s => (f s, g s, h s)) = some (b, c, d) := by
  cases o with
  | none => cases h1
  | some s => cases h1; cases h2; cases h3; rfl
set_option maxHeartbeats 0 in
theorem loose_eq : PySem.W.Fast.tw821141287760084731 hdView ([] : List PySem.Str) = ([PySem.Str.ofString "KEYS"] : List PySem.Str) := by kernel_rfl
set_option maxHeartbeats 0 in
theorem names_eq : (PySem.W.Fast.tw3399658132070893891 hdView).map (·.name) = ([PySem.Str.ofString "is_name", PySem.Str.ofString "free", PySem.Str.ofString "next_free", PySem.Str.ofString "settled", PySem.Str.ofString "one_ahead", PySem.Str.ofString "ring", PySem.Str.ofString "acts_of", PySem.Str.ofString "place_of", PySem.Str.ofString "places_of", PySem.Str.ofString "tie_of", PySem.Str.ofString "read_round", PySem.Str.ofString "_law_cell", PySem.Str.ofString "_law_entries", PySem.Str.ofString "_law_name", PySem.Str.ofString "_law_acts", PySem.Str.ofString "_law_part", PySem.Str.ofString "_law_parts", PySem.Str.ofString "_law_round", PySem.Str.ofString "_law_text", PySem.Str.ofString "_law_bad_part", PySem.Str.ofString "_law_bad_steps", PySem.Str.ofString "_law_spoilt", PySem.Str.ofString "_law_kind", PySem.Str.ofString "_law_class", PySem.Str.ofString "law"] : List PySem.Str) := by kernel_rfl
set_option maxHeartbeats 0 in
theorem p1 (w : World) (os : OsState) : (endF (stepQ (denQ tabQ) PySem.Challenge.rw_deskround_k68_no_round.row.prog w) 3076 PySem.Challenge.rw_deskround_k68_no_round.row.prog w os).map (fun x => (looksF PySem.Challenge.rw_deskround_k68_no_round.row.prog (boot_heap w.params) x.abs, (seenQ hdView ([] : List PySem.Str) (importedModules PySem.Challenge.rw_deskround_k68_no_round.row.prog.main.body) (fun s => xlAt hdView [] s && recOk PySem.Challenge.rw_deskround_k68_no_round.row.records s) x.abs).2.1, (PySem.W.Fast.tw5244371056499926238 x.abs.heap && PySem.W.Fast.tw2578726214315757710 hdView x.abs.heap && (!PySem.W.Fast.tw2458874890965802552 hdView || PySem.W.Fast.tw9649274521512697073 x.abs.heap)))) = some (true, bltViewBooted, true) := by kernel_rfl
set_option maxHeartbeats 0 in
theorem p2 (w : World) (os : OsState) : (endF (stepQ (denQ tabQ) PySem.Challenge.rw_deskround_k68_no_round.row.prog w) 3076 PySem.Challenge.rw_deskround_k68_no_round.row.prog w os).map (fun x => (seenQ hdView ([] : List PySem.Str) (importedModules PySem.Challenge.rw_deskround_k68_no_round.row.prog.main.body) (fun s => xlAt hdView [] s && recOk PySem.Challenge.rw_deskround_k68_no_round.row.records s) x.abs).1) = some (⟨(PySem.W.Fast.tw3399658132070893891 hdView).map fun d => some d.shape, true, [], true, true, true, 0⟩ : Seen) := by kernel_rfl
set_option maxHeartbeats 0 in
theorem p3 (w : World) (os : OsState) : (endF (stepQ (denQ tabQ) PySem.Challenge.rw_deskround_k68_no_round.row.prog w) 3076 PySem.Challenge.rw_deskround_k68_no_round.row.prog w os).map (fun x => PySem.W.Fast.tw10880121769531294198 x.abs.heap ([PySem.Str.ofString "KEYS"] : List PySem.Str) ([PySem.Str.ofString "is_name", PySem.Str.ofString "free", PySem.Str.ofString "next_free", PySem.Str.ofString "settled", PySem.Str.ofString "one_ahead", PySem.Str.ofString "ring", PySem.Str.ofString "acts_of", PySem.Str.ofString "place_of", PySem.Str.ofString "places_of", PySem.Str.ofString "tie_of", PySem.Str.ofString "read_round", PySem.Str.ofString "_law_cell", PySem.Str.ofString "_law_entries", PySem.Str.ofString "_law_name", PySem.Str.ofString "_law_acts", PySem.Str.ofString "_law_part", PySem.Str.ofString "_law_parts", PySem.Str.ofString "_law_round", PySem.Str.ofString "_law_text", PySem.Str.ofString "_law_bad_part", PySem.Str.ofString "_law_bad_steps", PySem.Str.ofString "_law_spoilt", PySem.Str.ofString "_law_kind", PySem.Str.ofString "_law_class", PySem.Str.ofString "law"] : List PySem.Str) ((PySem.W.Fast.tw7409074990110511671 hdView).map (·.1)) ((PySem.W.Fast.tw13664370479719496447 hdView ([PySem.Str.ofString "KEYS"] : List PySem.Str)).map (·.name))) = some true := by kernel_rfl
set_option maxHeartbeats 0 in
theorem p4 (w : World) (os : OsState) : (endF (stepQ (denQ tabQ) PySem.Challenge.rw_deskround_k68_no_round.row.prog w) 3076 PySem.Challenge.rw_deskround_k68_no_round.row.prog w os).map (fun x => ((PySem.W.Fast.tw14722251495701143533 x.abs.heap (importedModules PySem.Challenge.rw_deskround_k68_no_round.row.prog.main.body) && x.abs.heap.isNs mainGlobals && x.abs.heap.isNs builtinsNs && PySem.W.Fast.tw10994771534591457954 hdView x.abs.heap && (fun s => xlAt hdView [] s && recOk PySem.Challenge.rw_deskround_k68_no_round.row.records s) x.abs && (x.abs.gens.size == 0)), (seenQ hdView ([] : List PySem.Str) (importedModules PySem.Challenge.rw_deskround_k68_no_round.row.prog.main.body) (fun s => xlAt hdView [] s && recOk PySem.Challenge.rw_deskround_k68_no_round.row.records s) x.abs).2.2.2.2.1)) = some (true, (((PySem.W.Fast.tw3247288618530077131 hdView).map fun d => some d.1.shape, true) : List (Option FnShape) × Bool)) := by kernel_rfl
set_option maxHeartbeats 0 in
theorem p5 (w : World) (os : OsState) : (endF (stepQ (denQ tabQ) PySem.Challenge.rw_deskround_k68_no_round.row.prog w) 3076 PySem.Challenge.rw_deskround_k68_no_round.row.prog w os).map (fun x => ([PySem.Str.ofString "is_name", PySem.Str.ofString "free", PySem.Str.ofString "next_free", PySem.Str.ofString "settled", PySem.Str.ofString "one_ahead", PySem.Str.ofString "ring", PySem.Str.ofString "acts_of", PySem.Str.ofString "place_of", PySem.Str.ofString "places_of", PySem.Str.ofString "tie_of", PySem.Str.ofString "read_round", PySem.Str.ofString "_law_cell", PySem.Str.ofString "_law_entries", PySem.Str.ofString "_law_name", PySem.Str.ofString "_law_acts", PySem.Str.ofString "_law_part", PySem.Str.ofString "_law_parts", PySem.Str.ofString "_law_round", PySem.Str.ofString "_law_text", PySem.Str.ofString "_law_bad_part", PySem.Str.ofString "_law_bad_steps", PySem.Str.ofString "_law_spoilt", PySem.Str.ofString "_law_kind", PySem.Str.ofString "_law_class", PySem.Str.ofString "law"] : List PySem.Str).all (fun n => PySem.W.Fast.tw5930804224584009831 x.abs.heap n)) = some true := by kernel_rfl
set_option maxHeartbeats 0 in
theorem p6 (w : World) (os : OsState) : (endF (stepQ (denQ tabQ) PySem.Challenge.rw_deskround_k68_no_round.row.prog w) 3076 PySem.Challenge.rw_deskround_k68_no_round.row.prog w os).map (fun x => PySem.W.Fast.tw2386780881361962483 hdView ([PySem.Str.ofString "KEYS"] : List PySem.Str) x.abs) = some ((PySem.W.Fast.tw210736558901404530 hdView ([PySem.Str.ofString "KEYS"] : List PySem.Str)).map fun c => some c.withCmp.plainShape) := by kernel_rfl
set_option maxHeartbeats 0 in
theorem p7 (w : World) (os : OsState) : (endF (stepQ (denQ tabQ) PySem.Challenge.rw_deskround_k68_no_round.row.prog w) 3076 PySem.Challenge.rw_deskround_k68_no_round.row.prog w os).map (fun x => ((seenQ hdView ([] : List PySem.Str) (importedModules PySem.Challenge.rw_deskround_k68_no_round.row.prog.main.body) (fun s => xlAt hdView [] s && recOk PySem.Challenge.rw_deskround_k68_no_round.row.records s) x.abs).2.2.2.2.2.2.1, (seenQ hdView ([] : List PySem.Str) (importedModules PySem.Challenge.rw_deskround_k68_no_round.row.prog.main.body) (fun s => xlAt hdView [] s && recOk PySem.Challenge.rw_deskround_k68_no_round.row.records s) x.abs).2.2.2.2.2.2.2.2)) = some (((PySem.W.Fast.tw4354255287344443571 hdView ([] : List PySem.Str)).map fun c => some (c.plainShape, true)), ((PySem.W.Fast.tw1571739515156823405 hdView ([] : List PySem.Str)).map fun c => (wclsGood c, (some (c.plainShape, true) : Option (PlainShape × Bool))))) := by kernel_rfl
set_option maxHeartbeats 0 in
theorem p8 (w : World) (os : OsState) : (endF (stepQ (denQ tabQ) PySem.Challenge.rw_deskround_k68_no_round.row.prog w) 3076 PySem.Challenge.rw_deskround_k68_no_round.row.prog w os).map (fun x => (seenQ hdView ([] : List PySem.Str) (importedModules PySem.Challenge.rw_deskround_k68_no_round.row.prog.main.body) (fun s => xlAt hdView [] s && recOk PySem.Challenge.rw_deskround_k68_no_round.row.records s) x.abs).2.2.2.2.2.2.2.1) = some (((PySem.W.Fast.tw694669760492028198 hdView).map fun d => some d.1.shape, true) : List (Option FnShape) × Bool) := by kernel_rfl
theorem all (w : World) (os : OsState) : (endF (stepQ (denQ tabQ) PySem.Challenge.rw_deskround_k68_no_round.row.prog w) 3076 PySem.Challenge.rw_deskround_k68_no_round.row.prog w os).map (fun x => looksF PySem.Challenge.rw_deskround_k68_no_round.row.prog (boot_heap w.params) x.abs) = some true ∧ (endF (stepQ (denQ tabQ) PySem.Challenge.rw_deskround_k68_no_round.row.prog w) 3076 PySem.Challenge.rw_deskround_k68_no_round.row.prog w os).map (fun x => (seenQ hdView ([] : List PySem.Str) (importedModules PySem.Challenge.rw_deskround_k68_no_round.row.prog.main.body) (fun s => xlAt hdView [] s && recOk PySem.Challenge.rw_deskround_k68_no_round.row.records s) x.abs)) = some (openGood hdView ([] : List PySem.Str)) := by
  have h1 := p1 w os
  have h2 := p2 w os
  have h3 := p3 w os
  have h4 := p4 w os
  have h5 := p5 w os
  have h6 := p6 w os
  have h7 := p7 w os
  have h8 := p8 w os
  generalize (endF (stepQ (denQ tabQ) PySem.Challenge.rw_deskround_k68_no_round.row.prog w) 3076 PySem.Challenge.rw_deskround_k68_no_round.row.prog w os) = r at h1 h2 h3 h4 h5 h6 h7 h8 ⊢
  cases r with
  | none => cases h2
  | some x =>
    have h1 := Option.some.inj h1
    have h2 := Option.some.inj h2
    have h3 := Option.some.inj h3
    have h4 := Option.some.inj h4
    have h5 := Option.some.inj h5
    have h6 := Option.some.inj h6
    have h7 := Option.some.inj h7
    have h8 := Option.some.inj h8
    obtain ⟨h10, h12, h14⟩ := (by simpa only [Prod.mk.injEq] using h1 : _ ∧ _ ∧ _)
    obtain ⟨h43, h45⟩ := (by simpa only [Prod.mk.injEq] using h4 : _ ∧ _)
    obtain ⟨h77, h79⟩ := (by simpa only [Prod.mk.injEq] using h7 : _ ∧ _)
    refine ⟨congrArg some h10, congrArg some ?_⟩
    have e := seenQ_eq hdView ([] : List PySem.Str) (importedModules PySem.Challenge.rw_deskround_k68_no_round.row.prog.main.body) (fun s => xlAt hdView [] s && recOk PySem.Challenge.rw_deskround_k68_no_round.row.records s) x.abs
    have c3 : (seenQ hdView ([] : List PySem.Str) (importedModules PySem.Challenge.rw_deskround_k68_no_round.row.prog.main.body) (fun s => xlAt hdView [] s && recOk PySem.Challenge.rw_deskround_k68_no_round.row.records s) x.abs).2.2.1 = true := by
      rw [← e]
      have k : x.abs.heap.keysOk (looseW hdView ([] : List PySem.Str)) ((recsOf hdView).map (·.name)) ((litsOf hdView).map (·.1)) ((clssOf hdView (looseW hdView ([] : List PySem.Str))).map (·.name)) = true := by
        rw [show @Heap.keysOk = PySem.W.Fast.tw10880121769531294198 from PySem.W.Fast.te10880121769531294198, show @looseW = PySem.W.Fast.tw821141287760084731 from PySem.W.Fast.te821141287760084731, show @recsOf = PySem.W.Fast.tw3399658132070893891 from PySem.W.Fast.te3399658132070893891, show @litsOf = PySem.W.Fast.tw7409074990110511671 from PySem.W.Fast.te7409074990110511671, show @clssOf = PySem.W.Fast.tw13664370479719496447 from PySem.W.Fast.te13664370479719496447, loose_eq, names_eq]
        exact h3
      simp only [Bool.and_eq_true] at h43
      obtain ⟨⟨⟨⟨⟨a, m⟩, b⟩, t⟩, xx⟩, g⟩ := h43
      have a : x.abs.heap.accountedOkI (importedModules PySem.Challenge.rw_deskround_k68_no_round.row.prog.main.body) = true := by rw [show @Heap.accountedOkI = PySem.W.Fast.tw14722251495701143533 from PySem.W.Fast.te14722251495701143533]; exact a
      have t : tablesOk hdView x.abs.heap = true := by rw [show @tablesOk = PySem.W.Fast.tw10994771534591457954 from PySem.W.Fast.te10994771534591457954]; exact t
      unfold openSeen
      dsimp only
      rw [k, a, m, b, t]
      simp only [Bool.true_and, Bool.and_eq_true]
      exact ⟨xx, g⟩
    have c4 : (seenQ hdView ([] : List PySem.Str) (importedModules PySem.Challenge.rw_deskround_k68_no_round.row.prog.main.body) (fun s => xlAt hdView [] s && recOk PySem.Challenge.rw_deskround_k68_no_round.row.records s) x.abs).2.2.2.1 = true := by
      rw [← e]
      show tabsOk hdView x.abs = true
      unfold tabsOk
      have k : ((recsOf hdView).all fun d => x.abs.heap.tab0Ok d.name) = true := by
        have k2 : ((recsOf hdView).map (·.name)).all (fun n => x.abs.heap.tab0Ok n) = true := by
          rw [show @recsOf = PySem.W.Fast.tw3399658132070893891 from PySem.W.Fast.te3399658132070893891, show @Heap.tab0Ok = PySem.W.Fast.tw5930804224584009831 from PySem.W.Fast.te5930804224584009831, names_eq]
          exact h5
        rw [List.all_map] at k2
        exact k2
      have k3 : (x.abs.heap.bmainOk && valsOk hdView x.abs.heap && (!importsNone hdView || x.abs.heap.noSeerOk)) = true := by
        rw [show @Heap.bmainOk = PySem.W.Fast.tw5244371056499926238 from PySem.W.Fast.te5244371056499926238, show @valsOk = PySem.W.Fast.tw2578726214315757710 from PySem.W.Fast.te2578726214315757710, show @importsNone = PySem.W.Fast.tw2458874890965802552 from PySem.W.Fast.te2458874890965802552, show @Heap.noSeerOk = PySem.W.Fast.tw9649274521512697073 from PySem.W.Fast.te9649274521512697073]
        exact h14
      rw [k, Bool.true_and]
      exact k3
    have c6 : (seenQ hdView ([] : List PySem.Str) (importedModules PySem.Challenge.rw_deskround_k68_no_round.row.prog.main.body) (fun s => xlAt hdView [] s && recOk PySem.Challenge.rw_deskround_k68_no_round.row.records s) x.abs).2.2.2.2.2.1 = plainGoodE hdView (looseW hdView ([] : List PySem.Str)) := by
      rw [← e]
      show plainSeenE hdView (looseW hdView ([] : List PySem.Str)) x.abs = _
      unfold plainGoodE
      rw [show @plainSeenE = PySem.W.Fast.tw2386780881361962483 from PySem.W.Fast.te2386780881361962483, show @looseW = PySem.W.Fast.tw821141287760084731 from PySem.W.Fast.te821141287760084731, show @plainsOf = PySem.W.Fast.tw210736558901404530 from PySem.W.Fast.te210736558901404530, loose_eq]
      exact h6
    have c6 : (seenQ hdView ([] : List PySem.Str) (importedModules PySem.Challenge.rw_deskround_k68_no_round.row.prog.main.body) (fun s => xlAt hdView [] s && recOk PySem.Challenge.rw_deskround_k68_no_round.row.records s) x.abs).2.2.2.2.2.1 = ((PySem.W.Fast.tw210736558901404530 hdView (PySem.W.Fast.tw821141287760084731 hdView ([] : List PySem.Str))).map fun c => some c.withCmp.plainShape) := by
      rw [c6]
      unfold plainGoodE
      rw [show @looseW = PySem.W.Fast.tw821141287760084731 from PySem.W.Fast.te821141287760084731, show @plainsOf = PySem.W.Fast.tw210736558901404530 from PySem.W.Fast.te210736558901404530]
    rw [good_eq]
    exact Prod.ext h2 (Prod.ext h12 (Prod.ext c3 (Prod.ext c4 (Prod.ext h45 (Prod.ext c6 (Prod.ext h77 (Prod.ext h8 h79)))))))
end
end HdT
local macro_rules | `(tactic| k_head) => `(tactic| k_headL)
local macro_rules | `(tactic| kernel_rfl) => `(tactic| ((with_reducible refine HdT.run3 ?_ ?_ ?_); rename_i w os; exact Eq.trans (by kernel_rfl) (HdT.all w os).1; rename_i w os; exact Eq.trans (by kernel_rfl) (Eq.trans (HdT.all w os).2 (by kernel_rfl)); kernel_rfl))
set_option maxHeartbeats 0 in
open_top hdTop for PySem.Challenge.rw_deskround_k68_no_round
end
namespace DL
open PySem PySem.Spec PyProof.Rows L2
structure Kx where
  fr : PySem.W.Frag
  as : List Addr
instance : Coe Kx PySem.W.Frag := ⟨Kx.fr⟩
def clsOf (K : PySem.W.Frag) (c : Str) : Addr := match PySem.W.nsIn K mainGlobals c with
  | some (some (.ref C)) => C
  | _ => 0
inductive D where
  | non | bl (b : Bool) | int (i : Int) | str (s : Str)
  | lst (xs : List D) | tup (xs : List D) | scr (ns : List Int)
  | dK (kvs : List (Key × D)) | dT (kvs : List (List Key × D))
  | ref (a : Addr)
  | rows (rs : List D)
  | exn (c : Str)
  | deep (d : D)
  | junk (n : Nat)
  | obj (k : Nat)
inductive R (α : Type) where
  | ok (a : α) | err (c : Str) | bad
def bd {α β : Type} (x : R α) (f : α → R β) : R β := match x with
  | .ok a => f a
  | .err c => .err c
  | .bad => .bad
@[simp] theorem bd_ok {α β : Type} (a : α) (f : α → R β) : bd (.ok a) f = f a := rfl
@[simp] theorem bd_err {α β : Type} (c : Str) (f : α → R β) : bd (.err c) f = .err c := rfl
@[simp] theorem bd_bad {α β : Type} (f : α → R β) : bd (.bad) f = .bad := rfl
def grd {α : Type} (c : Bool) (x : R α) : R α := if c = true then x else .bad
@[simp] theorem grd_t {α : Type} (x : R α) : grd true x = x := rfl
@[simp] theorem grd_f {α : Type} (x : R α) : grd false x = .bad := rfl
def exK (C a : Addr) : HO := .ext fun h => ∃ oe : Obj, h.get? a = some oe ∧ oe.cls = .ref C ∧ oe.dict = none ∧ ∃ vs, oe.data = .fields vs
mutual
/-- numbers, texts, tuples of such -/
def tO1 : D → Bool
  | .non => true
  | .bl _ => true
  | .int _ => true
  | .str _ => true
  | .tup ds => tOs ds
  | _ => false
def tOs : List D → Bool
  | [] => true
  | d :: ds => tO1 d && tOs ds
end
mutual
/-- .. and lists -/
def dat1 : D → Bool
  | .non => true
  | .bl _ => true
  | .int _ => true
  | .str _ => true
  | .tup ds => dats ds
  | .lst ds => dats ds
  | _ => false
def dats : List D → Bool
  | [] => true
  | d :: ds => dat1 d && dats ds
end
mutual
inductive Rep (K : Kx) (F : Hp) : D → V → Prop
  | non : Rep K F .non .non
  | bl (b : Bool) : Rep K F (.bl b) (.bl b)
  | int (i : Int) : Rep K F (.int i) (.int i)
  | str (x : Str) : Rep K F (.str x) (.str x)
  | lst {a : Addr} {vs : List V} {ds : List D} : F a = some (.lst vs) → Reps K F ds vs → Rep K F (.lst ds) (.ref a)
  | scr {a : Addr} {ns : List Int} : SqL K F a (ns.map V.int) → Rep K F (.scr ns) (.ref a)
  | tup {a : Addr} {vs : List V} {ds : List D} : F a = some (.tup vs) → Reps K F ds vs → Rep K F (.tup ds) (.ref a)
  | dK {a : Addr} {kvs : List (Key × V)} {kds : List (Key × D)} : Rd F a (.dK kvs) → RepK K F kds kvs → Rep K F (.dK kds) (.ref a)
  | dT {a : Addr} {kvs : List (List Key × V)} {kds : List (List Key × D)} : Rd F a (.dT kvs) → RepT K F kds kvs → Rep K F (.dT kds) (.ref a)
  | ref (a : Addr) : Rep K F (.ref a) (.ref a)
  | rows {a : Addr} {vs : List V} {ds : List D} : F a = some (.lst vs) → Reps K F ds vs → Rep K F (.rows ds) (.ref a)
  | exn {c : Str} {a C : Addr} : PySem.W.nsIn K mainGlobals c = some (some (.ref C)) → F a = some (exK C a) → Rep K F (.exn c) (.ref a)
  | deep (d : D) (a : Addr) : Rep K F (.deep d) (.ref a)
  | obj {k : Nat} {a : Addr} : K.as[k]? = some a → Rep K F (.obj k) (.ref a)
inductive Reps (K : Kx) (F : Hp) : List D → List V → Prop
  | nil : Reps K F [] []
  | cons {d : D} {v : V} {ds : List D} {vs : List V} : Rep K F d v → Reps K F ds vs → Reps K F (d :: ds) (v :: vs)
inductive RepK (K : Kx) (F : Hp) : List (Key × D) → List (Key × V) → Prop
  | nil : RepK K F [] []
  | cons {k : Key} {d : D} {v : V} {ds : List (Key × D)} {vs : List (Key × V)} : Rep K F d v → RepK K F ds vs → RepK K F ((k, d) :: ds) ((k, v) :: vs)
inductive RepT (K : Kx) (F : Hp) : List (List Key × D) → List (List Key × V) → Prop
  | nil : RepT K F [] []
  | cons {k : List Key} {d : D} {v : V} {ds : List (List Key × D)} {vs : List (List Key × V)} : Rep K F d v → RepT K F ds vs → RepT K F ((k, d) :: ds) ((k, v) :: vs)
end
section
variable {K : Kx} {F F' H H' H'' F'' : Hp}
theorem Same.seqT {a : Addr} {xs : List V} (e : Same H H') (h : SqT K H a xs) : SqT K H' a xs := by
  rcases h with (h | ⟨o, h⟩) | h
  · exact .inl (.inl (e _ _ h))
  · exact .inl (.inr ⟨o, e _ _ h⟩)
  · exact .inr h
theorem Same.rd {a : Addr} {o : HO} (e : Same H H') (h : Rd H a o) : Rd H' a o := by
  rcases h with h | ⟨u, h⟩
  · exact .inl (e _ _ h)
  · exact .inr ⟨u, e _ _ h⟩
theorem same_upd {p : Addr} {o : HO} (h : H p = none) : Same H (upd H p o) := fun b x e => by
  rw [upd_ne (ne_of_none e h)]
  exact e
theorem same_upd2 {p : Addr} {o : HO} (e : Same F H) (h : F p = none) : Same F (upd H p o) := fun b x z => by
  rw [upd_ne (ne_of_none z h)]
  exact e _ _ z
mutual
theorem Rep.mono (e : Same F F') : ∀ {d : D} {v : V}, Rep K F d v → Rep K F' d v
  | _, _, .non => .non
  | _, _, .bl b => .bl b
  | _, _, .int b => .int b
  | _, _, .str b => .str b
  | _, _, .lst s r => .lst (e _ _ s) (Reps.mono e r)
  | _, _, .scr s => .scr (e.seq s)
  | _, _, .tup s r => .tup (e _ _ s) (Reps.mono e r)
  | _, _, .dK s r => .dK (Same.rd e s) (RepK.mono e r)
  | _, _, .dT s r => .dT (Same.rd e s) (RepT.mono e r)
  | _, _, .ref a => .ref a
  | _, _, .rows s r => .rows (e _ _ s) (Reps.mono e r)
  | _, _, .exn n s => .exn n (e _ _ s)
  | _, _, .deep n s => .deep n s
  | _, _, .obj h => .obj h
theorem Reps.mono (e : Same F F') : ∀ {ds : List D} {vs : List V}, Reps K F ds vs → Reps K F' ds vs
  | _, _, .nil => .nil
  | _, _, .cons r t => .cons (Rep.mono e r) (Reps.mono e t)
theorem RepK.mono (e : Same F F') : ∀ {ds : List (Key × D)} {vs : List (Key × V)}, RepK K F ds vs → RepK K F' ds vs
  | _, _, .nil => .nil
  | _, _, .cons r t => .cons (Rep.mono e r) (RepK.mono e t)
theorem RepT.mono (e : Same F F') : ∀ {ds : List (List Key × D)} {vs : List (List Key × V)}, RepT K F ds vs → RepT K F' ds vs
  | _, _, .nil => .nil
  | _, _, .cons r t => .cons (Rep.mono e r) (RepT.mono e t)
end
theorem Reps.length : ∀ {ds : List D} {vs : List V}, Reps K F ds vs → vs.length = ds.length
  | _, _, .nil => rfl
  | _, _, .cons _ t => congrArg (· + 1) (Reps.length t)
theorem Reps.get : ∀ {ds : List D} {vs : List V} {i : Nat} {d : D}, Reps K F ds vs → ds[i]? = some d → ∃ v, vs[i]? = some v ∧ Rep K F d v
  | _, _, _, _, .nil, e => by simp at e
  | _, _, 0, _, .cons r _, e => by simp at e; subst e; exact ⟨_, rfl, r⟩
  | _, _, i + 1, d, .cons _ t, e => by
    obtain ⟨u, h1, h2⟩ := Reps.get (i := i) (d := d) t (by simpa using e)
    exact ⟨u, by simpa using h1, h2⟩
theorem Reps.get' : ∀ {ds : List D} {vs : List V} {i : Nat} {v : V}, Reps K F ds vs → vs[i]? = some v → ∃ d, ds[i]? = some d ∧ Rep K F d v
  | _, _, _, _, .nil, e => by simp at e
  | _, _, 0, _, .cons r _, e => by simp at e; subst e; exact ⟨_, rfl, r⟩
  | _, _, i + 1, d, .cons _ t, e => by
    obtain ⟨u, h1, h2⟩ := Reps.get' (i := i) t (by simpa using e)
    exact ⟨u, by simpa using h1, h2⟩
theorem Reps.append : ∀ {xs ys : List D} {us ws : List V}, Reps K F xs us → Reps K F ys ws → Reps K F (xs ++ ys) (us ++ ws)
  | _, _, _, _, .nil, s => s
  | _, _, _, _, .cons r t, s => .cons r (Reps.append t s)
theorem Reps.take : ∀ {xs : List D} {us : List V} (n : Nat), Reps K F xs us → Reps K F (xs.take n) (us.take n)
  | _, _, 0, _ => .nil
  | _, _, _ + 1, .nil => .nil
  | _, _, n + 1, .cons r t => .cons r (Reps.take n t)
theorem Reps.drop : ∀ {xs : List D} {us : List V} (n : Nat), Reps K F xs us → Reps K F (xs.drop n) (us.drop n)
  | _, _, 0, r => r
  | _, _, _ + 1, .nil => .nil
  | _, _, n + 1, .cons _ t => Reps.drop n t
theorem Reps.set {d : D} {v : V} (r : Rep K F d v) : ∀ {xs : List D} {us : List V} (i : Nat), Reps K F xs us → Reps K F (xs.set i d) (us.set i v)
  | _, _, _, .nil => .nil
  | _, _, 0, .cons _ t => .cons r t
  | _, _, i + 1, .cons q t => .cons q (Reps.set r i t)
theorem Reps.reverse : ∀ {xs : List D} {us : List V}, Reps K F xs us → Reps K F xs.reverse us.reverse
  | _, _, .nil => .nil
  | _, _, .cons r t => by
    rw [List.reverse_cons, List.reverse_cons]
    exact Reps.append (Reps.reverse t) (.cons r .nil)
theorem Reps.ints : ∀ {ns : List Int} {vs : List V}, Reps K F (ns.map D.int) vs → vs = ns.map V.int
  | [], _, .nil => rfl
  | n :: ns, _, .cons (.int _) t => by rw [Reps.ints t]; rfl
theorem Reps.of_ints : ∀ (ns : List Int), Reps K F (ns.map D.int) (ns.map V.int)
  | [] => .nil
  | n :: ns => .cons (.int n) (Reps.of_ints ns)
theorem Reps.of_strs : ∀ (ns : List Str), Reps K F (ns.map D.str) (ns.map V.str)
  | [] => .nil
  | n :: ns => .cons (.str n) (Reps.of_strs ns)
structure Ext (F H F' H' : Hp) : Prop where
  f : Same F F'
  h : Same H H'
  n : ∀ a o, F' a = some o → F a = some o ∨ H a = none
theorem Ext.refl (F H : Hp) : Ext F H F H := ⟨Same.refl _, Same.refl _, fun _ _ h => .inl h⟩
theorem Ext.trans (a : Ext F H F' H') (b : Ext F' H' F'' H'') : Ext F H F'' H'' :=
  ⟨a.f.trans b.f, a.h.trans b.h, fun c o e => by
    rcases b.n c o e with h | h
    · exact a.n c o h
    · exact .inr (a.h.free h)⟩
theorem Ext.heap (s : Same H H') : Ext F H F H' := ⟨Same.refl _, s, fun _ _ h => .inl h⟩
theorem Ext.keepN {a : Addr} {o : HO} (x : Ext F H F' H') (h : H a = some o) (e : F a = none) : F' a = none := by
  cases q : F' a with
  | none => rfl
  | some u =>
    rcases x.n a u q with z | z
    · rw [e] at z; cases z
    · rw [h] at z; cases z
theorem Ext.settle {p : Addr} {o : HO} (x : Ext F H F' H') (n : H p = .none) (q : F' p = .none) : Ext F H (upd F' p o) H' :=
  ⟨x.f.trans (same_upd q), x.h, fun a u e => by
    by_cases h : a = p
    · subst h; exact .inr n
    · rw [upd_ne h] at e; exact x.n a u e⟩
theorem same_settle {p : Addr} {o : HO} (s : Same F H) (q : H p = some o) : Same (upd F p o) H := fun b u e => by
  by_cases h : b = p
  · subst h; rw [upd_same] at e; rw [q, ← e]
  · rw [upd_ne h] at e; exact s b u e
inductive RowsAt (K : Kx) (F H : Hp) : List D → List V → Prop
  | nil : RowsAt K F H [] []
  | cons {b : Addr} {us : List V} {xs rs : List D} {vs : List V} : H b = some (.lst us) → Reps K F xs us → RowsAt K F H rs vs → RowsAt K F H (.lst xs :: rs) (.ref b :: vs)
mutual
/-- a tree whose lists are one's own (places may be shared within it); what holds no list is settled -/
inductive OwD (K : Kx) (F H : Hp) : D → V → Prop
  | set {d : D} {v : V} : tO1 d = true → Rep K F d v → OwD K F H d v
  | lst {a : Addr} {vs : List V} {ds : List D} : H a = some (.lst vs) → OwDs K F H ds vs → OwD K F H (.lst ds) (.ref a)
  | tup {a : Addr} {vs : List V} {ds : List D} : tOs ds = false → H a = some (.tup vs) → OwDs K F H ds vs → OwD K F H (.tup ds) (.ref a)
  | junk {a : Addr} {vs : List V} {n : Nat} : H a = some (.lst vs) → vs.length ≤ n → OwD K F H (.junk n) (.ref a)
inductive OwDs (K : Kx) (F H : Hp) : List D → List V → Prop
  | nil : OwDs K F H [] []
  | cons {d : D} {v : V} {ds : List D} {vs : List V} : OwD K F H d v → OwDs K F H ds vs → OwDs K F H (d :: ds) (v :: vs)
end
mutual
/-- the places of such a tree -/
def rch (H : Hp) : D → V → List Addr
  | .lst ds, .ref a => a :: (match H a with | some (.lst vs) => rchs H ds vs | _ => [])
  | .tup ds, .ref a => if tOs ds = true then [] else a :: (match H a with | some (.tup vs) => rchs H ds vs | _ => [])
  | .junk _, .ref a => [a]
  | _, _ => []
def rchs (H : Hp) : List D → List V → List Addr
  | d :: ds, v :: vs => rch H d v ++ rchs H ds vs
  | _, _ => []
end
mutual
theorem OwD.at {F F' H H' : Hp} (f : Same F F') : ∀ {d : D} {v : V}, OwD K F H d v → (∀ b ∈ rch H d v, H' b = H b) → OwD K F' H' d v ∧ rch H' d v = rch H d v
  | d, v, .set h r, e => ⟨.set h (r.mono f), by
    cases d with
    | tup ds =>
      have h : tOs ds = true := h
      cases v <;> simp only [rch, h, if_true]
    | lst ds => exact nomatch h
    | junk n => exact nomatch h
    | _ => cases v <;> simp only [rch]⟩
  | _, _, .lst (a := a) (vs := vs) (ds := ds) q t, e => by
    have ha : H' a = H a := e a (by simp only [rch]; exact List.mem_cons_self)
    obtain ⟨t1, t2⟩ := OwDs.at f t fun b hb => e b (by simp only [rch, q]; exact List.mem_cons_of_mem _ hb)
    exact ⟨.lst (ha.trans q) t1, by simp only [rch, ha, q, t2]⟩
  | _, _, .tup (a := a) (vs := vs) (ds := ds) z q t, e => by
    have ha : H' a = H a := e a (by simp only [rch, z, Bool.false_eq_true, if_false]; exact List.mem_cons_self)
    obtain ⟨t1, t2⟩ := OwDs.at f t fun b hb => e b (by simp only [rch, z, Bool.false_eq_true, if_false, q]; exact List.mem_cons_of_mem _ hb)
    exact ⟨.tup z (ha.trans q) t1, by simp only [rch, z, Bool.false_eq_true, if_false, ha, q, t2]⟩
  | _, _, .junk (a := a) q l, e => by
    have ha : H' a = H a := e a (by simp only [rch]; exact List.mem_cons_self)
    exact ⟨.junk (ha.trans q) l, by simp only [rch]⟩
theorem OwDs.at {F F' H H' : Hp} (f : Same F F') : ∀ {ds : List D} {vs : List V}, OwDs K F H ds vs → (∀ b ∈ rchs H ds vs, H' b = H b) → OwDs K F' H' ds vs ∧ rchs H' ds vs = rchs H ds vs
  | _, _, .nil, _ => ⟨.nil, by simp only [rchs]⟩
  | _, _, .cons r t, e => by
    obtain ⟨r1, r2⟩ := OwD.at f r fun b hb => e b (by simp only [rchs]; exact List.mem_append_left _ hb)
    obtain ⟨t1, t2⟩ := OwDs.at f t fun b hb => e b (by simp only [rchs]; exact List.mem_append_right _ hb)
    exact ⟨.cons r1 t1, by simp only [rchs, r2, t2]⟩
end
mutual
theorem OwD.there {F H : Hp} : ∀ {d : D} {v : V}, OwD K F H d v → ∀ b ∈ rch H d v, ∃ u, H b = some u
  | d, v, .set h r, b, hb => by
    exfalso
    cases d with
    | tup ds =>
      have h : tOs ds = true := h
      cases v <;> simp only [rch, h, if_true] at hb <;> exact nomatch hb
    | lst ds => exact nomatch h
    | junk n => exact nomatch h
    | _ => cases v <;> simp only [rch] at hb <;> exact nomatch hb
  | _, _, .lst (a := a) (vs := vs) (ds := ds) q t, b, hb => by
    simp only [rch, q] at hb
    rcases List.mem_cons.mp hb with rfl | hb
    · exact ⟨_, q⟩
    · exact OwDs.there t b hb
  | _, _, .tup (a := a) (vs := vs) (ds := ds) z q t, b, hb => by
    simp only [rch, z, Bool.false_eq_true, if_false, q] at hb
    rcases List.mem_cons.mp hb with rfl | hb
    · exact ⟨_, q⟩
    · exact OwDs.there t b hb
  | _, _, .junk (a := a) q l, b, hb => by
    simp only [rch] at hb
    rw [List.mem_singleton.mp hb]
    exact ⟨_, q⟩
theorem OwDs.there {F H : Hp} : ∀ {ds : List D} {vs : List V}, OwDs K F H ds vs → ∀ b ∈ rchs H ds vs, ∃ u, H b = some u
  | _, _, .nil, b, hb => by simp only [rchs] at hb; exact nomatch hb
  | _, _, .cons r t, b, hb => by
    simp only [rchs] at hb
    rcases List.mem_append.mp hb with hb | hb
    · exact OwD.there r b hb
    · exact OwDs.there t b hb
end
mutual
/-- without junk: settled where its places are -/
theorem OwD.rep {F F' H : Hp} (f : Same F F') : ∀ {d : D} {v : V}, OwD K F H d v → dat1 d = true → (∀ b ∈ rch H d v, F' b = H b) → Rep K F' d v
  | _, _, .set h r, _, e => r.mono f
  | _, _, .lst (a := a) (vs := vs) (ds := ds) q t, z, e => by
    have ha : F' a = H a := e a (by simp only [rch]; exact List.mem_cons_self)
    exact .lst (ha.trans q) (OwDs.rep f t z fun b hb => e b (by simp only [rch, q]; exact List.mem_cons_of_mem _ hb))
  | _, _, .tup (a := a) (vs := vs) (ds := ds) z q t, y, e => by
    have ha : F' a = H a := e a (by simp only [rch, z, Bool.false_eq_true, if_false]; exact List.mem_cons_self)
    exact .tup (ha.trans q) (OwDs.rep f t y fun b hb => e b (by simp only [rch, z, Bool.false_eq_true, if_false, q]; exact List.mem_cons_of_mem _ hb))
  | _, _, .junk _ _, y, _ => nomatch y
theorem OwDs.rep {F F' H : Hp} (f : Same F F') : ∀ {ds : List D} {vs : List V}, OwDs K F H ds vs → dats ds = true → (∀ b ∈ rchs H ds vs, F' b = H b) → Reps K F' ds vs
  | _, _, .nil, _, _ => .nil
  | _, _, .cons r t, z, e => by
    have z := Bool.and_eq_true_iff.mp z
    exact .cons (OwD.rep f r z.1 fun b hb => e b (by simp only [rchs]; exact List.mem_append_left _ hb)) (OwDs.rep f t z.2 fun b hb => e b (by simp only [rchs]; exact List.mem_append_right _ hb))
end
mutual
theorem OwD.of {F H : Hp} (s : Same F H) : ∀ {d : D} {v : V}, Rep K F d v → dat1 d = true → OwD K F H d v
  | _, _, .non, _ => .set rfl .non
  | _, _, .bl b, _ => .set rfl (.bl b)
  | _, _, .int b, _ => .set rfl (.int b)
  | _, _, .str b, _ => .set rfl (.str b)
  | _, _, .lst q t, z => .lst (s _ _ q) (OwDs.of s t z)
  | _, _, .tup (ds := ds) q t, z => by
    cases h : tOs ds with
    | true => exact .set h (.tup q t)
    | false => exact .tup h (s _ _ q) (OwDs.of s t z)
  | _, _, .scr _, z => nomatch z
  | _, _, .dK _ _, z => nomatch z
  | _, _, .dT _ _, z => nomatch z
  | _, _, .ref _, z => nomatch z
  | _, _, .rows _ _, z => nomatch z
  | _, _, .exn _ _, z => nomatch z
  | _, _, .deep _ _, z => nomatch z
  | _, _, .obj _, z => nomatch z
theorem OwDs.of {F H : Hp} (s : Same F H) : ∀ {ds : List D} {vs : List V}, Reps K F ds vs → dats ds = true → OwDs K F H ds vs
  | _, _, .nil, _ => .nil
  | _, _, .cons r t, z => by
    have z := Bool.and_eq_true_iff.mp z
    exact .cons (OwD.of s r z.1) (OwDs.of s t z.2)
end
mutual
theorem OwD.mono {F F' H H' : Hp} (f : Same F F') (h : Same H H') : ∀ {d : D} {v : V}, OwD K F H d v → OwD K F' H' d v
  | _, _, .set z r => .set z (r.mono f)
  | _, _, .lst q t => .lst (h _ _ q) (OwDs.mono f h t)
  | _, _, .tup z q t => .tup z (h _ _ q) (OwDs.mono f h t)
  | _, _, .junk q l => .junk (h _ _ q) l
theorem OwDs.mono {F F' H H' : Hp} (f : Same F F') (h : Same H H') : ∀ {ds : List D} {vs : List V}, OwDs K F H ds vs → OwDs K F' H' ds vs
  | _, _, .nil => .nil
  | _, _, .cons r t => .cons (OwD.mono f h r) (OwDs.mono f h t)
end
def View (K : Kx) (F H : Hp) : D → V → Prop
  | .lst ds, v => ∃ a vs, v = .ref a ∧ H a = some (.lst vs) ∧ Reps K F ds vs
  | .scr ns, v => ∃ a, v = .ref a ∧ SqL K H a (ns.map V.int)
  | .tup ds, v => ∃ a vs, v = .ref a ∧ H a = some (.tup vs) ∧ Reps K F ds vs
  | .dK ds, v => ∃ a vs, v = .ref a ∧ Rd H a (.dK vs) ∧ RepK K F ds vs
  | .dT ds, v => ∃ a vs, v = .ref a ∧ Rd H a (.dT vs) ∧ RepT K F ds vs
  | .non, v => v = .non
  | .bl b, v => v = .bl b
  | .int b, v => v = .int b
  | .str b, v => v = .str b
  | .ref b, v => v = .ref b
  | .rows rs, v => ∃ a vs, v = .ref a ∧ H a = some (.lst vs) ∧ (Reps K F rs vs ∨ RowsAt K F H rs vs)
  | .exn c, v => ∃ a C, v = .ref a ∧ PySem.W.nsIn K mainGlobals c = some (some (.ref C)) ∧ H a = some (exK C a)
  | .deep _, v => ∃ a, v = .ref a
  | .junk _, _ => False
  | .obj k, v => ∃ a, v = .ref a ∧ K.as[k]? = some a
def Own (K : Kx) (F H : Hp) (a : Addr) : D → Prop
  | .lst ds => ∃ vs, H a = some (.lst vs) ∧ Reps K F ds vs
  | .dK ds => ∃ vs, H a = some (.dK vs) ∧ RepK K F ds vs
  | .dT ds => ∃ vs, H a = some (.dT vs) ∧ RepT K F ds vs
  | .rows rs => ∃ vs, H a = some (.lst vs) ∧ RowsAt K F H rs vs
  | .deep d => OwD K F H d (.ref a) ∧ tO1 d = false
  | _ => False
def isC : D → Bool
  | .lst _ => true
  | .dK _ => true
  | .dT _ => true
  | .rows _ => true
  | .deep _ => true
  | _ => false
def isRows : D → Bool
  | .rows _ => true
  | .deep _ => true
  | _ => false
def refOf : V → Option Addr
  | .ref b => some b
  | _ => none
def isDeep : D → Bool
  | .deep _ => true
  | _ => false
def kids (H : Hp) (a : Addr) : List Addr := match H a with
  | some (.lst vs) => vs.filterMap refOf
  | _ => []
def nub : List Addr → List Addr
  | [] => []
  | b :: l => if b ∈ nub l then nub l else b :: nub l
theorem mem_nub {c : Addr} : ∀ {l : List Addr}, c ∈ nub l ↔ c ∈ l
  | [] => Iff.rfl
  | b :: l => by
    have ih := mem_nub (c := c) (l := l)
    unfold nub
    split
    · rename_i h
      rw [List.mem_cons, ih]
      refine ⟨.inr, fun z => z.elim (fun e => ?_) id⟩
      subst e
      exact ih.mp h
    · rw [List.mem_cons, List.mem_cons, ih]
theorem nub_nodup : ∀ {l : List Addr}, (nub l).Nodup
  | [] => List.nodup_nil
  | b :: l => by
    unfold nub
    split
    · exact nub_nodup
    · rename_i h
      exact List.nodup_cons.mpr ⟨h, nub_nodup⟩
def kin (H : Hp) (a : Addr) : D → List Addr
  | .rows _ => kids H a
  | .deep d => (nub (rch H d (.ref a))).filter fun b => b != a
  | _ => []
def foot (H : Hp) (a : Addr) (d : D) : List Addr := a :: kin H a d
def New (K : Kx) (H0 F H : Hp) (d : D) (v : V) : Prop :=
  if isC d = true then (if isRows d = true then ∃ a, v = .ref a ∧ (∀ b ∈ foot H a d, H0 b = none ∧ F b = none) ∧ (foot H a d).Nodup ∧ Own K F H a d
    else ∃ a, v = .ref a ∧ H0 a = none ∧ F a = none ∧ Own K F H a d) else Rep K F d v
theorem foot_head {a : Addr} {d : D} : a ∈ foot H a d := List.mem_cons_self
theorem foot_one {a : Addr} {d : D} (h : isRows d = false) : foot H a d = [a] := by
  cases d with
  | rows rs => exact nomatch h
  | deep d => exact nomatch h
  | _ => rfl
theorem foot_rows {a : Addr} {rs : List D} : foot H a (.rows rs) = a :: kids H a := rfl
theorem kids_at {a : Addr} {vs : List V} (h : H a = some (.lst vs)) : kids H a = vs.filterMap refOf := by unfold kids; rw [h]
theorem kids_same {a : Addr} (h : H' a = H a) : kids H' a = kids H a := by unfold kids; rw [h]
theorem mem_deep {a b : Addr} {d : D} (h : b ∈ rch H d (.ref a)) : b ∈ foot H a (.deep d) := by
  by_cases e : b = a
  · subst e; exact foot_head
  · refine List.mem_cons_of_mem _ (List.mem_filter.mpr ⟨mem_nub.mpr h, ?_⟩)
    simpa using e
theorem deep_mem {a b : Addr} {d : D} (h : b ∈ foot H a (.deep d)) : b = a ∨ b ∈ rch H d (.ref a) := by
  rcases List.mem_cons.mp h with h | h
  · exact .inl h
  · exact .inr (mem_nub.mp (List.mem_filter.mp h).1)
theorem deep_nodup {a : Addr} {d : D} : (foot H a (.deep d)).Nodup := by
  refine List.nodup_cons.mpr ⟨fun h => ?_, ?_⟩
  · have := (List.mem_filter.mp h).2
    simp at this
  · exact List.Pairwise.filter _ nub_nodup
theorem foot_same0 {a : Addr} {d : D} (hd : isDeep d = false) (h : H' a = H a) : foot H' a d = foot H a d := by
  cases d with
  | rows rs => show a :: kids H' a = a :: kids H a; rw [kids_same h]
  | deep d => exact nomatch hd
  | _ => rfl
theorem foot_same {a : Addr} {d : D} (o : Own K F H a d) (h : ∀ b ∈ foot H a d, H' b = H b) : foot H' a d = foot H a d := by
  cases d with
  | rows rs => exact foot_same0 rfl (h a foot_head)
  | deep d =>
    have := (OwD.at (Same.refl F) o.1 fun b hb => h b (mem_deep hb)).2
    show a :: (nub (rch H' d (.ref a))).filter _ = a :: (nub (rch H d (.ref a))).filter _
    rw [this]
  | _ => rfl
theorem kid_head {b : Addr} {vs : List V} : (V.ref b :: vs).filterMap refOf = b :: vs.filterMap refOf := by rw [List.filterMap_cons]; rfl
theorem RowsAt.mono (f : Same F F') : ∀ {rs : List D} {vs : List V}, RowsAt K F H rs vs → (∀ b ∈ vs.filterMap refOf, ∀ u, H b = some u → H' b = some u) → RowsAt K F' H' rs vs
  | _, _, .nil, _ => .nil
  | _, _, .cons q r t, e => .cons (e _ (by rw [kid_head]; exact List.mem_cons_self) _ q) (r.mono f) (RowsAt.mono f t fun c hc => e c (by rw [kid_head]; exact List.mem_cons_of_mem _ hc))
theorem RowsAt.there : ∀ {rs : List D} {vs : List V}, RowsAt K F H rs vs → ∀ b ∈ vs.filterMap refOf, ∃ u, H b = some u
  | _, _, .nil, _, h => nomatch h
  | _, _, .cons q r t, b, h => by
    rw [kid_head] at h
    rcases List.mem_cons.mp h with rfl | h
    · exact ⟨_, q⟩
    · exact RowsAt.there t b h
theorem RowsAt.length : ∀ {rs : List D} {vs : List V}, RowsAt K F H rs vs → vs.length = rs.length
  | _, _, .nil => rfl
  | _, _, .cons _ _ t => congrArg (· + 1) (RowsAt.length t)
theorem RowsAt.get : ∀ {rs : List D} {vs : List V} {i : Nat} {d : D}, RowsAt K F H rs vs → rs[i]? = some d → ∃ b us xs, vs[i]? = some (.ref b) ∧ d = .lst xs ∧ H b = some (.lst us) ∧ Reps K F xs us
  | _, _, _, _, .nil, e => by simp at e
  | _, _, 0, _, .cons q r _, e => by simp at e; subst e; exact ⟨_, _, _, rfl, rfl, q, r⟩
  | _, _, i + 1, d, .cons _ _ t, e => by
    obtain ⟨b, us, xs, h1, h2, h3, h4⟩ := RowsAt.get (i := i) (d := d) t (by simpa using e)
    exact ⟨b, us, xs, by simpa using h1, h2, h3, h4⟩
theorem RowsAt.append : ∀ {rs ts : List D} {us ws : List V}, RowsAt K F H rs us → RowsAt K F H ts ws → RowsAt K F H (rs ++ ts) (us ++ ws)
  | _, _, _, _, .nil, s => s
  | _, _, _, _, .cons q r t, s => .cons q r (RowsAt.append t s)
theorem filterMap_mem {vs : List V} {i : Nat} {b : Addr} (h : vs[i]? = some (.ref b)) : b ∈ vs.filterMap refOf := List.mem_filterMap.mpr ⟨.ref b, List.mem_of_getElem? h, rfl⟩
theorem RowsAt.settle : ∀ {rs : List D} {vs : List V} {F : Hp}, RowsAt K F H rs vs → Same F H → (∀ b ∈ vs.filterMap refOf, F b = none) → (vs.filterMap refOf).Nodup →
    ∃ F', Same F F' ∧ Same F' H ∧ Reps K F' rs vs ∧ ∀ c o, F' c = some o → F c = some o ∨ c ∈ vs.filterMap refOf
  | _, _, F, .nil, s, _, _ => ⟨F, Same.refl _, s, .nil, fun _ _ h => .inl h⟩
  | _, _, F, .cons (b := b) (us := us) (vs := vs) q r t, s, hn, nd => by
    have e : (V.ref b :: vs).filterMap refOf = b :: vs.filterMap refOf := by rw [List.filterMap_cons]; rfl
    rw [e] at hn nd
    have nd := List.nodup_cons.mp nd
    have hb := hn b List.mem_cons_self
    have s1 : Same F (upd F b (.lst us)) := same_upd hb
    obtain ⟨F', s2, s3, rr, hk⟩ := RowsAt.settle (RowsAt.mono s1 t fun _ _ _ h => h) (same_settle s q) (fun c hc => by
      rw [upd_ne (fun (z : c = b) => nd.1 (z ▸ hc))]
      exact hn c (List.mem_cons_of_mem _ hc)) nd.2
    refine ⟨F', s1.trans s2, s3, .cons (.lst (s2 _ _ upd_same) ((r.mono s1).mono s2)) rr, fun c o hc => ?_⟩
    rw [e]
    rcases hk c o hc with h | h
    · by_cases z : c = b
      · exact .inr (z ▸ List.mem_cons_self)
      · rw [upd_ne z] at h; exact .inl h
    · exact .inr (List.mem_cons_of_mem _ h)
theorem Rep.view (s : Same F H) {d : D} {v : V} (r : Rep K F d v) : View K F H d v := by
  cases r with
  | non => rfl
  | bl b => rfl
  | int b => rfl
  | str b => rfl
  | ref b => rfl
  | lst q r => exact ⟨_, _, rfl, s _ _ q, r⟩
  | scr q => exact ⟨_, rfl, s.seq q⟩
  | tup q r => exact ⟨_, _, rfl, s _ _ q, r⟩
  | dK q r => exact ⟨_, _, rfl, Same.rd s q, r⟩
  | dT q r => exact ⟨_, _, rfl, Same.rd s q, r⟩
  | rows q r => exact ⟨_, _, rfl, s _ _ q, .inl r⟩
  | exn n q => exact ⟨_, _, rfl, n, s _ _ q⟩
  | deep d a => exact ⟨a, rfl⟩
  | obj h => exact ⟨_, rfl, h⟩
theorem View.mono (f : Same F F') (h : Same H H') {d : D} {v : V} (r : View K F H d v) : View K F' H' d v := by
  cases d with
  | lst ds => obtain ⟨a, vs, e, q, r⟩ := r; exact ⟨a, vs, e, h _ _ q, r.mono f⟩
  | scr ns => obtain ⟨a, e, q⟩ := r; exact ⟨a, e, h.seq q⟩
  | tup ds => obtain ⟨a, vs, e, q, r⟩ := r; exact ⟨a, vs, e, h _ _ q, r.mono f⟩
  | dK ds => obtain ⟨a, vs, e, q, r⟩ := r; exact ⟨a, vs, e, Same.rd h q, r.mono f⟩
  | dT ds => obtain ⟨a, vs, e, q, r⟩ := r; exact ⟨a, vs, e, Same.rd h q, r.mono f⟩
  | exn c => obtain ⟨a, C, e, n, q⟩ := r; exact ⟨a, C, e, n, h _ _ q⟩
  | deep d => exact r
  | junk n => exact r.elim
  | rows ds =>
    obtain ⟨a, vs, e, q, r⟩ := r
    refine ⟨a, vs, e, h _ _ q, ?_⟩
    rcases r with r | r
    · exact .inl (r.mono f)
    · exact .inr (r.mono f fun _ _ _ e => h _ _ e)
  | _ => exact r
theorem Own.view {a : Addr} {d : D} (o : Own K F H a d) : View K F H d (.ref a) := by
  cases d with
  | lst ds => obtain ⟨vs, q, r⟩ := o; exact ⟨a, vs, rfl, q, r⟩
  | dK ds => obtain ⟨vs, q, r⟩ := o; exact ⟨a, vs, rfl, .inl q, r⟩
  | dT ds => obtain ⟨vs, q, r⟩ := o; exact ⟨a, vs, rfl, .inl q, r⟩
  | rows ds => obtain ⟨vs, q, r⟩ := o; exact ⟨a, vs, rfl, q, .inr r⟩
  | deep d => exact ⟨a, rfl⟩
  | _ => exact o.elim
theorem OwD.root {a : Addr} {d : D} (o : OwD K F H d (.ref a)) (h : tO1 d = false) : a ∈ rch H d (.ref a) := by
  cases o with
  | set z r => rw [z] at h; cases h
  | lst q t => simp only [rch]; exact List.mem_cons_self
  | tup z q t => simp only [rch, z, Bool.false_eq_true, if_false]; exact List.mem_cons_self
  | junk q l => simp only [rch]; exact List.mem_cons_self
theorem Own.there {a : Addr} {d : D} (o : Own K F H a d) : ∃ u, H a = some u := by
  cases d with
  | lst ds => obtain ⟨vs, q, r⟩ := o; exact ⟨_, q⟩
  | dK ds => obtain ⟨vs, q, r⟩ := o; exact ⟨_, q⟩
  | dT ds => obtain ⟨vs, q, r⟩ := o; exact ⟨_, q⟩
  | rows ds => obtain ⟨vs, q, r⟩ := o; exact ⟨_, q⟩
  | deep d => exact o.1.there a (o.1.root o.2)
  | _ => exact o.elim
theorem Own.foot {a : Addr} {d : D} (o : Own K F H a d) : ∀ b ∈ foot H a d, ∃ u, H b = some u := fun b hb => by
  rcases List.mem_cons.mp hb with rfl | hb
  · exact o.there
  · cases d with
    | rows ds =>
      obtain ⟨vs, q, r⟩ := o
      have hb : b ∈ kids H a := hb
      rw [kids_at q] at hb
      exact r.there b hb
    | deep d => exact o.1.there b (mem_nub.mp (List.mem_filter.mp hb).1)
    | _ => exact absurd hb List.not_mem_nil
theorem Own.isC {a : Addr} {d : D} (o : Own K F H a d) : isC d = true := by
  cases d <;> first | rfl | exact o.elim
theorem Own.at {a : Addr} {d : D} (f : Same F F') (e : ∀ b ∈ DL.foot H a d, ∀ u, H b = some u → H' b = some u) (o : Own K F H a d) : Own K F' H' a d := by
  have e0 := e a foot_head
  cases d with
  | lst ds => obtain ⟨vs, q, r⟩ := o; exact ⟨vs, e0 _ q, r.mono f⟩
  | dK ds => obtain ⟨vs, q, r⟩ := o; exact ⟨vs, e0 _ q, r.mono f⟩
  | dT ds => obtain ⟨vs, q, r⟩ := o; exact ⟨vs, e0 _ q, r.mono f⟩
  | rows ds =>
    obtain ⟨vs, q, r⟩ := o
    refine ⟨vs, e0 _ q, r.mono f fun b hb => e b (List.mem_cons_of_mem _ ?_)⟩
    show b ∈ kids H a
    rw [kids_at q]
    exact hb
  | deep d =>
    refine ⟨(OwD.at f o.1 fun b hb => ?_).1, o.2⟩
    obtain ⟨u, hu⟩ := o.1.there b hb
    exact (e b (mem_deep hb) u hu).trans hu.symm
  | _ => exact o.elim
theorem Own.mono {a : Addr} {d : D} (f : Same F F') (h : Same H H') (o : Own K F H a d) : Own K F' H' a d := o.at f fun b _ u e => h b u e
theorem Own.settle {a : Addr} {d : D} (o : Own K F H a d) (s : Same F H) (n : ∀ b ∈ DL.foot H a d, F b = none) (nd : (DL.foot H a d).Nodup) : ∃ F', Same F F' ∧ Same F' H ∧ Rep K F' d (.ref a) ∧ ∀ c o, F' c = some o → F c = some o ∨ c ∈ DL.foot H a d := by
  have one : ∀ u, H a = some u → Same F (upd F a u) ∧ Same (upd F a u) H ∧ ∀ c o, upd F a u c = some o → F c = some o ∨ c ∈ DL.foot H a d := fun u q => ⟨same_upd (n a foot_head), same_settle s q, fun c o h => by
    by_cases z : c = a
    · exact .inr (z ▸ foot_head)
    · rw [upd_ne z] at h; exact .inl h⟩
  cases d with
  | lst ds => obtain ⟨vs, q, r⟩ := o; obtain ⟨s1, s2, s3⟩ := one _ q; exact ⟨_, s1, s2, .lst upd_same (r.mono s1), s3⟩
  | dK ds => obtain ⟨vs, q, r⟩ := o; obtain ⟨s1, s2, s3⟩ := one _ q; exact ⟨_, s1, s2, .dK (.inl upd_same) (r.mono s1), s3⟩
  | dT ds => obtain ⟨vs, q, r⟩ := o; obtain ⟨s1, s2, s3⟩ := one _ q; exact ⟨_, s1, s2, .dT (.inl upd_same) (r.mono s1), s3⟩
  | rows ds =>
    obtain ⟨vs, q, r⟩ := o
    have ef : DL.foot H a (.rows ds) = a :: vs.filterMap refOf := by rw [foot_rows, kids_at q]
    rw [ef] at n nd ⊢
    have nd := List.nodup_cons.mp nd
    have n0 := n a List.mem_cons_self
    have s1 : Same F (upd F a (.lst vs)) := same_upd n0
    obtain ⟨F', s2, s3, rr, hk⟩ := (r.mono (H' := H) s1 fun _ _ _ h => h).settle (same_settle s q) (fun c hc => by
      rw [upd_ne (fun (z : c = a) => nd.1 (z ▸ hc))]
      exact n c (List.mem_cons_of_mem _ hc)) nd.2
    refine ⟨F', s1.trans s2, s3, .rows (s2 _ _ upd_same) rr, fun c o hc => ?_⟩
    rcases hk c o hc with h | h
    · by_cases z : c = a
      · exact .inr (z ▸ List.mem_cons_self)
      · rw [upd_ne z] at h; exact .inl h
    · exact .inr (List.mem_cons_of_mem _ h)
  | deep d =>
    obtain ⟨o1, o2⟩ := o
    let F' : Hp := fun b => if b ∈ DL.foot H a (.deep d) then H b else F b
    have s1 : Same F F' := fun b u h => by
      show (if _ then _ else _) = _
      rw [if_neg (fun z => by rw [n b z] at h; cases h)]
      exact h
    have s2 : Same F' H := fun b u h => by
      by_cases z : b ∈ DL.foot H a (.deep d)
      · have h : (if b ∈ DL.foot H a (.deep d) then H b else F b) = some u := h
        rwa [if_pos z] at h
      · have h : (if b ∈ DL.foot H a (.deep d) then H b else F b) = some u := h
        rw [if_neg z] at h
        exact s _ _ h
    refine ⟨F', s1, s2, .deep d a, fun c o h => ?_⟩
    by_cases z : c ∈ DL.foot H a (.deep d)
    · exact .inr z
    · have h : (if c ∈ DL.foot H a (.deep d) then H c else F c) = some o := h
      rw [if_neg z] at h
      exact .inl h
  | _ => exact o.elim
theorem New.own {H0 : Hp} {d : D} {v : V} (h : isC d = true) (r : New K H0 F H d v) : ∃ a, v = .ref a ∧ (∀ b ∈ DL.foot H a d, H0 b = none ∧ F b = none) ∧ (DL.foot H a d).Nodup ∧ Own K F H a d := by
  unfold New at r
  rw [if_pos h] at r
  split at r
  · exact r
  · rename_i hr
    obtain ⟨a, e, n, n', o⟩ := r
    rw [Bool.not_eq_true] at hr
    refine ⟨a, e, ?_, ?_, o⟩
    · rw [foot_one hr]
      intro b hb
      rw [List.mem_singleton.mp hb]
      exact ⟨n, n'⟩
    · rw [foot_one hr]
      simp
theorem New.mk {H0 : Hp} {d : D} {a : Addr} (n : ∀ b ∈ DL.foot H a d, H0 b = none ∧ F b = none) (nd : (DL.foot H a d).Nodup) (o : Own K F H a d) : New K H0 F H d (.ref a) := by
  unfold New
  rw [if_pos o.isC]
  split
  · exact ⟨a, rfl, n, nd, o⟩
  · exact ⟨a, rfl, (n a foot_head).1, (n a foot_head).2, o⟩
theorem New.isRep {H0 : Hp} {d : D} {v : V} (h : isC d = false) (r : New K H0 F H d v) : Rep K F d v := by
  unfold New at r
  rw [h] at r
  exact r
theorem New.view {H0 : Hp} {d : D} {v : V} (s : Same F H) (r : New K H0 F H d v) : View K F H d v := by
  cases h : isC d with
  | true => obtain ⟨a, rfl, _, _, o⟩ := r.own h; exact o.view
  | false => exact (r.isRep h).view s
theorem New.rep {H0 : Hp} {d : D} {v : V} (s : Same F' H') (x : Ext F H0 F' H') (r : New K H0 F' H' d v) : ∃ F'', Ext F H0 F'' H' ∧ Same F' F'' ∧ Same F'' H' ∧ Rep K F'' d v := by
  cases h : isC d with
  | true =>
    obtain ⟨a, rfl, n, nd, o⟩ := r.own h
    obtain ⟨F2, s1, s2, r, hk⟩ := o.settle s (fun b hb => (n b hb).2) nd
    exact ⟨F2, ⟨x.f.trans s1, x.h, fun c u e => by
      rcases hk c u e with z | z
      · exact x.n c u z
      · exact .inr (n c z).1⟩, s1, s2, r⟩
  | false => exact ⟨F', x, Same.refl _, s, r.isRep h⟩
theorem New.of_rep {H0 : Hp} {d : D} {v : V} (h : isC d = false) (r : Rep K F d v) : New K H0 F H d v := by
  unfold New; rw [h]; exact r
end
inductive Cell where
  | ins (c : Nat) (fs : List D) | lst (ds : List D) | dK (kvs : List (Key × D)) | dT (kvs : List (List Key × D))
abbrev Wd := List Cell
def clsT : Nat → Str × List Str
  | 0 => (Str.ofString "Staff", [Str.ofString "crew", Str.ofString "chain", Str.ofString "book", Str.ofString "tempo"])
  | 1 => (Str.ofString "Office", [Str.ofString "team", Str.ofString "forms", Str.ofString "cases"])
  | 2 => (Str.ofString "Case", [Str.ofString "parts", Str.ofString "rows", Str.ofString "bonds", Str.ofString "marks"])
  | _ => (Str.ofString "Desk", [Str.ofString "crew_kept", Str.ofString "hall"])
def CellAt (K : Kx) (F H : Hp) (a : Addr) : Cell → Prop
  | .ins c fs => ∃ (dx : Addr) (vs : List (Str × V)), H a = some (.ins (clsOf K.fr (clsT c).1) dx vs) ∧ H dx = some (.own a) ∧ vs.map (·.1) = (clsT c).2.take fs.length ∧ Reps K F fs (vs.map (·.2))
  | .lst ds => ∃ vs, H a = some (.lst vs) ∧ Reps K F ds vs
  | .dK kds => ∃ kvs, Rd H a (.dK kvs) ∧ RepK K F kds kvs
  | .dT kds => ∃ kvs, Rd H a (.dT kvs) ∧ RepT K F kds kvs
def WV (K : Kx) (F H : Hp) (W : Wd) : Prop := ∀ (k : Nat) (c : Cell), W[k]? = some c → ∃ a, K.as[k]? = some a ∧ CellAt K F H a c
theorem WV.nil {K : Kx} {F H : Hp} : WV K F H [] := fun k c h => by simp at h
theorem CellAt.mono {K : Kx} {F H F' H' : Hp} {a : Addr} {c : Cell} (f : Same F F') (h : Same H H') (w : CellAt K F H a c) : CellAt K F' H' a c := by
  cases c with
  | ins c fs => obtain ⟨dx, vs, h1, h2, h3, h4⟩ := w; exact ⟨dx, vs, h _ _ h1, h _ _ h2, h3, h4.mono f⟩
  | lst ds => obtain ⟨vs, h1, h2⟩ := w; exact ⟨vs, h _ _ h1, h2.mono f⟩
  | dK ds => obtain ⟨vs, h1, h2⟩ := w; exact ⟨vs, Same.rd h h1, h2.mono f⟩
  | dT ds => obtain ⟨vs, h1, h2⟩ := w; exact ⟨vs, Same.rd h h1, h2.mono f⟩
theorem WV.mono {K : Kx} {F H F' H' : Hp} {W : Wd} (f : Same F F') (h : Same H H') (w : WV K F H W) : WV K F' H' W := fun k c e => by
  obtain ⟨a, h1, h2⟩ := w k c e
  exact ⟨a, h1, h2.mono f h⟩
abbrev En := List (Option (Bool × D))
structure Cd where
  K : Kx
  F0 : Hp
  H0 : Hp
  XW : Str → L2.St → Hp → Prop
  ln : Nat → Option (D × V)
  io : List Addr
  wd : Wd
structure Rel (C : Cd) (ρ : En) (σ : L2.St) (F H : Hp) : Prop where
  ext : Ext C.F0 C.H0 F H
  sub : Same F H
  len : σ.length = ρ.length
  slot : ∀ (i : Nat) (d : D), ρ[i]? = some (some (false, d)) → ∃ v, σ[i]? = some (some v) ∧ Rep C.K F d v
  ownF : ∀ (i : Nat) (d : D), ρ[i]? = some (some (true, d)) → ∃ a, σ[i]? = some (some (.ref a)) ∧ (∀ b ∈ foot H a d, F b = none ∧ C.H0 b = none) ∧ (foot H a d).Nodup ∧ Own C.K F H a d
  apartF : ∀ (i j : Nat) (d e : D) (a b c : Addr), ρ[i]? = some (some (true, d)) → ρ[j]? = some (some (true, e)) → σ[i]? = some (some (.ref a)) → σ[j]? = some (some (.ref b)) → c ∈ foot H a d → c ∈ foot H b e → i = j
  lend : ∀ (i : Nat) (d : D) (v : V), C.ln i = some (d, v) → σ[i]? = some (some v) ∧ View C.K C.F0 C.H0 d v
  wok : WV C.K C.F0 C.H0 C.wd
section
variable {C : Cd} {ρ : En} {σ : L2.St} {F H F' H' : Hp}
theorem Rel.own (r : Rel C ρ σ F H) (i : Nat) (d : D) (h : ρ[i]? = some (some (true, d))) : ∃ a, σ[i]? = some (some (.ref a)) ∧ F a = none ∧ C.H0 a = none ∧ Own C.K F H a d := by
  obtain ⟨a, q, n, _, o⟩ := r.ownF i d h
  exact ⟨a, q, (n a foot_head).1, (n a foot_head).2, o⟩
theorem foot_grow {a : Addr} {d : D} (h : Same H H') (o : Own C.K F H a d) : foot H' a d = foot H a d := by
  refine foot_same o fun b hb => ?_
  obtain ⟨u, hu⟩ := o.foot b hb
  exact (h _ _ hu).trans hu.symm
theorem Rel.grow (r : Rel C ρ σ F H) (x : Ext F H F' H') (s : Same F' H') : Rel C ρ σ F' H' where
  ext := r.ext.trans x
  sub := s
  len := r.len
  slot := fun i d e => by obtain ⟨v, q, z⟩ := r.slot i d e; exact ⟨v, q, z.mono x.f⟩
  ownF := fun i d e => by
    obtain ⟨a, q, n, nd, o⟩ := r.ownF i d e
    rw [← foot_grow x.h o] at nd
    refine ⟨a, q, fun b hb => ?_, nd, o.mono x.f x.h⟩
    rw [foot_grow x.h o] at hb
    obtain ⟨u, hu⟩ := o.foot b hb
    exact ⟨x.keepN hu (n b hb).1, (n b hb).2⟩
  apartF := fun i j d e a b c h1 h2 h3 h4 h5 h6 => by
    obtain ⟨a', q, _, _, o⟩ := r.ownF i d h1
    rw [h3] at q
    cases q
    obtain ⟨b', q, _, _, o'⟩ := r.ownF j e h2
    rw [h4] at q
    cases q
    rw [foot_grow x.h o] at h5
    rw [foot_grow x.h o'] at h6
    exact r.apartF i j d e a b c h1 h2 h3 h4 h5 h6
  wok := r.wok
  lend := r.lend
theorem Rel.view (r : Rel C ρ σ F H) {i : Nat} {b : Bool} {d : D} (e : ρ[i]? = some (some (b, d))) : ∃ v, σ[i]? = some (some v) ∧ View C.K F H d v := by
  cases b with
  | false => obtain ⟨v, q, z⟩ := r.slot i d e; exact ⟨v, q, z.view r.sub⟩
  | true => obtain ⟨a, q, n, n0, o⟩ := r.own i d e; exact ⟨_, q, o.view⟩
theorem get_set {α : Type} {l : List α} {i j : Nat} {x y : α} (h : (l.set i x)[j]? = some y) : (i = j ∧ y = x) ∨ (i ≠ j ∧ l[j]? = some y) := by
  by_cases e : i = j
  · subst e
    rw [List.getElem?_set] at h
    simp at h
    exact .inl ⟨rfl, h.2.symm⟩
  · right; rw [List.getElem?_set_ne e] at h; exact ⟨e, h⟩
theorem Rel.lt (r : Rel C ρ σ F H) {i : Nat} {x : Option (Bool × D)} (h : ρ[i]? = some x) : i < σ.length := by
  rw [r.len]
  exact (List.getElem?_eq_some_iff.mp h).1
theorem Rel.set (r : Rel C ρ σ F H) {i : Nat} {d : D} {v : V} (q : Rep C.K F d v) (hl : C.ln i = none) : Rel C (ρ.set i (some (false, d))) (σ.set i (some v)) F H where
  ext := r.ext
  sub := r.sub
  len := by rw [List.length_set, List.length_set]; exact r.len
  slot := fun j e h => by
    rcases get_set h with ⟨rfl, z⟩ | ⟨n, z⟩
    · cases z
      refine ⟨v, ?_, q⟩
      rw [List.getElem?_set_self]
      rw [r.len]
      have := (List.getElem?_eq_some_iff.mp h).1
      simpa using this
    · obtain ⟨w, z1, z2⟩ := r.slot j e z
      exact ⟨w, by rw [List.getElem?_set_ne n]; exact z1, z2⟩
  ownF := fun j e h => by
    rcases get_set h with ⟨rfl, z⟩ | ⟨n, z⟩
    · cases z
    · obtain ⟨a, z1, z2⟩ := r.ownF j e z
      exact ⟨a, by rw [List.getElem?_set_ne n]; exact z1, z2⟩
  apartF := fun j k d' e a b c h1 h2 h3 h4 h5 h6 => by
    rcases get_set h1 with ⟨rfl, z⟩ | ⟨n, z⟩
    · cases z
    · rcases get_set h2 with ⟨rfl, z'⟩ | ⟨n', z'⟩
      · cases z'
      · rw [List.getElem?_set_ne n] at h3
        rw [List.getElem?_set_ne n'] at h4
        exact r.apartF j k _ _ a b c z z' h3 h4 h5 h6
  wok := r.wok
  lend := fun j d' w h => by
    obtain ⟨z1, z2⟩ := r.lend j d' w h
    exact ⟨by rw [List.getElem?_set_ne (fun e => by subst e; rw [hl] at h; cases h)]; exact z1, z2⟩
theorem Rel.setO (r : Rel C ρ σ F H) {i : Nat} {d : D} {a : Addr} (hl : C.ln i = none) (n : ∀ b ∈ foot H a d, F b = none ∧ C.H0 b = none) (nd : (foot H a d).Nodup) (o : Own C.K F H a d) (ap : ∀ (j : Nat) (e : D) (b c : Addr), ρ[j]? = some (some (true, e)) → σ[j]? = some (some (.ref b)) → c ∈ foot H a d → c ∈ foot H b e → False) :
    Rel C (ρ.set i (some (true, d))) (σ.set i (some (.ref a))) F H where
  ext := r.ext
  sub := r.sub
  len := by rw [List.length_set, List.length_set]; exact r.len
  slot := fun j e h => by
    rcases get_set h with ⟨rfl, z⟩ | ⟨n, z⟩
    · cases z
    · obtain ⟨w, z1, z2⟩ := r.slot j e z
      exact ⟨w, by rw [List.getElem?_set_ne n]; exact z1, z2⟩
  ownF := fun j e h => by
    rcases get_set h with ⟨rfl, z⟩ | ⟨nn, z⟩
    · cases z
      refine ⟨a, ?_, n, nd, o⟩
      rw [List.getElem?_set_self]
      rw [r.len]
      have := (List.getElem?_eq_some_iff.mp h).1
      simpa using this
    · obtain ⟨b, z1, z2⟩ := r.ownF j e z
      exact ⟨b, by rw [List.getElem?_set_ne nn]; exact z1, z2⟩
  apartF := fun j k d' e b b' c h1 h2 h3 h4 h5 h6 => by
    rcases get_set h1 with ⟨rfl, z⟩ | ⟨n, z⟩
    · rcases get_set h2 with ⟨rfl, z'⟩ | ⟨n', z'⟩
      · rfl
      · rw [List.getElem?_set_ne n'] at h4
        cases z
        rcases get_set h3 with ⟨_, q⟩ | ⟨q, _⟩
        · cases q
          exact (ap k _ _ c z' h4 h5 h6).elim
        · exact absurd rfl q
    · rcases get_set h2 with ⟨rfl, z'⟩ | ⟨n', z'⟩
      · rw [List.getElem?_set_ne n] at h3
        cases z'
        rcases get_set h4 with ⟨_, q⟩ | ⟨q, _⟩
        · cases q
          exact (ap j _ _ c z h3 h6 h5).elim
        · exact absurd rfl q
      · rw [List.getElem?_set_ne n] at h3
        rw [List.getElem?_set_ne n'] at h4
        exact r.apartF j k _ _ b b' c z z' h3 h4 h5 h6
  wok := r.wok
  lend := fun j d' w h => by
    obtain ⟨z1, z2⟩ := r.lend j d' w h
    exact ⟨by rw [List.getElem?_set_ne (fun e => by subst e; rw [hl] at h; cases h)]; exact z1, z2⟩
theorem Rel.forget (r : Rel C ρ σ F H) (i : Nat) (x : Option V) (hl : C.ln i = none) : Rel C (ρ.set i none) (σ.set i x) F H where
  ext := r.ext
  sub := r.sub
  len := by rw [List.length_set, List.length_set]; exact r.len
  slot := fun j e h => by
    rcases get_set h with ⟨rfl, z⟩ | ⟨n, z⟩
    · cases z
    · obtain ⟨w, z1, z2⟩ := r.slot j e z
      exact ⟨w, by rw [List.getElem?_set_ne n]; exact z1, z2⟩
  ownF := fun j e h => by
    rcases get_set h with ⟨rfl, z⟩ | ⟨n, z⟩
    · cases z
    · obtain ⟨a, z1, z2⟩ := r.ownF j e z
      exact ⟨a, by rw [List.getElem?_set_ne n]; exact z1, z2⟩
  apartF := fun j k d' e a b c h1 h2 h3 h4 h5 h6 => by
    rcases get_set h1 with ⟨rfl, z⟩ | ⟨n, z⟩
    · cases z
    · rcases get_set h2 with ⟨rfl, z'⟩ | ⟨n', z'⟩
      · cases z'
      · rw [List.getElem?_set_ne n] at h3
        rw [List.getElem?_set_ne n'] at h4
        exact r.apartF j k _ _ a b c z z' h3 h4 h5 h6
  wok := r.wok
  lend := fun j d' w h => by
    obtain ⟨z1, z2⟩ := r.lend j d' w h
    exact ⟨by rw [List.getElem?_set_ne (fun e => by subst e; rw [hl] at h; cases h)]; exact z1, z2⟩
theorem Rel.settleP (r : Rel C ρ σ F H) {i : Nat} {d : D} {a : Addr} {bs : List Addr} (e : ρ[i]? = some (some (true, d))) (q : σ[i]? = some (some (.ref a))) (hb : ∀ b ∈ bs, b ∈ foot H a d) (s1 : Same F F') (s2 : Same F' H) (hk : ∀ c o, F' c = some o → F c = some o ∨ c ∈ bs) : Rel C (ρ.set i none) σ F' H where
  ext := ⟨r.ext.f.trans s1, r.ext.h, fun b x h => by
    rcases hk b x h with z | z
    · exact r.ext.n b x z
    · obtain ⟨a', q', n, _, _⟩ := r.ownF i d e
      rw [q] at q'
      cases q'
      exact .inr (n b (hb b z)).2⟩
  sub := s2
  len := by rw [List.length_set]; exact r.len
  slot := fun j e' h => by
    rcases get_set h with ⟨rfl, z⟩ | ⟨nn, z⟩
    · cases z
    · obtain ⟨w, z1, z2⟩ := r.slot j e' z
      exact ⟨w, z1, z2.mono s1⟩
  ownF := fun j e' h => by
    rcases get_set h with ⟨rfl, z⟩ | ⟨nn, z⟩
    · cases z
    · obtain ⟨b, z1, z2, z3, z4⟩ := r.ownF j e' z
      refine ⟨b, z1, fun c hc => ⟨?_, (z2 c hc).2⟩, z3, z4.mono s1 (Same.refl _)⟩
      cases hF : F' c with
      | none => rfl
      | some o =>
        rcases hk c o hF with y | y
        · rw [(z2 c hc).1] at y; cases y
        · exact absurd (r.apartF i j _ _ a b c e z q z1 (hb c y) hc) nn
  apartF := fun j k d' e' b b' c h1 h2 h3 h4 h5 h6 => by
    rcases get_set h1 with ⟨rfl, z⟩ | ⟨n, z⟩
    · cases z
    · rcases get_set h2 with ⟨rfl, z'⟩ | ⟨n', z'⟩
      · cases z'
      · exact r.apartF j k _ _ b b' c z z' h3 h4 h5 h6
  wok := r.wok
  lend := r.lend
theorem Rel.settle1 (r : Rel C ρ σ F H) {i : Nat} {d : D} (e : ρ[i]? = some (some (true, d))) : ∃ F', Same F F' ∧ Rel C (ρ.set i (some (false, d))) σ F' H := by
  obtain ⟨a, q, n, nd, o⟩ := r.ownF i d e
  obtain ⟨F2, s1, s2, rp, hk⟩ := o.settle r.sub (fun b hb => (n b hb).1) nd
  have r2 := r.settleP e q (fun _ h => h) s1 s2 hk
  refine ⟨F2, s1, ⟨r2.ext, r2.sub, by rw [List.length_set]; exact r.len, fun j e' h => ?_, fun j e' h => ?_, fun j k d' e' b b' c h1 h2 h3 h4 h5 h6 => ?_, r.lend, r.wok⟩⟩
  · rcases get_set h with ⟨rfl, z⟩ | ⟨nn, z⟩
    · cases z
      exact ⟨_, q, rp⟩
    · exact r2.slot j e' (by rw [List.getElem?_set_ne nn]; exact z)
  · rcases get_set h with ⟨rfl, z⟩ | ⟨nn, z⟩
    · cases z
    · exact r2.ownF j e' (by rw [List.getElem?_set_ne nn]; exact z)
  · rcases get_set h1 with ⟨rfl, z⟩ | ⟨n1, z⟩
    · cases z
    · rcases get_set h2 with ⟨rfl, z'⟩ | ⟨n2, z'⟩
      · cases z'
      · exact r.apartF j k _ _ b b' c z z' h3 h4 h5 h6
def settle (ρ : En) : List Nat → En
  | [] => ρ
  | i :: is => match ρ[i]? with
    | some (some (true, d)) => settle (ρ.set i (some (false, d))) is
    | _ => settle ρ is
theorem Rel.settle : ∀ (is : List Nat) {ρ : En} {F : Hp}, Rel C ρ σ F H → ∃ F', Same F F' ∧ Rel C (settle ρ is) σ F' H
  | [], _, F, r => ⟨F, Same.refl _, r⟩
  | i :: is, ρ, F, r => by
    unfold DL.settle
    split
    · rename_i d e
      obtain ⟨F', sf, r'⟩ := r.settle1 e
      obtain ⟨F2, sf2, r2⟩ := Rel.settle is r'
      exact ⟨F2, sf.trans sf2, r2⟩
    · exact Rel.settle is r
theorem Rel.writeF (r : Rel C ρ σ F H) {i : Nat} {d d' : D} {a : Addr} (e : ρ[i]? = some (some (true, d))) (q : σ[i]? = some (some (.ref a)))
    (hH : ∀ c, H' c ≠ H c → (c ∈ foot H a d ∨ H c = none) ∧ F c = none ∧ C.H0 c = none) (o' : Own C.K F H' a d') (n' : ∀ b ∈ foot H' a d', F b = none ∧ C.H0 b = none) (nd' : (foot H' a d').Nodup) (hf : ∀ c ∈ foot H' a d', c ∈ foot H a d ∨ ∀ (k : Nat) (e1 : D) (b' : Addr), ρ[k]? = some (some (true, e1)) → σ[k]? = some (some (.ref b')) → c ∉ foot H b' e1) : Rel C (ρ.set i (some (true, d'))) σ F H' := by
  have keep : ∀ (j : Nat) (e' : D) (b c : Addr), i ≠ j → ρ[j]? = some (some (true, e')) → σ[j]? = some (some (.ref b)) → c ∈ foot H b e' → H' c = H c := fun j e' b c hij hj hq hc => by
    by_cases hh : H' c = H c
    · exact hh
    · obtain ⟨h1, _, _⟩ := hH c hh
      rcases h1 with h1 | h1
      · exact absurd (r.apartF i j _ _ a b c e hj q hq h1 hc) hij
      · obtain ⟨b', q', _, _, o⟩ := r.ownF j e' hj
        rw [hq] at q'
        cases q'
        obtain ⟨u, hu⟩ := o.foot c hc
        rw [h1] at hu; cases hu
  have keepf : ∀ (j : Nat) (e' : D) (b : Addr), i ≠ j → ρ[j]? = some (some (true, e')) → σ[j]? = some (some (.ref b)) → foot H' b e' = foot H b e' := fun j e' b hij hj hq => by
    obtain ⟨b', q', _, _, o⟩ := r.ownF j e' hj
    rw [hq] at q'
    cases q'
    exact foot_same o fun c hc => keep j e' b c hij hj hq hc
  refine ⟨⟨r.ext.f, fun b x h => ?_, r.ext.n⟩, fun b x h => ?_, by rw [List.length_set]; exact r.len, fun j e' h => ?_, fun j e' h => ?_, fun j k d1 e1 b b' c h1 h2 h3 h4 h5 h6 => ?_, r.lend, r.wok⟩
  · by_cases hh : H' b = H b
    · rw [hh]; exact r.ext.h b x h
    · rw [(hH b hh).2.2] at h; cases h
  · by_cases hh : H' b = H b
    · rw [hh]; exact r.sub b x h
    · rw [(hH b hh).2.1] at h; cases h
  · rcases get_set h with ⟨rfl, z⟩ | ⟨nn, z⟩
    · cases z
    · exact r.slot j e' z
  · rcases get_set h with ⟨rfl, z⟩ | ⟨nn, z⟩
    · cases z
      exact ⟨a, q, n', nd', o'⟩
    · obtain ⟨b, z1, z2, z3, z4⟩ := r.ownF j e' z
      have ef := keepf j e' b nn z z1
      refine ⟨b, z1, by rw [ef]; exact z2, by rw [ef]; exact z3, z4.at (Same.refl _) fun c hc u hu => ?_⟩
      rw [keep j e' b c nn z z1 hc]; exact hu
  · have cross : ∀ (k : Nat) (e1 : D) (b' c : Addr), i ≠ k → ρ[k]? = some (some (true, e1)) → σ[k]? = some (some (.ref b')) → c ∈ foot H' a d' → c ∈ foot H' b' e1 → False := fun k e1 b' c hik hk hq h5 h6 => by
      rw [keepf k e1 b' hik hk hq] at h6
      rcases hf c h5 with y | y
      · exact hik (r.apartF i k _ _ a b' c e hk q hq y h6)
      · exact y k e1 b' hk hq h6
    rcases get_set h1 with ⟨rfl, z⟩ | ⟨n1, z⟩
    · rcases get_set h2 with ⟨rfl, z'⟩ | ⟨n2, z'⟩
      · rfl
      · cases z
        rw [q] at h3
        cases h3
        exact (cross k e1 b' c n2 z' h4 h5 h6).elim
    · rcases get_set h2 with ⟨rfl, z'⟩ | ⟨n2, z'⟩
      · cases z'
        rw [q] at h4
        cases h4
        exact (cross j d1 b c n1 z h3 h6 h5).elim
      · rw [keepf j d1 b n1 z h3] at h5
        rw [keepf k e1 b' n2 z' h4] at h6
        exact r.apartF j k _ _ b b' c z z' h3 h4 h5 h6
theorem Rel.write (r : Rel C ρ σ F H) {i : Nat} {d d' : D} {a : Addr} {u : HO} (e : ρ[i]? = some (some (true, d))) (q : σ[i]? = some (some (.ref a))) (o' : Own C.K F (upd H a u) a d') (hr : isRows d' = false := by rfl) : Rel C (ρ.set i (some (true, d'))) σ F (upd H a u) := by
  obtain ⟨a', q', n, nd, o⟩ := r.ownF i d e
  rw [q] at q'
  cases q'
  refine r.writeF e q (fun c hc => ?_) o' (fun b hb => ?_) (by rw [foot_one hr]; simp) fun b hb => ?_
  · have : c = a := by
      by_cases z : c = a
      · exact z
      · exact absurd (upd_ne z) hc
    subst this
    exact ⟨.inl foot_head, n c foot_head⟩
  · rw [foot_one hr] at hb
    rw [List.mem_singleton.mp hb]
    exact n a foot_head
  · rw [foot_one hr] at hb
    rw [List.mem_singleton.mp hb]
    exact .inl foot_head
end
def Out (C : Cd) (σ : L2.St) (F H : Hp) (W : Hp → Hp → D → V → Prop) (x : R D) (Q : VK) : Prop := match x with
  | .ok d => ∀ v F' H', Ext F H F' H' → Same F' H' → W F' H' d v → Q v H'
  | .err c => ∀ F' H', Ext F H F' H' → Same F' H' → C.XW c σ H'
  | .bad => False
def OutA (C : Cd) (σ : L2.St) (F H : Hp) (x : R (List D)) (Q : List V → Hp → Prop) : Prop := match x with
  | .ok d => ∀ v F' H', Ext F H F' H' → Same F' H' → Reps C.K F' d v → Q v H'
  | .err c => ∀ F' H', Ext F H F' H' → Same F' H' → C.XW c σ H'
  | .bad => False
def OutT (C : Cd) (σ : L2.St) (F H : Hp) (x : R Bool) (Q : Bool → Hp → Prop) : Prop := match x with
  | .ok d => ∀ F' H', Ext F H F' H' → Same F' H' → Q d H'
  | .err c => ∀ F' H', Ext F H F' H' → Same F' H' → C.XW c σ H'
  | .bad => False
def tR (C : Cd) (f : En → R D) : TE := fun σ H Q => ∃ ρ F, Rel C ρ σ F H ∧ Out C σ F H (fun F' H' => View C.K F' H') (f ρ) Q
def tE (C : Cd) (f : En → R D) : TE := fun σ H Q => ∃ ρ F, Rel C ρ σ F H ∧ Out C σ F H (fun F' H' => Rep C.K F') (f ρ) Q
def tO (C : Cd) (f : En → R D) : TE := fun σ H Q => ∃ ρ F, Rel C ρ σ F H ∧ Out C σ F H (fun F' H' => New C.K H F' H') (f ρ) Q
def tA (C : Cd) (f : En → R (List D)) : TA := fun σ H Q => ∃ ρ F, Rel C ρ σ F H ∧ OutA C σ F H (f ρ) Q
def tT (C : Cd) (f : En → R Bool) : TT := fun σ H Q => ∃ ρ F, Rel C ρ σ F H ∧ OutT C σ F H (f ρ) Q
theorem _root_.L2.PE.mono {X : Cx} {e : Expr} {t t' : TE} (h : PE X e t) (m : ∀ σ H Q, t' σ H Q → t σ H Q) : PE X e t' := ⟨fun pins s σ H Q I q => h.run pins s σ H Q I (m σ H Q q)⟩
theorem _root_.L2.PA.mono {X : Cx} {e : List Expr} {t t' : TA} (h : PA X e t) (m : ∀ σ H Q, t' σ H Q → t σ H Q) : PA X e t' := ⟨fun pos pins s σ H Q I q => h.run pos pins s σ H Q I (m σ H Q q)⟩
theorem _root_.L2.PT.mono {X : Cx} {e : Expr} {t t' : TT} (h : PT X e t) (m : ∀ σ H Q, t' σ H Q → t σ H Q) : PT X e t' := ⟨fun pins s σ H Q I q => h.run pins s σ H Q I (m σ H Q q)⟩
theorem _root_.L2.PW.mono {X : Cx} {e : Expr} {t t' : TT} (h : PW X e t) (m : ∀ σ H Q, t' σ H Q → t σ H Q) : PW X e t' := ⟨fun whole pins s σ H Q I q => h.run whole pins s σ H Q I (m σ H Q q)⟩
theorem _root_.L2.PS.mono {X : Cx} {e : Stmt} {t t' : TS} (h : PS X e t) (m : ∀ D σ H, t' D σ H → t D σ H) : PS X e t' := ⟨fun pins s σ H D I q => h.run pins s σ H D I (m D σ H q)⟩
theorem _root_.L2.PSs.mono {X : Cx} {e : List Stmt} {t t' : TS} (h : PSs X e t) (m : ∀ D σ H, t' D σ H → t D σ H) : PSs X e t' := ⟨fun pins s σ H D I q => h.run pins s σ H D I (m D σ H q)⟩
section
variable {C : Cd} {σ : L2.St} {F H F1 H1 : Hp} {W W' : Hp → Hp → D → V → Prop} {Q Q' : VK} {x : R D}
theorem Out.imp (o : Out C σ F H W x Q) (h : ∀ d v F' H', x = .ok d → Ext F H F' H' → Same F' H' → W' F' H' d v → (∀ v F' H', Ext F H F' H' → Same F' H' → W F' H' d v → Q v H') → Q' v H') : Out C σ F H W' x Q' := by
  cases x with
  | ok d => exact fun v F' H' x s w => h d v F' H' rfl x s w o
  | err c => exact o
  | bad => exact o
theorem Out.fst {k : D → R D} (o : Out C σ F H W (bd x k) Q) (h : ∀ d v F' H', x = .ok d → Out C σ F H W (k d) Q → Ext F H F' H' → Same F' H' → W' F' H' d v → Q' v H') : Out C σ F H W' x Q' := by
  cases x with
  | ok d => exact fun v F' H' x s w => h d v F' H' rfl o x s w
  | err c => exact o
  | bad => exact o
theorem Out.later (o : Out C σ F H W x Q) (e : Ext F H F1 H1) : Out C σ F1 H1 W x Q := by
  cases x with
  | ok d => exact fun v F' H' x s w => o v F' H' (e.trans x) s w
  | err c => exact fun F' H' x s => o F' H' (e.trans x) s
  | bad => exact o
theorem New.later {K : Kx} {d : D} {v : V} (e : Same H H1) (n : New K H1 F1 F d v) : New K H F1 F d v := by
  cases h : isC d with
  | true =>
    obtain ⟨a, rfl, n1, nd, o⟩ := n.own h
    exact .mk (fun b hb => ⟨e.free (n1 b hb).1, (n1 b hb).2⟩) nd o
  | false => exact .of_rep h (n.isRep h)
end
section
variable {X : Cx} {C : Cd} {e a b : Expr} {f g : En → R D}
theorem _root_.L2.PE.or {X : Cx} {e : Expr} {t t' : TE} (h : PE X e t) (h' : PE X e t') : PE X e (fun σ H Q => t σ H Q ∨ t' σ H Q) := ⟨fun pins s σ H Q I q => by
  rcases q with q | q
  · exact h.run pins s σ H Q I q
  · exact h'.run pins s σ H Q I q⟩
theorem r_of_e (h : PE X e (tE C f)) : PE X e (tR C f) := h.mono fun σ H Q ⟨ρ, F, r, q⟩ => ⟨ρ, F, r, q.imp fun d v F' H' _ x s w k => k v F' H' x s (w.view s)⟩
theorem r_of_o (h : PE X e (tO C f)) : PE X e (tR C f) := h.mono fun σ H Q ⟨ρ, F, r, q⟩ => ⟨ρ, F, r, q.imp fun d v F' H' _ x s w k => k v F' H' x s (w.view s)⟩
theorem e_of_o (h : PE X e (tO C f)) : PE X e (tE C f) := h.mono fun σ H Q ⟨ρ, F, r, q⟩ => ⟨ρ, F, r, q.imp fun d v F' H' _ x s w k => by
      obtain ⟨F2, x2, s1, s2, p2⟩ := w.rep s x
      exact k v F2 H' x2 s2 p2⟩
def Op2 (C : Cd) (r : R2) (w : D → D → R D) : Prop :=
  ∀ σ F H Q d e x y, Out C σ F H (fun F' H' => New C.K H F' H') (w d e) Q → Same F H → View C.K F H d x → View C.K F H e y → r x y H Q
theorem two {r : R2} {w : D → D → R D} (hr : Op2 C r w) :
    ∀ σ H Q, tO C (fun ρ => bd (f ρ) fun d => bd (g ρ) fun e => w d e) σ H Q → tR C f σ H fun x H1 => tR C g σ H1 fun y H2 => r x y H2 Q := by
  rintro σ H Q ⟨ρ, F, rl, q⟩
  refine ⟨ρ, F, rl, q.fst fun d v F1 H1 _ q x1 s1 p1 => ?_⟩
  refine ⟨ρ, F1, rl.grow x1 s1, ?_⟩
  refine (q.later x1).fst fun e y F2 H2 _ q x2 s2 p2 => ?_
  refine hr σ F2 H2 Q d e v y ?_ s2 (p1.mono x2.f x2.h) p2
  exact (q.later x2).imp fun d v F' H' _ x s w k => k v F' H' x s (w.later (x1.h.trans x2.h))
theorem d_op {op : Operator} {r : R2} {w : D → D → R D} {pos : Pos} (ho : OpR X (binaryOp op) r) (hr : Op2 C r w) (ha : PE X a (tR C f)) (hb : PE X b (tR C g)) :
    PE X (.BinOp a op b pos) (tO C (fun ρ => bd (f ρ) fun d => bd (g ρ) fun e => w d e)) :=
  (pe_op ho ha hb).mono (two hr)
theorem d_cmp {op : CmpOp} {r : R2} {w : D → D → R D} {pos : Pos} (ho : OpR X (compareOp op) r) (hr : Op2 C r w) (hm : behindInMarks op b = false) (ha : PE X a (tR C f)) (hb : PE X b (tR C g)) :
    PE X (.Compare a [op] [b] pos) (tO C (fun ρ => bd (f ρ) fun d => bd (g ρ) fun e => w d e)) :=
  (pe_cmpR ho ha hb hm).mono (two hr)
end
end DL
namespace DL
open PySem PySem.Spec PyProof.Rows L2
def bop (f g : En → R D) (w : D → D → R D) : En → R D := fun ρ => bd (f ρ) fun d => bd (g ρ) fun e => w d e
def uop (f : En → R D) (w : D → R D) : En → R D := fun ρ => bd (f ρ) w
def nop (f : En → R (List D)) (w : List D → R D) : En → R D := fun ρ => bd (f ρ) w
section
variable {X : Cx} {C : Cd} {e a b c : Expr} {f g k : En → R D} {pos : Pos}
def rd (i : Nat) : En → R D := fun ρ => match ρ[i]? with
  | some (some (_, d)) => .ok d
  | _ => .bad
def rdE (i : Nat) : En → R D := fun ρ => match ρ[i]? with
  | some (some (false, d)) => .ok d
  | some (some (true, d)) => if isC d = true then .bad else .ok d
  | _ => .bad
theorem Rel.noC {ρ : En} {σ : L2.St} {F H : Hp} (r : Rel C ρ σ F H) {i : Nat} {d : D} (h : ρ[i]? = some (some (true, d))) : isC d = true := by
  obtain ⟨_, _, _, _, o⟩ := r.own i d h
  exact o.isC
theorem v_R {i : Nat} (h : PE X e (tVar i)) : PE X e (tR C (rd i)) := h.mono fun σ H Q ⟨ρ, F, r, q⟩ => by
  unfold rd at q
  split at q
  · rename_i bb d h
    obtain ⟨v, hv, w⟩ := r.view h
    exact ⟨v, hv, q v F H (Ext.refl _ _) r.sub w⟩
  · exact q.elim
theorem v_E {i : Nat} (h : PE X e (tVar i)) : PE X e (tE C (rdE i)) := h.mono fun σ H Q ⟨ρ, F, r, q⟩ => by
  unfold rdE at q
  split at q
  · rename_i d h
    obtain ⟨v, hv, w⟩ := r.slot i d h
    exact ⟨v, hv, q v F H (Ext.refl _ _) r.sub w⟩
  · rename_i d h
    rw [if_pos (r.noC h)] at q
    exact q.elim
  · exact q.elim
def flatD : D → Option V
  | .non => some .non
  | .bl b => some (.bl b)
  | .int i => some (.int i)
  | .str x => some (.str x)
  | _ => none
def cst (d : D) : En → R D := fun _ => .ok d
theorem c_of {d : D} {v : V} (h : PE X e (tC v)) (hd : flatD d = some v) : PE X e (tO C (cst d)) := h.mono fun σ H Q ⟨ρ, F, r, q⟩ => by
  refine q v F H (Ext.refl _ _) r.sub ?_
  cases d with
  | non => cases hd; exact .non
  | bl b => cases hd; exact .bl b
  | int b => cases hd; exact .int b
  | str b => cases hd; exact .str b
  | _ => exact nomatch hd
theorem c_int {i : Int} {j : Nat} : PE X (.Constant (.int i) j pos) (tO C (cst (.int i))) := c_of pe_int rfl
theorem c_bl {i : Bool} {j : Nat} : PE X (.Constant (.bool i) j pos) (tO C (cst (.bl i))) := c_of pe_bl rfl
theorem c_non {j : Nat} : PE X (.Constant .none j pos) (tO C (cst .non)) := c_of pe_non rfl
theorem c_str {i : Str} {j : Nat} : PE X (.Constant (.str i) j pos) (tO C (cst (.str i))) := c_of pe_str rfl
theorem c_glob {x : Str} {d : D} {v : V} {u : Value} (hm : X.mg x = some u) (r : RelV v u) (hd : flatD d = some v) (hg : Gl X x := by rfl) (hdb : (x == ("__debug__" : Str)) = false := by decide) : PE X (.Name x pos) (tO C (cst d)) := c_of (pe_glob hg hm r hdb) hd
def aNil : En → R (List D) := fun _ => .ok []
def aCons (f : En → R D) (g : En → R (List D)) : En → R (List D) := fun ρ => bd (f ρ) fun d => bd (g ρ) fun ds => .ok (d :: ds)
theorem a_nil : PA X [] (tA C aNil) := pa_nil.mono fun σ H Q ⟨ρ, F, r, q⟩ => q [] F H (Ext.refl _ _) r.sub .nil
theorem OutA.later {σ : L2.St} {F H F1 H1 : Hp} {x : R (List D)} {Q : List V → Hp → Prop} (o : OutA C σ F H x Q) (e : Ext F H F1 H1) : OutA C σ F1 H1 x Q := by
  cases x with
  | ok d => exact fun v F' H' x s w => o v F' H' (e.trans x) s w
  | err c => exact fun F' H' x s => o F' H' (e.trans x) s
  | bad => exact o
theorem a_cons {es : List Expr} {fs : En → R (List D)} (ha : PE X e (tE C f)) (hr : PA X es (tA C fs)) (hs : starEach (e :: es) X.env = (false, eval e X.env) :: starEach es X.env := by rfl) : PA X (e :: es) (tA C (aCons f fs)) :=
  (pa_cons ha hr hs).mono fun σ H Q ⟨ρ, F, r, q⟩ => by
    refine ⟨ρ, F, r, ?_⟩
    unfold aCons at q
    cases hf : f ρ with
    | bad => rw [hf] at q; exact q
    | err c => rw [hf] at q; exact q
    | ok d =>
      rw [hf] at q
      intro v F1 H1 x1 s1 w1
      refine ⟨ρ, F1, r.grow x1 s1, ?_⟩
      have q := OutA.later q x1
      rw [bd_ok] at q
      cases hg : fs ρ with
      | bad => rw [hg] at q; exact q
      | err c => rw [hg] at q; exact q
      | ok ds =>
        rw [hg] at q
        exact fun vs F2 H2 x2 s2 w2 => q (v :: vs) F2 H2 x2 s2 (.cons (w1.mono x2.f) w2)
theorem out_args {σ : L2.St} {ρ : En} {F H : Hp} {fs : En → R (List D)} {w : List D → R D} {W : Hp → Hp → D → V → Prop} {Q : VK} {Q' : List V → Hp → Prop} (r : Rel C ρ σ F H) (q : Out C σ F H W (bd (fs ρ) w) Q)
    (h : ∀ ds vs F' H', fs ρ = .ok ds → Out C σ F' H' W (w ds) Q → Ext F H F' H' → Same F' H' → Reps C.K F' ds vs → Q' vs H') : tA C fs σ H Q' := by
  refine ⟨ρ, F, r, ?_⟩
  cases hf : fs ρ with
  | bad => rw [hf] at q; exact q
  | err c => rw [hf] at q; exact q
  | ok ds =>
    rw [hf] at q
    exact fun vs F1 H1 x1 s1 w1 => h ds vs F1 H1 hf (Out.later q x1) x1 s1 w1
def small (n : Nat) : Bool := decide (n ≤ sizeLine)
def mkTup (ds : List D) : R D := grd (small ds.length) (.ok (.tup ds))
def mkLst (ds : List D) : R D := grd (small ds.length) (.ok (.lst ds))
theorem grd_out {σ : L2.St} {F H : Hp} {W : Hp → Hp → D → V → Prop} {Q : VK} {c : Bool} {x : R D} (o : Out C σ F H W (grd c x) Q) : c = true ∧ Out C σ F H W x Q := by
  cases c with
  | true => exact ⟨rfl, o⟩
  | false => exact o.elim
theorem Ext.new {F H : Hp} {p : Addr} (s : Same F H) (n : H p = none) (o : HO) : Ext F H (upd F p o) (upd H p o) :=
  ⟨same_upd (s.free n), same_upd n, fun b u h => by
    by_cases hb : b = p
    · subst hb; exact .inr n
    · rw [upd_ne hb] at h; exact .inl h⟩
theorem Ext.newH {F H : Hp} {p : Addr} (n : H p = none) (o : HO) : Ext F H F (upd H p o) := Ext.heap (same_upd n)
theorem fin_tup {σ : L2.St} {F H : Hp} {K' : Hp} {ds : List D} {vs : List V} {Q : VK} {p : Addr} (q : Out C σ F H (fun F' H' => New C.K K' F' H') (.ok (.tup ds)) Q) (s : Same F H) (r : Reps C.K F ds vs) (n : H p = none) : Q (.ref p) (upd H p (.tup vs)) :=
  q (.ref p) (upd F p (.tup vs)) _ (Ext.new s n _) (same_settle (same_upd2 s (s.free n)) upd_same) (.tup upd_same (r.mono (same_upd (s.free n))))
theorem fin_lst {σ : L2.St} {F H : Hp} {K' : Hp} {ds : List D} {vs : List V} {Q : VK} {p : Addr} (q : Out C σ F H (fun F' H' => New C.K K' F' H') (.ok (.lst ds)) Q) (s : Same F H) (k : Same K' H) (r : Reps C.K F ds vs) (n : H p = none) : Q (.ref p) (upd H p (.lst vs)) :=
  q (.ref p) F _ (Ext.newH n _) (same_upd2 s (s.free n)) ⟨p, rfl, k.free n, s.free n, vs, upd_same, r⟩
theorem fin_flat {σ : L2.St} {F H : Hp} {K' : Hp} {d : D} {v : V} {Q : VK} (q : Out C σ F H (fun F' H' => New C.K K' F' H') (.ok d) Q) (s : Same F H) (hd : flatD d = some v) : Q v H := by
  refine q v F H (Ext.refl _ _) s ?_
  cases d with
  | non => cases hd; exact .non
  | bl b => cases hd; exact .bl b
  | int b => cases hd; exact .int b
  | str b => cases hd; exact .str b
  | _ => exact nomatch hd
theorem d_tup {es : List Expr} {fs : En → R (List D)} {x1 : Nat} (ha : PA X es (tA C fs)) : PE X (.Tuple es x1 pos) (tO C (nop fs mkTup)) :=
  (pe_tup ha).mono fun σ H Q ⟨ρ, F, r, q⟩ => by
    refine out_args r q fun ds vs F' H' hd q x s rp => ?_
    obtain ⟨z, q⟩ := grd_out q
    exact ⟨by rw [rp.length]; exact of_decide_eq_true z, fun p hp => fin_tup q s rp hp⟩
theorem d_lst {es : List Expr} {fs : En → R (List D)} (ha : PA X es (tA C fs)) : PE X (.List es pos) (tO C (nop fs mkLst)) :=
  (pe_lst ha).mono fun σ H Q ⟨ρ, F, r, q⟩ => by
    refine out_args r q fun ds vs F' H' hd q x s rp => ?_
    obtain ⟨z, q⟩ := grd_out q
    exact ⟨by rw [rp.length]; exact of_decide_eq_true z, fun p hp => fin_lst q s x.h rp hp⟩
theorem OpR.or {f : Value → Value → Sem Value} {r r' : R2} (h : OpR X f r) (h' : OpR X f r') : OpR X f (fun x y H Q => r x y H Q ∨ r' x y H Q) := by
  intro pins s σ H x y v u Q I rx ry q
  rcases q with q | q
  · exact h pins s σ H x y v u Q I rx ry q
  · exact h' pins s σ H x y v u Q I rx ry q
def dAdd : D → D → R D
  | .int i, .int j => .ok (.int (i + j))
  | .str x, .str y => grd (small (x.length + y.length)) (.ok (.str (x ++ y)))
  | .lst xs, .lst ys => grd (small (xs.length + ys.length)) (.ok (.lst (xs ++ ys)))
  | .tup xs, .tup ys => grd (small (xs.length + ys.length) && !xs.isEmpty && !ys.isEmpty) (.ok (.tup (xs ++ ys)))
  | _, _ => .bad
theorem rAdd_ok : Op2 C (fun x y H Q => rI0 (fun i j => .int (i + j)) x y H Q ∨ (∃ i j, x = .str i ∧ y = .str j ∧ i.length + j.length ≤ sizeLine ∧ Q (.str (i ++ j)) H) ∨ rCat x y H Q ∨ rCatT C.K x y H Q) dAdd := by
  intro σ F H Q d e x y o s w1 w2
  unfold dAdd at o
  split at o
  · cases w1; cases w2
    exact .inl ⟨_, _, rfl, rfl, fin_flat o s rfl⟩
  · cases w1; cases w2
    obtain ⟨z, o⟩ := grd_out o
    exact .inr (.inl ⟨_, _, rfl, rfl, of_decide_eq_true z, fin_flat o s rfl⟩)
  · obtain ⟨z, o⟩ := grd_out o
    obtain ⟨a, vs, rfl, h1, r1⟩ := w1
    obtain ⟨a', vs', rfl, h2, r2⟩ := w2
    exact .inr (.inr (.inl ⟨a, a', vs, vs', rfl, rfl, h1, h2, by rw [r1.length, r2.length]; exact of_decide_eq_true z, fun p hp => fin_lst o s (Same.refl _) (r1.append r2) hp⟩))
  · obtain ⟨z, o⟩ := grd_out o
    obtain ⟨a, vs, rfl, h1, r1⟩ := w1
    obtain ⟨a', vs', rfl, h2, r2⟩ := w2
    rename_i xs ys
    simp only [Bool.and_eq_true, Bool.not_eq_true', List.isEmpty_eq_false_iff] at z
    obtain ⟨⟨z1, z2⟩, z3⟩ := z
    have e1 := r1.length
    have e2 := r2.length
    refine .inr (.inr (.inr ⟨a, a', vs, vs', rfl, rfl, SqT.of h1, SqT.of h2, ?_, by rw [r1.length, r2.length]; exact of_decide_eq_true z1, fun h => ?_, fun _ p hp => fin_tup o s (r1.append r2) hp⟩))
    · rintro rfl
      exact z2 (List.eq_nil_of_length_eq_zero e1.symm)
    · subst h
      exact absurd (List.eq_nil_of_length_eq_zero e2.symm) z3
  · exact o.elim
theorem d_add (hC : X.K = C.K.fr) (ha : PE X a (tR C f)) (hb : PE X b (tR C g)) : PE X (.BinOp a .Add b pos) (tO C (bop f g dAdd)) :=
  d_op (OpR.or op_add (OpR.or op_add_str (OpR.or op_cat (hC ▸ op_catT)))) rAdd_ok ha hb
def dSub : D → D → R D
  | .int i, .int j => .ok (.int (i - j))
  | _, _ => .bad
def dMod : D → D → R D
  | .int i, .int j => grd (decide (0 < j)) (.ok (.int (i % j)))
  | _, _ => .bad
def dDiv : D → D → R D
  | .int i, .int j => grd (decide (0 < j) && decide (j.natAbs.log2 < 9000)) (.ok (.int (i / j)))
  | _, _ => .bad
def dPow : D → D → R D
  | .int i, .int j => grd (decide (0 ≤ j) && decide (j ≤ 1000000) && decide (i.natAbs < 2 ^ 64)) (.ok (.int (i ^ j.toNat)))
  | _, _ => .bad
def dShr : D → D → R D
  | .int i, .int j => grd (decide (0 ≤ j)) (.ok (.int (i / 2 ^ j.toNat)))
  | _, _ => .bad
def dMul : D → D → R D
  | .int i, .int j => grd (decide (i.natAbs.log2 + j.natAbs.log2 < 1000000) || decide (i.natAbs < 2 ^ 64) || decide (j.natAbs < 2 ^ 64)) (.ok (.int (i * j)))
  | .lst xs, .int k => grd (decide (-(2 ^ 63) ≤ k) && decide (k < 2 ^ 63) && small (xs.length * k.toNat)) (.ok (.lst (List.replicate k.toNat xs).flatten))
  | _, _ => .bad
theorem d_sub (ha : PE X a (tR C f)) (hb : PE X b (tR C g)) : PE X (.BinOp a .Sub b pos) (tO C (bop f g dSub)) :=
  d_op op_sub (by
    intro σ F H Q d e x y o s w1 w2
    unfold dSub at o
    split at o
    · cases w1; cases w2; exact ⟨_, _, rfl, rfl, fin_flat o s rfl⟩
    · exact o.elim) ha hb
theorem d_mod (ha : PE X a (tR C f)) (hb : PE X b (tR C g)) : PE X (.BinOp a .Mod b pos) (tO C (bop f g dMod)) :=
  d_op op_mod (by
    intro σ F H Q d e x y o s w1 w2
    unfold dMod at o
    split at o
    · cases w1; cases w2
      obtain ⟨z, o⟩ := grd_out o
      exact ⟨_, _, rfl, rfl, of_decide_eq_true z, fin_flat o s rfl⟩
    · exact o.elim) ha hb
theorem d_div (ha : PE X a (tR C f)) (hb : PE X b (tR C g)) : PE X (.BinOp a .FloorDiv b pos) (tO C (bop f g dDiv)) :=
  d_op op_fdivW (by
    intro σ F H Q d e x y o s w1 w2
    unfold dDiv at o
    split at o
    · cases w1; cases w2
      obtain ⟨z, o⟩ := grd_out o
      rw [Bool.and_eq_true] at z
      exact ⟨_, _, rfl, rfl, ⟨of_decide_eq_true z.1, of_decide_eq_true z.2⟩, fin_flat o s rfl⟩
    · exact o.elim) ha hb
theorem d_pow (ha : PE X a (tR C f)) (hb : PE X b (tR C g)) : PE X (.BinOp a .Pow b pos) (tO C (bop f g dPow)) :=
  d_op op_pow (by
    intro σ F H Q d e x y o s w1 w2
    unfold dPow at o
    split at o
    · cases w1; cases w2
      obtain ⟨z, o⟩ := grd_out o
      rw [Bool.and_eq_true, Bool.and_eq_true] at z
      exact ⟨_, _, rfl, rfl, ⟨of_decide_eq_true z.1.1, of_decide_eq_true z.1.2, of_decide_eq_true z.2⟩, fin_flat o s rfl⟩
    · exact o.elim) ha hb
theorem d_shr (ha : PE X a (tR C f)) (hb : PE X b (tR C g)) : PE X (.BinOp a .RShift b pos) (tO C (bop f g dShr)) :=
  d_op op_shr (by
    intro σ F H Q d e x y o s w1 w2
    unfold dShr at o
    split at o
    · cases w1; cases w2
      obtain ⟨z, o⟩ := grd_out o
      exact ⟨_, _, rfl, rfl, of_decide_eq_true z, fin_flat o s rfl⟩
    · exact o.elim) ha hb
theorem Reps.flat {K : Kx} {F : Hp} {ds : List D} {vs : List V} (r : Reps K F ds vs) : ∀ n : Nat, Reps K F (List.replicate n ds).flatten (List.replicate n vs).flatten
  | 0 => .nil
  | n + 1 => by
    rw [List.replicate_succ, List.replicate_succ, List.flatten_cons, List.flatten_cons]
    exact r.append (Reps.flat r n)
theorem d_mul (ha : PE X a (tR C f)) (hb : PE X b (tR C g)) : PE X (.BinOp a .Mult b pos) (tO C (bop f g dMul)) :=
  d_op (OpR.or op_mulW (OpR.or op_mul op_rep)) (by
    intro σ F H Q d e x y o s w1 w2
    unfold dMul at o
    split at o
    · cases w1; cases w2
      obtain ⟨z, o⟩ := grd_out o
      rw [Bool.or_eq_true, Bool.or_eq_true] at z
      rcases z with (z | z) | z
      · exact .inl ⟨_, _, rfl, rfl, show _ < _ from of_decide_eq_true z, fin_flat o s rfl⟩
      · have z := of_decide_eq_true z
        exact .inr (.inl ⟨_, _, rfl, rfl, .inl ⟨by omega, by omega⟩, fin_flat o s rfl⟩)
      · have z := of_decide_eq_true z
        exact .inr (.inl ⟨_, _, rfl, rfl, .inr ⟨by omega, by omega⟩, fin_flat o s rfl⟩)
    · obtain ⟨z, o⟩ := grd_out o
      obtain ⟨a, vs, rfl, h1, r1⟩ := w1
      cases w2
      rw [Bool.and_eq_true, Bool.and_eq_true] at z
      exact .inr (.inr ⟨_, _, vs, rfl, rfl, h1, of_decide_eq_true z.1.1, of_decide_eq_true z.1.2, by rw [r1.length]; exact of_decide_eq_true z.2, fun p hp => fin_lst o s (Same.refl _) (r1.flat _) hp⟩)
    · exact o.elim) ha hb
def dNeg : D → R D
  | .int i => .ok (.int (-i))
  | _ => .bad
def Op1 (C : Cd) (r : V → Hp → VK → Prop) (w : D → R D) : Prop :=
  ∀ σ F H Q d x, Out C σ F H (fun F' H' => New C.K H F' H') (w d) Q → Same F H → View C.K F H d x → r x H Q
theorem one {r : V → Hp → VK → Prop} {w : D → R D} (hr : Op1 C r w) : ∀ σ H Q, tO C (fun ρ => bd (f ρ) w) σ H Q → tR C f σ H fun x H1 => r x H1 Q := by
  rintro σ H Q ⟨ρ, F, rl, q⟩
  refine ⟨ρ, F, rl, q.fst fun d v F1 H1 _ q x1 s1 p1 => ?_⟩
  exact hr σ F1 H1 Q d v ((q.later x1).imp fun d v F' H' _ x s w k => k v F' H' x s (w.later x1.h)) s1 p1
theorem d_neg (ha : PE X a (tR C f)) : PE X (.UnaryOp .USub a pos) (tO C (uop f dNeg)) :=
  (pe_un un_neg ha).mono (one (by
    intro σ F H Q d x o s w
    cases d with
    | int i => cases w; exact ⟨i, rfl, fin_flat o s rfl⟩
    | _ => exact o.elim))
mutual
def py : D → Option PyData
  | .non => some .none
  | .bl b => some (.bool b)
  | .int i => some (.int i)
  | .str x => some (.str x)
  | .lst ds => (pys ds).map .list
  | .tup ds => (pys ds).map .tuple
  | .scr ns => some (.list (ns.map .int))
  | .dK _ => none
  | .dT _ => none
  | .ref _ => none
  | .exn _ => none
  | .deep _ => none
  | .obj _ => none
  | .junk _ => none
  | .rows ds => (pys ds).map .list
def pys : List D → Option (List PyData)
  | [] => some []
  | d :: ds => (py d).bind fun p => (pys ds).map fun ps => p :: ps
end
theorem dp_ints {K : Kx} {H : Hp} : ∀ ns : List Int, DpAll K H (ns.map V.int) (ns.map PyData.int)
  | [] => .nil
  | n :: ns => .cons (.int n) (dp_ints ns)
mutual
theorem Rep.dp {K : Kx} {F H : Hp} (s : Same F H) : ∀ {d : D} {v : V} {p : PyData}, Rep K F d v → py d = some p → Dp K H v p
  | _, _, _, .non, e => by cases e; exact .non
  | _, _, _, .bl b, e => by cases e; exact .bl b
  | _, _, _, .int b, e => by cases e; exact .int b
  | _, _, _, .str b, e => by cases e; exact .str b
  | _, _, _, .lst (ds := ds) q r, e => by
    unfold py at e
    cases h : pys ds with
    | none => rw [h] at e; cases e
    | some ps => rw [h] at e; cases e; exact .lst (.inl (.inl (s _ _ q))) (Reps.dp s r h)
  | _, _, _, .tup (ds := ds) q r, e => by
    unfold py at e
    cases h : pys ds with
    | none => rw [h] at e; cases e
    | some ps => rw [h] at e; cases e; exact .tup (SqT.of (s _ _ q)) (Reps.dp s r h)
  | _, _, _, .scr (ns := ns) q, e => by cases e; exact .lst (s.seq q) (dp_ints ns)
  | _, _, _, .dK _ _, e => nomatch e
  | _, _, _, .dT _ _, e => nomatch e
  | _, _, _, .ref _, e => nomatch e
  | _, _, _, .deep _ _, e => nomatch e
  | _, _, _, .obj _, e => nomatch e
  | _, _, _, .rows (ds := ds) q r, e => by
    unfold py at e
    cases h : pys ds with
    | none => rw [h] at e; cases e
    | some ps => rw [h] at e; cases e; exact .lst (.inl (.inl (s _ _ q))) (Reps.dp s r h)
theorem Reps.dp {K : Kx} {F H : Hp} (s : Same F H) : ∀ {ds : List D} {vs : List V} {ps : List PyData}, Reps K F ds vs → pys ds = some ps → DpAll K H vs ps
  | _, _, _, .nil, e => by cases e; exact .nil
  | _, _, _, .cons (d := d) (ds := ds) r t, e => by
    unfold pys at e
    cases h : py d with
    | none => rw [h] at e; cases e
    | some p =>
      rw [h] at e
      cases h2 : pys ds with
      | none => rw [h2] at e; cases e
      | some ps => rw [h2] at e; cases e; exact .cons (Rep.dp s r h) (Reps.dp s t h2)
end
theorem RowsAt.dp {K : Kx} {F H : Hp} (s : Same F H) : ∀ {rs : List D} {vs : List V} {ps : List PyData}, RowsAt K F H rs vs → pys rs = some ps → DpAll K H vs ps
  | _, _, _, .nil, e => by cases e; exact .nil
  | _, _, _, .cons (xs := xs) (rs := rs) q r t, e => by
    unfold pys at e
    cases h : py (.lst xs) with
    | none => rw [h] at e; cases e
    | some p =>
      rw [h] at e
      cases h2 : pys rs with
      | none => rw [h2] at e; cases e
      | some ps =>
        rw [h2] at e; cases e
        refine .cons ?_ (RowsAt.dp s t h2)
        unfold py at h
        cases h3 : pys xs with
        | none => rw [h3] at h; cases h
        | some qs => rw [h3] at h; cases h; exact .lst (.inl (.inl q)) (Reps.dp s r h3)
theorem View.dp {K : Kx} {F H : Hp} (s : Same F H) {d : D} {v : V} {p : PyData} (w : View K F H d v) (e : py d = some p) : Dp K H v p := by
  cases d with
  | non => cases w; cases e; exact .non
  | bl b => cases w; cases e; exact .bl b
  | int b => cases w; cases e; exact .int b
  | str b => cases w; cases e; exact .str b
  | lst ds =>
    obtain ⟨a, vs, rfl, q, r⟩ := w
    unfold py at e
    cases h : pys ds with
    | none => rw [h] at e; cases e
    | some ps => rw [h] at e; cases e; exact .lst (.inl (.inl q)) (Reps.dp s r h)
  | tup ds =>
    obtain ⟨a, vs, rfl, q, r⟩ := w
    unfold py at e
    cases h : pys ds with
    | none => rw [h] at e; cases e
    | some ps => rw [h] at e; cases e; exact .tup (SqT.of q) (Reps.dp s r h)
  | scr ns => obtain ⟨a, rfl, q⟩ := w; cases e; exact .lst q (dp_ints ns)
  | rows ds =>
    obtain ⟨a, vs, rfl, q, r⟩ := w
    unfold py at e
    cases h : pys ds with
    | none => rw [h] at e; cases e
    | some ps =>
      rw [h] at e; cases e
      rcases r with r | r
      · exact .lst (.inl (.inl q)) (Reps.dp s r h)
      · exact .lst (.inl (.inl q)) (RowsAt.dp s r h)
  | _ => exact nomatch e
def deepEq (neg : Bool) (a b : D) : R D := match py a, py b with
  | some p, some q => grd (SeqAt.shaped p && SeqAt.shaped q) (.ok (.bl (if neg then !PyData.eqv p q else PyData.eqv p q)))
  | _, _ => .bad
def xorB (neg b : Bool) : Bool := if neg then !b else b
@[simp] theorem xorB_f (b : Bool) : xorB false b = b := rfl
@[simp] theorem xorB_t (b : Bool) : xorB true b = !b := rfl
def dEq (neg : Bool) : D → D → R D
  | .int i, .int j => .ok (.bl (xorB neg (decide (i = j))))
  | .str i, .str j => .ok (.bl (xorB neg (decide (i = j))))
  | .bl i, .bl j => .ok (.bl (xorB neg (decide (i = j))))
  | .int _, .str _ => .ok (.bl (xorB neg false))
  | .str _, .int _ => .ok (.bl (xorB neg false))
  | .non, .int _ => .ok (.bl (xorB neg false))
  | .int _, .non => .ok (.bl (xorB neg false))
  | .non, .str _ => .ok (.bl (xorB neg false))
  | .str _, .non => .ok (.bl (xorB neg false))
  | a, b => deepEq neg a b
theorem rEq_ok : Op2 C (fun x y H Q => rEq x y H Q ∨ rEqD C.K x y H Q) (dEq false) := by
  intro σ F H Q d e x y o s w1 w2
  unfold dEq at o
  split at o
  · cases w1; cases w2; exact .inl ⟨rfl, by have := fin_flat o s rfl; simpa using this⟩
  · cases w1; cases w2; exact .inl ⟨rfl, by have := fin_flat o s rfl; simpa using this⟩
  · cases w1; cases w2; exact .inl ⟨rfl, by have := fin_flat o s rfl; simpa using this⟩
  · cases w1; cases w2; exact .inl ⟨rfl, by have := fin_flat o s rfl; simpa using this⟩
  · cases w1; cases w2; exact .inl ⟨rfl, by have := fin_flat o s rfl; simpa using this⟩
  · cases w1; cases w2; exact .inl ⟨rfl, by have := fin_flat o s rfl; simpa using this⟩
  · cases w1; cases w2; exact .inl ⟨rfl, by have := fin_flat o s rfl; simpa using this⟩
  · cases w1; cases w2; exact .inl ⟨rfl, by have := fin_flat o s rfl; simpa using this⟩
  · cases w1; cases w2; exact .inl ⟨rfl, by have := fin_flat o s rfl; simpa using this⟩
  · unfold deepEq at o
    split at o
    · rename_i p q hp hq
      obtain ⟨z, o⟩ := grd_out o
      rw [Bool.and_eq_true] at z
      exact .inr ⟨p, q, w1.dp s hp, w2.dp s hq, z.1, z.2, fin_flat o s rfl⟩
    · exact o.elim
theorem rNe_ok : Op2 C (fun x y H Q => rNe x y H Q ∨ rNeD C.K x y H Q) (dEq true) := by
  intro σ F H Q d e x y o s w1 w2
  unfold dEq at o
  split at o
  · cases w1; cases w2; exact .inl ⟨rfl, by have := fin_flat o s rfl; simpa using this⟩
  · cases w1; cases w2; exact .inl ⟨rfl, by have := fin_flat o s rfl; simpa using this⟩
  · cases w1; cases w2; exact .inl ⟨rfl, by have := fin_flat o s rfl; simpa using this⟩
  · cases w1; cases w2; exact .inl ⟨rfl, by have := fin_flat o s rfl; simpa using this⟩
  · cases w1; cases w2; exact .inl ⟨rfl, by have := fin_flat o s rfl; simpa using this⟩
  · cases w1; cases w2; exact .inl ⟨rfl, by have := fin_flat o s rfl; simpa using this⟩
  · cases w1; cases w2; exact .inl ⟨rfl, by have := fin_flat o s rfl; simpa using this⟩
  · cases w1; cases w2; exact .inl ⟨rfl, by have := fin_flat o s rfl; simpa using this⟩
  · cases w1; cases w2; exact .inl ⟨rfl, by have := fin_flat o s rfl; simpa using this⟩
  · unfold deepEq at o
    split at o
    · rename_i p q hp hq
      obtain ⟨z, o⟩ := grd_out o
      rw [Bool.and_eq_true] at z
      exact .inr ⟨p, q, w1.dp s hp, w2.dp s hq, z.1, z.2, fin_flat o s rfl⟩
    · exact o.elim
def dLt : D → D → R D
  | .int i, .int j => .ok (.bl (decide (i < j)))
  | .str i, .str j => .ok (.bl (decide (i.cps.toList < j.cps.toList)))
  | _, _ => .bad
def dLe : D → D → R D
  | .int i, .int j => .ok (.bl (decide (i ≤ j)))
  | .str i, .str j => .ok (.bl (!decide (j.cps.toList < i.cps.toList)))
  | _, _ => .bad
def dGt : D → D → R D
  | .int i, .int j => .ok (.bl (decide (j < i)))
  | .str i, .str j => .ok (.bl (decide (j.cps.toList < i.cps.toList)))
  | _, _ => .bad
def dGe : D → D → R D
  | .int i, .int j => .ok (.bl (decide (j ≤ i)))
  | .str i, .str j => .ok (.bl (!decide (i.cps.toList < j.cps.toList)))
  | _, _ => .bad
theorem rLt_ok : Op2 C (fun x y H Q => rI0 (fun i j => .bl (decide (i < j))) x y H Q ∨ (∃ i j, x = .str i ∧ y = .str j ∧ Q (.bl (decide (i.cps.toList < j.cps.toList))) H)) dLt := by
  intro σ F H Q d e x y o s w1 w2
  unfold dLt at o
  split at o
  · cases w1; cases w2; exact .inl ⟨_, _, rfl, rfl, fin_flat o s rfl⟩
  · cases w1; cases w2; exact .inr ⟨_, _, rfl, rfl, fin_flat o s rfl⟩
  · exact o.elim
theorem rLe_ok : Op2 C (fun x y H Q => rI0 (fun i j => .bl (decide (i ≤ j))) x y H Q ∨ (∃ i j, x = .str i ∧ y = .str j ∧ Q (.bl (!decide (j.cps.toList < i.cps.toList))) H)) dLe := by
  intro σ F H Q d e x y o s w1 w2
  unfold dLe at o
  split at o
  · cases w1; cases w2; exact .inl ⟨_, _, rfl, rfl, fin_flat o s rfl⟩
  · cases w1; cases w2; exact .inr ⟨_, _, rfl, rfl, fin_flat o s rfl⟩
  · exact o.elim
theorem rGt_ok : Op2 C (fun x y H Q => rI0 (fun i j => .bl (decide (j < i))) x y H Q ∨ (∃ i j, x = .str i ∧ y = .str j ∧ Q (.bl (decide (j.cps.toList < i.cps.toList))) H)) dGt := by
  intro σ F H Q d e x y o s w1 w2
  unfold dGt at o
  split at o
  · cases w1; cases w2; exact .inl ⟨_, _, rfl, rfl, fin_flat o s rfl⟩
  · cases w1; cases w2; exact .inr ⟨_, _, rfl, rfl, fin_flat o s rfl⟩
  · exact o.elim
def isN : D → Bool
  | .non => true
  | _ => false
def dIsN (neg : Bool) : D → D → R D
  | d, .non => .ok (.bl (xorB neg (isN d)))
  | .bl a, .bl b => .ok (.bl (xorB neg (decide (a = b))))
  | _, _ => .bad
theorem View.non {K : Kx} {F H : Hp} {d : D} {v : V} (w : View K F H d v) : decide (v = .non) = isN d := by
  cases d with
  | non => cases w; rfl
  | bl b => cases w; rfl
  | int b => cases w; rfl
  | str b => cases w; rfl
  | ref b => cases w; rfl
  | exn c => obtain ⟨a, C, rfl, _⟩ := w; rfl
  | deep d => obtain ⟨a, rfl⟩ := w; rfl
  | obj d => obtain ⟨a, rfl, _⟩ := w; rfl
  | junk n => exact w.elim
  | lst ds => obtain ⟨a, vs, rfl, _⟩ := w; rfl
  | tup ds => obtain ⟨a, vs, rfl, _⟩ := w; rfl
  | dK ds => obtain ⟨a, vs, rfl, _⟩ := w; rfl
  | dT ds => obtain ⟨a, vs, rfl, _⟩ := w; rfl
  | scr ds => obtain ⟨a, rfl, _⟩ := w; rfl
  | rows ds => obtain ⟨a, vs, rfl, _⟩ := w; rfl
theorem rNotN_ok : Op2 C (fun x y H Q => (y = .non ∧ Q (.bl (!decide (x = .non))) H) ∨ rNotB x y H Q) (dIsN true) := by
  intro σ F H Q d e x y o s w1 w2
  unfold dIsN at o
  split at o
  · cases w2
    refine .inl ⟨rfl, ?_⟩
    rw [w1.non]
    exact fin_flat o s rfl
  · cases w1; cases w2
    exact .inr ⟨_, _, rfl, rfl, fin_flat o s rfl⟩
  · exact o.elim
def asB : D → R Bool
  | .bl b => .ok b
  | _ => .bad
theorem t_to_o {σ : L2.St} {H : Hp} {Q : Bool → Hp → Prop} (h : tT C (fun ρ => bd (f ρ) asB) σ H Q) : tO C f σ H (fun x H' => ∃ k, x = .bl k ∧ Q k H') := by
  obtain ⟨ρ, F, r, q⟩ := h
  refine ⟨ρ, F, r, ?_⟩
  cases hf : f ρ with
  | bad => simp only [hf, bd_bad] at q; exact q
  | err c => simp only [hf, bd_err] at q; exact q
  | ok d =>
    simp only [hf, bd_ok] at q
    intro v F' H' x s w
    unfold asB at q
    split at q
    · cases w
      exact ⟨_, rfl, q F' H' x s⟩
    · exact q.elim
theorem dt_cmp {op : CmpOp} {r : R2} {w : D → D → R D} (ho : OpR X (compareOp op) r) (hr : Op2 C r w) (hm : behindInMarks op b = false) (ha : PE X a (tR C f)) (hb : PE X b (tR C g)) :
    PT X (.Compare a [op] [b] pos) (tT C (fun ρ => bd (bd (f ρ) fun d => bd (g ρ) fun e => w d e) asB)) :=
  (pt_cmpR ho ha hb hm).mono fun σ H Q h => two hr σ H _ (t_to_o h)
theorem dt_truth (ha : PE X a (tO C f)) (he : ∀ whole, isTrue a X.env whole = (do let v ← whole; standAt a.pos; holding [v] (truthy v)) := by intro _; rfl) : PT X a (tT C (fun ρ => bd (f ρ) asB)) :=
  (pt_val ha he).mono fun σ H Q h => t_to_o h
end
end DL
namespace DL
open PySem PySem.Spec PyProof.Rows L2
section
variable {X : Cx} {C : Cd} {e a b c : Expr} {f g k : En → R D} {pos : Pos} {ft gt : En → R Bool}
theorem OutT.later {σ : L2.St} {F H F1 H1 : Hp} {x : R Bool} {Q : Bool → Hp → Prop} (o : OutT C σ F H x Q) (e : Ext F H F1 H1) : OutT C σ F1 H1 x Q := by
  cases x with
  | ok d => exact fun F' H' x s => o F' H' (e.trans x) s
  | err c => exact fun F' H' x s => o F' H' (e.trans x) s
  | bad => exact o
theorem OutT.fst {α : Type} {σ : L2.St} {F H : Hp} {x : R Bool} {kk : Bool → R Bool} {Q Q' : Bool → Hp → Prop} (o : OutT C σ F H (bd x kk) Q) (h : ∀ d F' H', x = .ok d → OutT C σ F' H' (kk d) Q → Ext F H F' H' → Same F' H' → Q' d H') : OutT C σ F H x Q' := by
  cases x with
  | ok d => exact fun F' H' x s => h d F' H' rfl (OutT.later o x) x s
  | err c => exact o
  | bad => exact o
def bAnd (f g : En → R Bool) : En → R Bool := fun ρ => bd (f ρ) fun c => if c = true then g ρ else .ok false
def bOr (f g : En → R Bool) : En → R Bool := fun ρ => bd (f ρ) fun c => if c = true then .ok true else g ρ
def bNot (f : En → R Bool) : En → R Bool := fun ρ => bd (f ρ) fun c => .ok (!c)
theorem t_not (h : PT X a (tT C ft)) : PT X (.UnaryOp .Not a pos) (tT C (bNot ft)) := (pt_not h).mono fun σ H Q ⟨ρ, F, r, q⟩ =>
  ⟨ρ, F, r, OutT.fst (α := Unit) q fun d F' H' _ o x s => o F' H' (Ext.refl _ _) s⟩
theorem w_and1 (h : PT X a (tT C ft)) : PW X (.BoolOp .And [a] pos) (tT C ft) := pw_and1 h
theorem w_or1 (h : PT X a (tT C ft)) : PW X (.BoolOp .Or [a] pos) (tT C ft) := pw_or1 h
theorem w_and {rest : List Expr} (ha : PT X a (tT C ft)) (hb : PW X (.BoolOp .And (b :: rest) pos) (tT C gt)) : PW X (.BoolOp .And (a :: b :: rest) pos) (tT C (bAnd ft gt)) :=
  (pw_and ha hb).mono fun σ H Q ⟨ρ, F, r, q⟩ => ⟨ρ, F, r, OutT.fst (α := Unit) q fun d F' H' _ o x s => by
    cases d with
    | true => rw [if_pos rfl]; exact ⟨ρ, F', r.grow x s, o⟩
    | false => rw [if_neg Bool.false_ne_true]; exact o F' H' (Ext.refl _ _) s⟩
theorem w_or {rest : List Expr} (ha : PT X a (tT C ft)) (hb : PW X (.BoolOp .Or (b :: rest) pos) (tT C gt)) : PW X (.BoolOp .Or (a :: b :: rest) pos) (tT C (bOr ft gt)) :=
  (pw_or ha hb).mono fun σ H Q ⟨ρ, F, r, q⟩ => ⟨ρ, F, r, OutT.fst (α := Unit) q fun d F' H' _ o x s => by
    cases d with
    | true => rw [if_pos rfl]; exact o F' H' (Ext.refl _ _) s
    | false => rw [if_neg Bool.false_ne_true]; exact ⟨ρ, F', r.grow x s, o⟩⟩
theorem t_w (h : PW X a (tT C ft)) : PT X a (tT C ft) := h.pt
def eAnd (f g : En → R D) : En → R D := fun ρ => bd (f ρ) fun c => match c with | .bl true => g ρ | .bl false => .ok (.bl false) | _ => .bad
def eOr (f g : En → R D) : En → R D := fun ρ => bd (f ρ) fun c => match c with | .bl true => .ok (.bl true) | .bl false => g ρ | _ => .bad
def eNot : D → R D
  | .bl b => .ok (.bl (!b))
  | _ => .bad
theorem Out.newer {σ : L2.St} {H F1 H1 : Hp} {x : R D} {Q : VK} (o : Out C σ F1 H1 (fun F' H' => New C.K H F' H') x Q) (s : Same H H1) : Out C σ F1 H1 (fun F' H' => New C.K H1 F' H') x Q :=
  o.imp fun d v F' H' _ x s' w k => k v F' H' x s' (w.later s)
theorem d_not (ha : PE X a (tO C f)) : PE X (.UnaryOp .Not a pos) (tO C (uop f eNot)) := (pe_not ha).mono fun σ H Q ⟨ρ, F, r, q⟩ => ⟨ρ, F, r, q.fst fun d v F' H' _ o x s w => by
    have o := o.later x
    cases d with
    | bl b => cases w; exact ⟨b, rfl, fin_flat o s rfl⟩
    | _ => exact o.elim⟩
theorem d_and {rest : List Expr} (ha : PE X a (tO C f)) (hb : PE X (.BoolOp .And (b :: rest) pos) (tO C g)) : PE X (.BoolOp .And (a :: b :: rest) pos) (tO C (eAnd f g)) :=
  (pe_and ha hb).mono fun σ H Q ⟨ρ, F, r, q⟩ => ⟨ρ, F, r, q.fst fun d v F' H' _ o x s w => by
    have o := o.later x
    cases d with
    | bl b =>
      cases w
      refine ⟨b, rfl, ?_⟩
      cases b with
      | true => rw [if_pos rfl]; exact ⟨ρ, F', r.grow x s, o.newer x.h⟩
      | false => rw [if_neg Bool.false_ne_true]; exact fin_flat o s rfl
    | _ => exact o.elim⟩
theorem d_one {op : BoolOp} (h : PE X a (tO C f)) : PE X (.BoolOp op [a] pos) (tO C f) := pe_one h
def eIf (t : En → R Bool) (f g : En → R D) : En → R D := fun ρ => bd (t ρ) fun c => if c = true then f ρ else g ρ
def eChain (w w' : D → D → R D) (f g k : En → R D) : En → R D := fun ρ => bd (f ρ) fun x => bd (g ρ) fun y => bd (w x y) fun z => match z with
  | .bl true => bd (k ρ) fun u => w' y u
  | .bl false => .ok (.bl false)
  | _ => .bad
theorem chain_ok {r r' : R2} {w w' : D → D → R D} (hr : Op2 C r w) (hr' : Op2 C r' w') : ∀ σ H Q, tO C (eChain w w' f g k) σ H Q → tChain r r' (tR C f) (tR C g) (tR C k) σ H Q := by
  rintro σ H Q ⟨ρ, F, rl, q⟩
  refine ⟨ρ, F, rl, q.fst fun d v F1 H1 _ q x1 s1 p1 => ?_⟩
  refine ⟨ρ, F1, rl.grow x1 s1, ?_⟩
  refine (q.later x1).fst fun e y F2 H2 _ q x2 s2 p2 => ?_
  have q2 := q.later x2
  have x12 := x1.trans x2
  refine hr σ F2 H2 _ d e v y ?_ s2 (p1.mono x2.f x2.h) p2
  refine q2.fst fun z vz F3 H3 _ q x3 s3 p3 => ?_
  have q3 := q.later x3
  cases z with
  | bl b =>
    cases p3
    refine ⟨b, rfl, ?_⟩
    cases b with
    | true =>
      rw [if_pos rfl]
      refine ⟨ρ, F3, (rl.grow x12 s2).grow x3 s3, ?_⟩
      refine q3.fst fun u vu F4 H4 _ q x4 s4 p4 => ?_
      exact hr' σ F4 H4 Q e u y vu ((q.later x4).newer ((x12.h.trans x3.h).trans x4.h)) s4 (p2.mono (x3.f.trans x4.f) (x3.h.trans x4.h)) p4
    | false => rw [if_neg Bool.false_ne_true]; exact fin_flat q3 s3 rfl
  | _ => exact q3.elim
def dIx : D → D → R D
  | .lst ds, .int i => match atI ds i with | some d => .ok d | none => .bad
  | .tup ds, .int i => match atI ds i with | some d => .ok d | none => .bad
  | .scr ds, .int i => match atI ds i with | some d => .ok (.int d) | none => .bad
  | .str z, .int i => grd (small z.length) (match atI z.cps.toList i with | some c => .ok (.str ⟨#[c]⟩) | none => .bad)
  | _, _ => .bad
theorem Reps.atI {K : Kx} {F : Hp} {ds : List D} {vs : List V} (r : Reps K F ds vs) {i : Int} {d : D} (h : L2.atI ds i = some d) : ∃ v, L2.atI vs i = some v ∧ Rep K F d v := by
  unfold L2.atI at h ⊢
  rw [r.length]
  cases hh : ixN ds.length i with
  | none => rw [hh] at h; cases h
  | some j => rw [hh] at h; exact r.get h
theorem atI_map {α β : Type} (f : α → β) (xs : List α) (i : Int) : L2.atI (xs.map f) i = (L2.atI xs i).map f := by
  unfold L2.atI
  rw [List.length_map]
  cases ixN xs.length i with
  | none => rfl
  | some j => simp
theorem ix_ok {σ : L2.St} {F H : Hp} {Q : VK} {d e : D} {x y : V} (o : Out C σ F H (fun F' H' => Rep C.K F') (dIx d e) Q) (s : Same F H) (w1 : View C.K F H d x) (w2 : View C.K F H e y) : rIx C.K x y H Q := by
  unfold dIx at o
  split at o
  · rename_i ds i
    obtain ⟨p, vs, rfl, h, r⟩ := w1
    cases w2
    split at o
    · rename_i z hz
      obtain ⟨v, h1, h2⟩ := r.atI hz
      exact .inl ⟨p, vs, i, v, rfl, rfl, SqL.of h, h1, o v F H (Ext.refl _ _) s h2⟩
    · exact o.elim
  · rename_i ds i
    obtain ⟨p, vs, rfl, h, r⟩ := w1
    cases w2
    split at o
    · rename_i z hz
      obtain ⟨v, h1, h2⟩ := r.atI hz
      exact .inr (.inl ⟨p, vs, i, v, rfl, rfl, SqT.of h, h1, o v F H (Ext.refl _ _) s h2⟩)
    · exact o.elim
  · rename_i ds i
    obtain ⟨p, rfl, h⟩ := w1
    cases w2
    split at o
    · rename_i z hz
      refine .inl ⟨p, _, i, .int z, rfl, rfl, h, ?_, o _ F H (Ext.refl _ _) s (.int z)⟩
      rw [atI_map, hz]; rfl
    · exact o.elim
  · rename_i z i
    obtain ⟨hz, o⟩ := grd_out o
    cases w1
    cases w2
    split at o
    · rename_i c hc
      exact .inr (.inr ⟨z, i, c, rfl, rfl, of_decide_eq_true hz, hc, o _ F H (Ext.refl _ _) s (.str _)⟩)
    · exact o.elim
  · exact o.elim
def cutD {α : Type} (xs : List α) (lo hi : Option Int) : List α := (xs.drop (HT.sIx xs.length 0 lo)).take (HT.sIx xs.length xs.length hi - HT.sIx xs.length 0 lo)
theorem Reps.cut {K : Kx} {F : Hp} {ds : List D} {vs : List V} (r : Reps K F ds vs) (lo hi : Option Int) : Reps K F (cutD ds lo hi) (cutV vs lo hi) := by
  unfold cutD cutV
  rw [r.length]
  exact (r.drop _).take _
theorem cutD_map {α β : Type} (f : α → β) (xs : List α) (lo hi : Option Int) : cutD (xs.map f) lo hi = (cutD xs lo hi).map f := by
  unfold cutD
  rw [List.length_map, List.map_take, List.map_drop]
def PartOk (C : Cd) (X : Cx) (e : Option Expr) (f : En → R (Option Int)) : Prop := ∃ t : TO, PO X e t ∧ ∀ (σ : L2.St) (ρ : En) (F H : Hp) (W : Hp → Hp → D → V → Prop) (w : Option Int → R D) (Q : VK) (Q' : Option Int → Hp → Prop), Rel C ρ σ F H → Out C σ F H W (bd (f ρ) w) Q →
  (∀ o F' H', f ρ = .ok o → Out C σ F' H' W (w o) Q → Ext F H F' H' → Same F' H' → Q' o H') → t σ H Q'
def asI : D → R (Option Int)
  | .int i => .ok (some i)
  | _ => .bad
theorem part_none : PartOk C X none (fun _ => .ok none) := ⟨tNoPart, po_none, fun σ ρ F H W w Q Q' r o h => h none F H rfl o (Ext.refl _ _) r.sub⟩
theorem part_some (ha : PE X a (tO C f)) : PartOk C X (some a) (fun ρ => bd (f ρ) asI) := ⟨_, po_some ha, fun σ ρ F H W w Q Q' r o h => by
  refine ⟨ρ, F, r, ?_⟩
  cases hf : f ρ with
  | bad => simp only [hf, bd_bad, bd_err] at o; exact o
  | err c => simp only [hf, bd_bad, bd_err] at o; exact o
  | ok d =>
    simp only [hf, bd_ok] at o
    intro v F' H' x s w
    have o := o.later x
    cases d with
    | int i => cases w; exact ⟨i, rfl, h (some i) F' H' (by simp only [hf, bd_ok]; rfl) o x s⟩
    | _ => exact o.elim⟩
def pNone : En → R (Option Int) := fun _ => .ok none
def pSome (f : En → R D) : En → R (Option Int) := fun ρ => bd (f ρ) asI
def dCut : D → Option Int → Option Int → R D
  | .lst ds, lo, hi => .ok (.lst (cutD ds lo hi))
  | .scr ds, lo, hi => .ok (.lst ((cutD ds lo hi).map .int))
  | .tup ds, lo, hi => grd (!(decide (HT.sIx ds.length 0 lo = 0) && decide (HT.sIx ds.length ds.length hi = ds.length))) (.ok (.tup (cutD ds lo hi)))
  | .str z, lo, hi => grd (small z.length) (.ok (.str (cutS z lo hi)))
  | _, _, _ => .bad
def slc (f : En → R D) (fl fh : En → R (Option Int)) : En → R D := fun ρ => bd (f ρ) fun d => bd (fl ρ) fun l => bd (fh ρ) fun h => dCut d l h
theorem p_none : PartOk C X none pNone := part_none
theorem p_some (ha : PE X a (tO C f)) : PartOk C X (some a) (pSome f) := part_some ha
theorem SlR.or {r r' : V → Option Int → Option Int → Hp → VK → Prop} (h : SlR X r) (h' : SlR X r') : SlR X (fun x lo hi H Q => r x lo hi H Q ∨ r' x lo hi H Q) := by
  intro pins s σ H x v vl vu lo hi sl Q I rx hs pl pu q
  rcases q with q | q
  · exact h pins s σ H x v vl vu lo hi sl Q I rx hs pl pu q
  · exact h' pins s σ H x v vl vu lo hi sl Q I rx hs pl pu q
theorem d_slice {lo hi : Option Expr} {fl fh : En → R (Option Int)} {p2 : Pos} (hC : X.K = C.K.fr) (ha : PE X a (tR C f)) (hl : PartOk C X lo fl) (hh : PartOk C X hi fh) :
    PE X (.Subscript a (.Slice lo hi none p2) pos) (tO C (slc f fl fh)) := by
  obtain ⟨tl, pl, hl⟩ := hl
  obtain ⟨th, ph, hh⟩ := hh
  refine (pe_slice (hC ▸ SlR.or sl_list (SlR.or sl_tup sl_str)) ha pl ph).mono ?_
  rintro σ H Q ⟨ρ, F, rl, q⟩
  refine ⟨ρ, F, rl, q.fst fun d v F1 H1 _ q x1 s1 p1 => ?_⟩
  refine hl σ ρ F1 H1 _ _ Q _ (rl.grow x1 s1) (q.later x1) fun l F2 H2 _ q x2 s2 => ?_
  refine hh σ ρ F2 H2 _ _ Q _ ((rl.grow x1 s1).grow x2 s2) q fun h F3 H3 _ q x3 s3 => ?_
  have x13 := (x1.trans x2).trans x3
  have p3 := p1.mono (x2.f.trans x3.f) (x2.h.trans x3.h)
  unfold dCut at q
  split at q
  · obtain ⟨p, vs, rfl, h1, r⟩ := p3
    exact .inl ⟨p, vs, rfl, SqL.of h1, fun z hz => fin_lst q s3 x13.h (r.cut _ _) hz⟩
  · obtain ⟨p, rfl, h1⟩ := p3
    refine .inl ⟨p, _, rfl, h1, fun z hz => fin_lst q s3 x13.h ?_ hz⟩
    rw [show cutV (List.map V.int _) _ _ = _ from cutD_map V.int _ _ _]
    exact Reps.of_ints _
  · obtain ⟨p, vs, rfl, h1, r⟩ := p3
    obtain ⟨z, q⟩ := grd_out q
    refine .inr (.inl ⟨p, vs, rfl, SqT.of h1, fun y => ?_, fun z hz => fin_tup q s3 (r.cut _ _) hz⟩)
    rw [r.length] at y
    rw [decide_eq_true y.1, decide_eq_true y.2] at z
    cases z
  · cases p3
    obtain ⟨z, q⟩ := grd_out q
    exact .inr (.inr ⟨_, rfl, of_decide_eq_true z, fin_flat q s3 rfl⟩)
  · exact q.elim
end
end DL
namespace DL
open PySem PySem.Spec PyProof.Rows L2
section
variable {X : Cx} {C : Cd} {e a b c : Expr} {f g k : En → R D} {pos p : Pos}
abbrev Views (K : Kx) (F H : Hp) : List D → List V → Prop := Paired (View K F H)
theorem Views.mono {K : Kx} {F F' H H' : Hp} (f : Same F F') (h : Same H H') {ds : List D} {vs : List V} (w : Views K F H ds vs) : Views K F' H' ds vs := Paired.mapP w fun _ _ r => r.mono f h
theorem Views.one {K : Kx} {F H : Hp} {d : D} {vs : List V} (w : Views K F H [d] vs) : ∃ v, vs = [v] ∧ View K F H d v := by
  cases w with
  | cons r t => cases t; exact ⟨_, rfl, r⟩
theorem Views.two {K : Kx} {F H : Hp} {d e : D} {vs : List V} (w : Views K F H [d, e] vs) : ∃ v u, vs = [v, u] ∧ View K F H d v ∧ View K F H e u := by
  cases w with
  | cons r t =>
    obtain ⟨u, rfl, q⟩ := Views.one t
    exact ⟨_, u, rfl, r, q⟩
def OutV (C : Cd) (σ : L2.St) (F H : Hp) (x : R (List D)) (Q : List V → Hp → Prop) : Prop := match x with
  | .ok d => ∀ v F' H', Ext F H F' H' → Same F' H' → Views C.K F' H' d v → Q v H'
  | .err c => ∀ F' H', Ext F H F' H' → Same F' H' → C.XW c σ H'
  | .bad => False
def tV (C : Cd) (f : En → R (List D)) : TA := fun σ H Q => ∃ ρ F, Rel C ρ σ F H ∧ OutV C σ F H (f ρ) Q
theorem OutV.later {σ : L2.St} {F H F1 H1 : Hp} {x : R (List D)} {Q : List V → Hp → Prop} (o : OutV C σ F H x Q) (e : Ext F H F1 H1) : OutV C σ F1 H1 x Q := by
  cases x with
  | ok d => exact fun v F' H' x s w => o v F' H' (e.trans x) s w
  | err c => exact fun F' H' x s => o F' H' (e.trans x) s
  | bad => exact o
theorem w_nil : PA X [] (tV C aNil) := pa_nil.mono fun σ H Q ⟨ρ, F, r, q⟩ => q [] F H (Ext.refl _ _) r.sub .nil
theorem w_cons {es : List Expr} {fs : En → R (List D)} (ha : PE X e (tR C f)) (hr : PA X es (tV C fs)) (hs : starEach (e :: es) X.env = (false, eval e X.env) :: starEach es X.env := by rfl) : PA X (e :: es) (tV C (aCons f fs)) :=
  (pa_cons ha hr hs).mono fun σ H Q ⟨ρ, F, r, q⟩ => by
    refine ⟨ρ, F, r, ?_⟩
    unfold aCons at q
    cases hf : f ρ with
    | bad => rw [hf] at q; exact q
    | err c => rw [hf] at q; exact q
    | ok d =>
      rw [hf] at q
      intro v F1 H1 x1 s1 w1
      refine ⟨ρ, F1, r.grow x1 s1, ?_⟩
      have q := OutV.later q x1
      rw [bd_ok] at q
      cases hg : fs ρ with
      | bad => rw [hg] at q; exact q
      | err c => rw [hg] at q; exact q
      | ok ds =>
        rw [hg] at q
        exact fun vs F2 H2 x2 s2 w2 => q (v :: vs) F2 H2 x2 s2 (.cons (w1.mono x2.f x2.h) w2)
def OpL (C : Cd) (r : List V → Hp → VK → Prop) (w : List D → R D) : Prop :=
  ∀ σ F H Q ds vs, Out C σ F H (fun F' H' => New C.K H F' H') (w ds) Q → Same F H → Views C.K F H ds vs → r vs H Q
theorem many {fs : En → R (List D)} {r : List V → Hp → VK → Prop} {w : List D → R D} (hr : OpL C r w) : ∀ σ H Q, tO C (fun ρ => bd (fs ρ) w) σ H Q → tV C fs σ H fun xs H1 => r xs H1 Q := by
  rintro σ H Q ⟨ρ, F, rl, q⟩
  refine ⟨ρ, F, rl, ?_⟩
  cases hf : fs ρ with
  | bad => simp only [hf, bd_bad] at q; exact q
  | err c => simp only [hf, bd_err] at q; exact q
  | ok ds =>
    simp only [hf, bd_ok] at q
    intro v F1 H1 x1 s1 p1
    exact hr σ F1 H1 Q ds v ((Out.later q x1).newer x1.h) s1 p1
theorem d_callB {id : String} {x : Str} {es : List Expr} {fs : En → R (List D)} {r : List V → Hp → VK → Prop} {w : List D → R D} (hc : CallR X (.builtin id) r) (hr : OpL C r w) (hm : X.mg x = none) (hv : bootBuiltins x = some (.builtin id)) (ha : PA X (e :: es) (tV C fs))
    (hg : Gl X x := by rfl) (hn : x ≠ "__name__" := by decide) (hdb : (x == ("__debug__" : Str)) = false := by decide) (he : starEach (e :: es) X.env = (false, eval e X.env) :: starEach es X.env := by rfl) (hpl : (backTo pos (starEach es X.env)).any (·.1) = false := by rfl) :
    PE X (.Call (.Name x p) (e :: es) [] pos) (tO C (nop fs w)) := (pe_callB hc hg hm hv ha hn hdb he hpl).mono (many hr)
theorem d_callTy {T : String} {x : Str} {es : List Expr} {fs : En → R (List D)} {r : List V → Hp → VK → Prop} {w : List D → R D} (hc : CallR X (.type T) r) (hr : OpL C r w) (hm : X.mg x = none) (hv : bootBuiltins x = some (.type T)) (ha : PA X (e :: es) (tV C fs))
    (hg : Gl X x := by rfl) (hn : x ≠ "__name__" := by decide) (hdb : (x == ("__debug__" : Str)) = false := by decide) (he : starEach (e :: es) X.env = (false, eval e X.env) :: starEach es X.env := by rfl) (hpl : (backTo pos (starEach es X.env)).any (·.1) = false := by rfl) :
    PE X (.Call (.Name x p) (e :: es) [] pos) (tO C (nop fs w)) := (pe_callTy hc hg hm hv ha hn hdb he hpl).mono (many hr)
theorem CallR.or {u : Value} {r r' : List V → Hp → VK → Prop} (h : CallR X u r) (h' : CallR X u r') : CallR X u (fun xs H Q => r xs H Q ∨ r' xs H Q) := by
  intro pins s σ H xs us Q I rx q
  rcases q with q | q
  · exact h pins s σ H xs us Q I rx q
  · exact h' pins s σ H xs us Q I rx q
def dLen : List D → R D
  | [.lst ds] => .ok (.int ds.length)
  | [.tup ds] => .ok (.int ds.length)
  | [.scr ds] => .ok (.int ds.length)
  | [.str z] => grd (small z.length) (.ok (.int z.length))
  | [.dK kvs] => .ok (.int kvs.length)
  | [.rows ds] => .ok (.int ds.length)
  | _ => .bad
theorem RepK.length {K : Kx} {F : Hp} : ∀ {ds : List (Key × D)} {vs : List (Key × V)}, RepK K F ds vs → vs.length = ds.length
  | _, _, .nil => rfl
  | _, _, .cons _ t => congrArg (· + 1) (RepK.length t)
theorem len_ok : OpL C (fun xs H Q => (∃ x n, xs = [x] ∧ LenV C.K x H n ∧ Q (.int n) H) ∨ ∃ p kvs, xs = [.ref p] ∧ Rd H p (.dK kvs) ∧ Q (.int (kvs.length : Nat)) H) dLen := by
  intro σ F H Q ds vs o s w
  unfold dLen at o
  split at o
  · obtain ⟨v, rfl, p, vs, rfl, h, r⟩ := w.one
    exact .inl ⟨_, _, rfl, .inl ⟨vs, SqL.of h, r.length.symm⟩, fin_flat o s rfl⟩
  · obtain ⟨v, rfl, p, vs, rfl, h, r⟩ := w.one
    exact .inl ⟨_, _, rfl, .inr ⟨vs, SqT.of h, r.length.symm⟩, fin_flat o s rfl⟩
  · obtain ⟨v, rfl, p, rfl, h⟩ := w.one
    exact .inl ⟨_, _, rfl, .inl ⟨_, h, (List.length_map _).symm⟩, fin_flat o s rfl⟩
  · obtain ⟨z, o⟩ := grd_out o
    obtain ⟨v, rfl, h⟩ := w.one
    cases h
    exact .inl ⟨_, _, rfl, ⟨of_decide_eq_true z, rfl⟩, fin_flat o s rfl⟩
  · obtain ⟨v, rfl, p, vs, rfl, h, r⟩ := w.one
    refine .inr ⟨p, vs, rfl, h, ?_⟩
    rw [r.length]
    exact fin_flat o s rfl
  · obtain ⟨v, rfl, p, vs, rfl, h, r⟩ := w.one
    exact .inl ⟨_, _, rfl, .inl ⟨vs, SqL.of h, by rcases r with r | r <;> exact r.length.symm⟩, fin_flat o s rfl⟩
  · exact o.elim
end
end DL
namespace DL
open PySem PySem.Spec PyProof.Rows L2
inductive Fl where
  | next (ρ : En) | ret (o : Bool) (d : D) | brk (ρ : En) | cont (ρ : En)
def RetP (C : Cd) (F H : Hp) (o : Bool) (d : D) (v : V) : Prop := if o = true then New C.K C.H0 F H d v else Rep C.K F d v
def feet (H : Hp) : List Addr → List D → List Addr
  | a :: as, d :: ds => foot H a d ++ feet H as ds
  | _, _ => []
def OwnAll (K : Kx) (F H H0 : Hp) (as : List Addr) (es : List D) : Prop :=
  as.length = es.length ∧ (feet H as es).Nodup ∧ (∀ b ∈ feet H as es, F b = none ∧ H0 b = none) ∧ ∀ (k : Nat) (a : Addr) (e : D), as[k]? = some a → es[k]? = some e → Own K F H a e
def RetV (C : Cd) (F H : Hp) (o : Bool) (d : D) (v : V) : Prop := match C.io with
  | [] => RetP C F H o d v
  | as => o = false ∧ ∃ d0 es, d = .tup (d0 :: es) ∧ Rep C.K F d0 v ∧ OwnAll C.K F H C.H0 as es
theorem RetV.of {C : Cd} {F H : Hp} {o : Bool} {d : D} {v : V} (h : C.io = []) (w : RetP C F H o d v) : RetV C F H o d v := by
  unfold RetV; rw [h]; exact w
theorem RetV.ofE {C : Cd} {F H : Hp} {d : D} {v : V} (h : C.io = []) (w : Rep C.K F d v) : RetV C F H false d v := .of h (by unfold RetP; rw [if_neg Bool.false_ne_true]; exact w)
theorem RetV.ofO {C : Cd} {F H : Hp} {d : D} {v : V} (h : C.io = []) (w : New C.K C.H0 F H d v) : RetV C F H true d v := .of h (by unfold RetP; rw [if_pos rfl]; exact w)
def Post (C : Cd) (T : Ends) (B : Hp) : R Fl → Prop
  | .ok (.next ρ) => ∀ σ F H, Same B F → Rel C ρ σ F H → T.nx σ H
  | .ok (.brk ρ) => ∀ σ F H, Same B F → Rel C ρ σ F H → T.bk σ H
  | .ok (.cont ρ) => ∀ σ F H, Same B F → Rel C ρ σ F H → T.ct σ H
  | .ok (.ret o d) => ∀ v F H, Ext C.F0 C.H0 F H → Same F H → RetV C F H o d v → T.rt v H
  | .err c => ∀ ρ σ F H, Rel C ρ σ F H → C.XW c σ H
  | .bad => False
theorem Post.up {C : Cd} {T : Ends} {B B' : Hp} {x : R Fl} (q : Post C T B x) (s : Same B B') : Post C T B' x := by
  cases x with
  | bad => exact q
  | err c => exact q
  | ok r =>
    cases r with
    | next ρ => exact fun σ F H z => q σ F H (s.trans z)
    | brk ρ => exact fun σ F H z => q σ F H (s.trans z)
    | cont ρ => exact fun σ F H z => q σ F H (s.trans z)
    | ret o d => exact q
def tS (C : Cd) (g : En → R Fl) : TS := fun T σ H => ∃ ρ F, Rel C ρ σ F H ∧ Post C T F (g ρ)
section
variable {X : Cx} {C : Cd} {e a b c : Expr} {f g k : En → R D} {pos p : Pos} {st : Stmt} {rest : List Stmt} {s1 s2 : En → R Fl}
theorem Rel.err {ρ : En} {σ : L2.St} {F H F' H' : Hp} {T : Ends} {c : Str} {B : Hp} (r : Rel C ρ σ F H) (q : Post C T B (.err c)) (x : Ext F H F' H') (s : Same F' H') : C.XW c σ H' := q ρ σ F' H' (r.grow x s)
theorem out_of {σ : L2.St} {ρ : En} {F H : Hp} {W : Hp → Hp → D → V → Prop} {x : R D} {w : D → R Fl} {T : Ends} {Q : VK} (r : Rel C ρ σ F H) (q : Post C T F (bd x w))
    (h : ∀ d v F' H', x = .ok d → Post C T F' (w d) → Ext F H F' H' → Same F' H' → Rel C ρ σ F' H' → W F' H' d v → Q v H') : Out C σ F H W x Q := by
  cases x with
  | bad => exact q
  | err c => exact fun F' H' x s => r.err q x s
  | ok d => exact fun v F' H' x s w => h d v F' H' rfl (Post.up q x.f) x s (r.grow x s) w
theorem outT_of {σ : L2.St} {ρ : En} {F H : Hp} {x : R Bool} {w : Bool → R Fl} {T : Ends} {Q : Bool → Hp → Prop} (r : Rel C ρ σ F H) (q : Post C T F (bd x w))
    (h : ∀ d F' H', x = .ok d → Post C T F' (w d) → Same F F' → Rel C ρ σ F' H' → Q d H') : OutT C σ F H x Q := by
  cases x with
  | bad => exact q
  | err c => exact fun F' H' x s => r.err q x s
  | ok d => exact fun F' H' x s => h d F' H' rfl (Post.up q x.f) x.f (r.grow x s)
def sSkip : En → R Fl := fun ρ => .ok (.next ρ)
def sSeq (s t : En → R Fl) : En → R Fl := fun ρ => bd (s ρ) fun r => match r with
  | .next ρ' => t ρ'
  | r => .ok r
theorem ss_nil : PSs X [] (tS C sSkip) := pss_nil.mono fun T σ H ⟨ρ, F, r, q⟩ => q σ F H (Same.refl _) r
theorem post_seq {T : Ends} {B : Hp} {x : R Fl} {t : En → R Fl} (q : Post C T B (bd x fun r => match r with | .next ρ' => t ρ' | r => .ok r)) : Post C { T with nx := tS C t T } B x := by
  cases x with
  | bad => exact q
  | err c => exact q
  | ok r =>
    cases r with
    | next ρ => exact fun σ F H s r => ⟨ρ, F, r, Post.up q s⟩
    | ret o d => exact q
    | brk ρ => exact q
    | cont ρ => exact q
theorem ss_cons (h1 : PS X st (tS C s1)) (h2 : PSs X rest (tS C s2)) : PSs X (st :: rest) (tS C (sSeq s1 s2)) := (pss_cons h1 h2).mono fun T σ H ⟨ρ, F, r, q⟩ => ⟨ρ, F, r, post_seq q⟩
theorem ss_one (h1 : PS X st (tS C s1)) : PSs X [st] (tS C s1) := pss_one h1
def sStl (is : List Nat) (s : En → R Fl) : En → R Fl := fun ρ => s (settle ρ is)
theorem s_settle (is : List Nat) (h : PS X st (tS C s1)) : PS X st (tS C (sStl is s1)) := h.mono fun T σ H ⟨ρ, F, r, q⟩ => by
  obtain ⟨F', sf, r'⟩ := r.settle is
  exact ⟨_, F', r', Post.up q sf⟩
def sBrk : En → R Fl := fun ρ => .ok (.brk ρ)
def sCont : En → R Fl := fun ρ => .ok (.cont ρ)
def sIf (t : En → R Bool) (s1 s2 : En → R Fl) : En → R Fl := fun ρ => bd (t ρ) fun c => if c = true then s1 ρ else s2 ρ
theorem s_if {t : En → R Bool} {bs cs : List Stmt} (hc : PT X c (tT C t)) (ha : PSs X bs (tS C s1)) (hb : PSs X cs (tS C s2)) : PS X (.If c bs cs pos) (tS C (sIf t s1 s2)) :=
  (ps_if hc ha hb).mono fun T σ H ⟨ρ, F, r, q⟩ => ⟨ρ, F, r, outT_of r q fun d F' H' _ q _ r => by
    cases d with
    | true => rw [if_pos rfl] at q ⊢; exact ⟨ρ, F', r, q⟩
    | false => rw [if_neg Bool.false_ne_true] at q ⊢; exact ⟨ρ, F', r, q⟩⟩
def sRet (f : En → R D) : En → R Fl := fun ρ => bd (f ρ) fun d => .ok (.ret false d)
def sRetO (f : En → R D) : En → R Fl := fun ρ => bd (f ρ) fun d => .ok (.ret true d)
theorem Rel.new {ρ : En} {σ : L2.St} {F H : Hp} {H1 F' H' : Hp} {d : D} {v : V} (r : Rel C ρ σ F H) (s : Same H H1) (w : New C.K H F' H' d v) : New C.K C.H0 F' H' d v := w.later r.ext.h
theorem s_ret (he : PE X e (tE C f)) (hio : C.io = [] := by rfl) : PS X (.Return (some e) pos) (tS C (sRet f)) := (ps_ret he).mono fun T σ H ⟨ρ, F, r, q⟩ => ⟨ρ, F, r, out_of r q fun d v F' H' _ q x s r w => q v F' H' r.ext s (.ofE hio w)⟩
theorem s_retO (he : PE X e (tO C f)) (hio : C.io = [] := by rfl) : PS X (.Return (some e) pos) (tS C (sRetO f)) := (ps_ret he).mono fun T σ H ⟨ρ, F, r, q⟩ => ⟨ρ, F, r, out_of r q fun d v F' H' _ q x s r' w => q v F' H' r'.ext s (.ofO hio (w.later r.ext.h))⟩
def rdO (i : Nat) : En → R D := fun ρ => match ρ[i]? with
  | some (some (true, d)) => .ok d
  | some (some (false, d)) => if isC d = true then .bad else .ok d
  | _ => .bad
theorem s_retN {i : Nat} (he : PE X e (tVar i)) (hio : C.io = [] := by rfl) : PS X (.Return (some e) pos) (tS C (sRetO (rdO i))) := (ps_ret he).mono fun T σ H ⟨ρ, F, r, q⟩ => by
  unfold sRetO rdO at q
  split at q
  · rename_i d h
    obtain ⟨v, hv, n, nd, o⟩ := r.ownF i d h
    refine ⟨_, hv, q _ F H r.ext r.sub ?_⟩
    refine .ofO hio ?_
    exact .mk (fun b hb => ⟨(n b hb).2, (n b hb).1⟩) nd o
  · rename_i d h
    obtain ⟨v, hv, w⟩ := r.slot i d h
    split at q
    · exact q.elim
    · rename_i hd
      refine ⟨_, hv, q _ F H r.ext r.sub ?_⟩
      refine .ofO hio ?_
      exact New.of_rep (by simpa using hd) w
  · exact q.elim
def sRetNone : En → R Fl := fun _ => .ok (.ret false .non)
def stE (i : Nat) (d : D) (ρ : En) : R Fl := .ok (.next (ρ.set i (some (false, d))))
def stO (i : Nat) (d : D) (ρ : En) : R Fl := .ok (.next (ρ.set i (some (isC d, d))))
def sSet (i : Nat) (f : En → R D) : En → R Fl := fun ρ => bd (f ρ) fun d => stE i d ρ
def sSetO (i : Nat) (f : En → R D) : En → R Fl := fun ρ => bd (f ρ) fun d => stO i d ρ
theorem Rel.setN {ρ : En} {σ : L2.St} {F H H1 : Hp} {i : Nat} {d : D} {v : V} (r : Rel C ρ σ F H) (h1 : ∀ (j : Nat) (e : D) (b c : Addr), ρ[j]? = some (some (true, e)) → σ[j]? = some (some (V.ref b)) → c ∈ foot H b e → ∃ u, H1 c = some u) (h0 : ∀ a, H1 a = none → C.H0 a = none) (w : New C.K H1 F H d v) (hl : C.ln i = none) :
    Rel C (ρ.set i (some (isC d, d))) (σ.set i (some v)) F H := by
  cases hc : isC d with
  | true =>
    obtain ⟨a, rfl, n, nd, o⟩ := w.own hc
    exact r.setO hl (fun b hb => ⟨(n b hb).2, h0 b (n b hb).1⟩) nd o fun j e b c hj hs h5 h6 => by
      obtain ⟨u, hu⟩ := h1 j e b c hj hs h6
      rw [(n c h5).1] at hu
      cases hu
  | false => exact r.set (w.isRep hc) hl
theorem Rel.old {ρ : En} {σ : L2.St} {F H H' : Hp} (r : Rel C ρ σ F H) (s : Same H H') : ∀ (j : Nat) (e : D) (b c : Addr), ρ[j]? = some (some (true, e)) → σ[j]? = some (some (V.ref b)) → c ∈ foot H' b e → ∃ u, H c = some u := fun j e b c hj hs hc => by
  obtain ⟨a', q, _, _, o⟩ := r.ownF j e hj
  rw [hs] at q
  cases q
  rw [foot_grow s o] at hc
  exact o.foot c hc
theorem s_set {i : Nat} {x : Str} {pos' : Pos} (he : PE X e (tE C f)) (hN : X.N.Nodup) (hi : X.N[i]? = some x := by rfl) (hx : Loc X.env.scope x := by first | exact .inl rfl | exact .inr rfl) (hs : swapsWith e (some (.Name x pos')) pos.line X.env = pure false := by rfl)
    (hf : X.fn x = true ∨ X.env.scope.names.lookup x = some .local := by first | exact .inl rfl | exact .inr rfl | assumption) (hl : C.ln i = none := by rfl) : PS X (.Assign [.Name x pos'] e pos) (tS C (sSet i f)) :=
  (ps_set hN hi hx he hs hf).mono fun T σ H ⟨ρ, F, r, q⟩ => ⟨ρ, F, r, out_of r q fun d v F' H' _ q x s r w => q _ F' H' (Same.refl _) (r.set w hl)⟩
theorem s_setO {i : Nat} {x : Str} {pos' : Pos} (he : PE X e (tO C f)) (hN : X.N.Nodup) (hi : X.N[i]? = some x := by rfl) (hx : Loc X.env.scope x := by first | exact .inl rfl | exact .inr rfl) (hs : swapsWith e (some (.Name x pos')) pos.line X.env = pure false := by rfl)
    (hf : X.fn x = true ∨ X.env.scope.names.lookup x = some .local := by first | exact .inl rfl | exact .inr rfl | assumption) (hl : C.ln i = none := by rfl) : PS X (.Assign [.Name x pos'] e pos) (tS C (sSetO i f)) :=
  (ps_set hN hi hx he hs hf).mono fun T σ H ⟨ρ, F, r, q⟩ => ⟨ρ, F, r, out_of r q fun d v F' H' _ q x s r' w => q _ F' H' (Same.refl _) (r'.setN (r.old x.h) (fun a h => r.ext.h.free h) w hl)⟩
theorem wipe_set {i : Nat} {x : Option V} : ∀ {σ : L2.St} {own : List Nat}, i ∈ own → wipe (σ.set i x) own = wipe σ own
  | σ, v :: own, h => by
    unfold wipe
    by_cases e : i = v
    · subst e
      by_cases h2 : i ∈ own
      · rw [wipe_set h2]
      · have aux : ∀ (own : List Nat) (σ : L2.St), i ∉ own → wipe (σ.set i x) own = (wipe σ own).set i x := by
          intro own
          induction own with
          | nil => intro σ _; rfl
          | cons w own ih =>
            intro σ hn
            unfold wipe
            rw [ih σ fun z => hn (List.mem_cons_of_mem _ z), List.set_comm _ _ (fun z => hn (by rw [z]; exact List.mem_cons_self))]
        rw [aux own σ h2, List.set_set]
    · have h2 : i ∈ own := by
        rcases List.mem_cons.mp h with z | z
        · exact absurd z e
        · exact z
      rw [wipe_set h2]
theorem wipe_wipe : ∀ (own more : List Nat) (σ : L2.St), (∀ i ∈ more, i ∈ own) → wipe (wipe σ more) own = wipe σ own
  | own, [], σ, _ => rfl
  | own, i :: more, σ, h => by
    show wipe ((wipe σ more).set i none) own = _
    rw [wipe_set (h i List.mem_cons_self), wipe_wipe own more σ fun j hj => h j (List.mem_cons_of_mem _ hj)]
def tG (C : Cd) (vs : List Nat) (g : D → En → Option En) : TG := fun v σ H Q => ∃ ρ F d, Rel C ρ σ F H ∧ Rep C.K F d v ∧ match g d ρ with
  | some ρ' => ∀ σ', wipe σ' vs = wipe σ vs → Rel C ρ' σ' F H → Q σ' H
  | none => False
def tGs (C : Cd) (vs : List Nat) (g : List D → En → Option En) : TGs := fun ws σ H Q => ∃ ρ F ds, Rel C ρ σ F H ∧ Reps C.K F ds ws ∧ match g ds ρ with
  | some ρ' => ∀ σ', wipe σ' vs = wipe σ vs → Rel C ρ' σ' F H → Q σ' H
  | none => False
theorem _root_.L2.PG.mono {X : Cx} {e : Expr} {t t' : TG} (h : PG X e t) (m : ∀ v σ H Q, t' v σ H Q → t v σ H Q) : PG X e t' := ⟨fun pins s σ H v u Q I r q => h.run pins s σ H v u Q I r (m v σ H Q q)⟩
theorem _root_.L2.PGs.mono {X : Cx} {e : List Expr} {t t' : TGs} (h : PGs X e t) (m : ∀ v σ H Q, t' v σ H Q → t v σ H Q) : PGs X e t' := ⟨fun pins s σ H v u Q I r q => h.run pins s σ H v u Q I r (m v σ H Q q)⟩
def gSet (i : Nat) : D → En → Option En := fun d ρ => some (ρ.set i (some (false, d)))
theorem g_name {i : Nat} {x : Str} {own : List Nat} (hN : X.N.Nodup) (hi : X.N[i]? = some x := by rfl) (ho : i ∈ own := by decide) (hx : Loc X.env.scope x := by first | exact .inl rfl | exact .inr rfl) (hf : X.fn x = true ∨ X.env.scope.names.lookup x = some .local := by first | exact .inl rfl | exact .inr rfl | assumption) (hl : C.ln i = none := by rfl) :
    PG X (.Name x pos) (tG C own (gSet i)) := (pg_name hN hi hx hf).mono fun v σ H Q ⟨ρ, F, d, r, w, q⟩ => q _ (wipe_set ho) (r.set w hl)
def gsNil : List D → En → Option En := fun ds ρ => match ds with | [] => some ρ | _ => none
def gsCons (g : D → En → Option En) (gs : List D → En → Option En) : List D → En → Option En := fun ds ρ => match ds with | d :: ds => (g d ρ).bind (gs ds) | [] => none
theorem gs_nil {own : List Nat} : PGs X [] (tGs C own gsNil) := pgs_nil.mono fun v σ H Q ⟨ρ, F, ds, r, w, q⟩ => by
  cases ds with
  | nil => cases w; exact ⟨rfl, q σ rfl r⟩
  | cons d ds => exact q.elim
theorem gs_cons {own : List Nat} {es : List Expr} {gg : D → En → Option En} {gs : List D → En → Option En} (h1 : PG X e (tG C own gg)) (h2 : PGs X es (tGs C own gs)) (hs : (assignEach (e :: es) X.env).map (·.2) = assign e X.env :: (assignEach es X.env).map (·.2) := by rfl) :
    PGs X (e :: es) (tGs C own (gsCons gg gs)) := (pgs_cons h1 h2 hs).mono fun v σ H Q ⟨ρ, F, ds, r, w, q⟩ => by
  cases w with
  | nil => exact q.elim
  | @cons d v ds vs w ws =>
    refine ⟨v, vs, rfl, ρ, F, d, r, w, ?_⟩
    have q' : match (gg d ρ).bind (gs ds) with | some ρ' => ∀ σ', wipe σ' own = wipe σ own → Rel C ρ' σ' F H → Q σ' H | none => False := q
    cases hg : gg d ρ with
    | none => rw [hg] at q'; exact q'
    | some ρ1 =>
      rw [hg] at q'
      refine fun σ1 e1 r1 => ⟨ρ1, F, ds, r1, ws, ?_⟩
      have q2 : match gs ds ρ1 with | some ρ' => ∀ σ', wipe σ' own = wipe σ own → Rel C ρ' σ' F H → Q σ' H | none => False := q'
      cases hh : gs ds ρ1 with
      | none => rw [hh] at q2; exact q2
      | some ρ2 => rw [hh] at q2; exact fun σ2 e2 r2 => q2 σ2 (e2.trans e1) r2
def gTupD (n : Nat) (gs : List D → En → Option En) : D → En → Option En := fun d ρ => match d with
  | .tup ds => if ds.length = n then gs ds ρ else none
  | _ => none
theorem g_tup {own : List Nat} {es : List Expr} {kk n : Nat} {gs : List D → En → Option En} (hc : X.calm = true) (h : PGs X es (tGs C own gs)) (hn : (assignEach es X.env).length = n := by rfl) (hst : (assignEach es X.env).findIdx? (·.1) = none := by rfl) :
    PG X (.Tuple es kk pos) (tG C own (gTupD n gs)) := (pg_tup hc h hn hst).mono fun v σ H Q ⟨ρ, F, d, r, w, q⟩ => by
  unfold gTupD at q
  cases w with
  | @tup a vs ds ha ws =>
    by_cases hd : ds.length = n
    · simp only [hd, if_true] at q
      exact ⟨a, vs, rfl, SqT.of (r.sub _ _ ha), by rw [ws.length]; exact hd, ρ, F, ds, r, ws, q⟩
    · simp only [hd, if_false] at q
  | _ => exact q.elim
def gLstD (n : Nat) (gs : List D → En → Option En) : D → En → Option En := fun d ρ => match d with
  | .lst ds => if ds.length = n then gs ds ρ else none
  | _ => none
theorem g_lst {own : List Nat} {es : List Expr} {kk n : Nat} {gs : List D → En → Option En} (hc : X.calm = true) (h : PGs X es (tGs C own gs)) (hn : (assignEach es X.env).length = n := by rfl) (hst : (assignEach es X.env).findIdx? (·.1) = none := by rfl) :
    PG X (.Tuple es kk pos) (tG C own (gLstD n gs)) := (pg_unl hc h hn hst).mono fun v σ H Q ⟨ρ, F, d, r, w, q⟩ => by
  unfold gLstD at q
  cases w with
  | @lst a vs ds ha ws =>
    by_cases hd : ds.length = n
    · simp only [hd, if_true] at q
      exact ⟨a, vs, rfl, SqL.of (r.sub _ _ ha), by rw [ws.length]; exact hd, ρ, F, ds, r, ws, q⟩
    · simp only [hd, if_false] at q
  | _ => exact q.elim
def sUnp (f : En → R D) (g : D → En → Option En) : En → R Fl := fun ρ => bd (f ρ) fun d => match g d ρ with
  | some ρ' => .ok (.next ρ')
  | none => .bad
theorem s_unp {gg : D → En → Option En} (he : PE X e (tE C f)) {own : List Nat} (hg : PG X a (tG C own gg)) (hs : swapsWithSole [a] e pos.line X.env = pure false := by rfl) (hw : swappedStores [a] e X.env = pure none := by rfl)
    (h1 : (assignEach [a] X.env).map (·.2) = [assign a X.env] := by rfl) : PS X (.Assign [a] e pos) (tS C (sUnp f gg)) :=
  (ps_asg he hg hs hw h1).mono fun T σ H ⟨ρ, F, r, q⟩ => ⟨ρ, F, r, out_of r q fun d v F' H' _ q x s r w => by
    refine ⟨ρ, F', d, r, w, ?_⟩
    cases hg : gg d ρ with
    | none => rw [hg] at q; exact q.elim
    | some ρ1 => rw [hg] at q; exact fun σ1 _ r1 => q σ1 F' H' (Same.refl _) r1⟩
end
end DL
namespace DL
open PySem PySem.Spec PyProof.Rows L2
def IterOk (K : Kx) (J : It) (B F : Hp) (ds : List D) : Prop := ∀ i F2 H2, Same B H2 → Same F F2 → Same F2 H2 →
  (i < ds.length → J.go i H2 ∧ ∀ x H3, J.yld i H2 x H3 → ∃ F3 d, ds[i]? = some d ∧ Ext F2 H2 F3 H3 ∧ Same F3 H3 ∧ Rep K F3 d x) ∧ (i = ds.length → J.stop i H2)
theorem IterOk.base {K : Kx} {J : It} {B B' F : Hp} {ds : List D} (h : IterOk K J B F ds) (s : Same B B') : IterOk K J B' F ds := fun i F2 H2 b => h i F2 H2 (s.trans b)
def jn (A B : Hp) : Hp := fun a => match A a with
  | some o => some o
  | none => B a
theorem jn_l {A B : Hp} : Same A (jn A B) := fun a o h => by unfold jn; rw [h]
theorem jn_r {A B H : Hp} (h1 : Same A H) (h2 : Same B H) : Same B (jn A B) := fun a o h => by
  unfold jn
  cases e : A a with
  | none => exact h
  | some u => rw [← h2 _ _ h, h1 _ _ e]
theorem jn_in {A B H : Hp} (h1 : Same A H) (h2 : Same B H) : Same (jn A B) H := fun a o h => by
  unfold jn at h
  cases e : A a with
  | none => rw [e] at h; exact h2 _ _ h
  | some u => rw [e] at h; cases h; exact h1 _ _ e
def OutI (C : Cd) (st : Bool) (σ : L2.St) (F H : Hp) (x : R (List D)) (Q : It → Hp → Prop) : Prop := match x with
  | .ok ds => ∀ J F' H', Ext F H F' H' → Same F' H' → IterOk C.K J (if st = true then jn F' C.H0 else H') F' ds → Q J H'
  | .err c => ∀ F' H', Ext F H F' H' → Same F' H' → C.XW c σ H'
  | .bad => False
def tI (C : Cd) (st : Bool) (f : En → R (List D)) : TI := fun σ H Q => ∃ ρ F, Rel C ρ σ F H ∧ OutI C st σ F H (f ρ) Q
theorem _root_.L2.PI.mono {X : Cx} {tg e : Expr} {t t' : TI} (h : PI X tg e t) (m : ∀ σ H Q, t' σ H Q → t σ H Q) : PI X tg e t' := ⟨fun pins s σ H Q I q => h.run pins s σ H Q I (m σ H Q q)⟩
theorem _root_.L2.PI.or {X : Cx} {tg e : Expr} {t t' : TI} (h : PI X tg e t) (h' : PI X tg e t') : PI X tg e (fun σ H Q => t σ H Q ∨ t' σ H Q) := ⟨fun pins s σ H Q I q => by
  rcases q with q | q
  · exact h.run pins s σ H Q I q
  · exact h'.run pins s σ H Q I q⟩
section
variable {X : Cx} {C : Cd} {e a b c tg : Expr} {f g k : En → R D} {pos p : Pos} {st : Stmt} {rest : List Stmt} {s1 s2 : En → R Fl} {K : Kx}
theorem OutI.later {st : Bool} {σ : L2.St} {F H F1 H1 : Hp} {x : R (List D)} {Q : It → Hp → Prop} (o : OutI C st σ F H x Q) (e : Ext F H F1 H1) : OutI C st σ F1 H1 x Q := by
  cases x with
  | ok d => exact fun J F' H' x s w => o J F' H' (e.trans x) s w
  | err c => exact fun F' H' x s => o F' H' (e.trans x) s
  | bad => exact o
theorem iter_list {B F : Hp} {l : Addr} {vs : List V} {ds : List D} (h : SqL K B l vs) (r : Reps K F ds vs) : IterOk K (Itl K l) B F ds := fun i F2 H2 b f s => by
  have q := b.seq h
  refine ⟨fun hi => ?_, fun hi => ⟨vs, q, by rw [r.length]; omega⟩⟩
  obtain ⟨v, hv, w⟩ := r.get (List.getElem?_eq_getElem hi)
  refine ⟨⟨vs, v, q, hv⟩, fun x H3 y => ?_⟩
  obtain ⟨rfl, y⟩ := y
  have e := (y vs q).symm.trans hv
  cases e
  exact ⟨F2, _, List.getElem?_eq_getElem hi, Ext.refl _ _, s, w.mono f⟩
theorem iter_tup {B F : Hp} {l : Addr} {vs : List V} {ds : List D} (h : SqT K B l vs) (r : Reps K F ds vs) : IterOk K (Itt K l) B F ds := fun i F2 H2 b f s => by
  have q := Same.seqT b h
  refine ⟨fun hi => ?_, fun hi => ⟨vs, q, by rw [r.length]; omega⟩⟩
  obtain ⟨v, hv, w⟩ := r.get (List.getElem?_eq_getElem hi)
  refine ⟨⟨vs, v, q, hv⟩, fun x H3 y => ?_⟩
  obtain ⟨rfl, y⟩ := y
  have e := (y vs q).symm.trans hv
  cases e
  exact ⟨F2, _, List.getElem?_eq_getElem hi, Ext.refl _ _, s, w.mono f⟩
theorem iter_range {B F : Hp} {lo : Int} {n : Nat} : IterOk K (Itr lo n) B F ((List.range n).map fun i => D.int (lo + (i : Nat))) := fun i F2 H2 b f s => by
  refine ⟨fun hi => ?_, fun hi => ?_⟩
  · rw [List.length_map, List.length_range] at hi
    refine ⟨hi, fun x H3 y => ?_⟩
    obtain ⟨rfl, rfl⟩ := y
    refine ⟨F2, .int (lo + i), ?_, Ext.refl _ _, s, .int _⟩
    rw [List.getElem?_map, List.getElem?_range hi]
    rfl
  · rw [List.length_map, List.length_range] at hi
    exact Nat.le_of_eq hi.symm
def signs (z : Str) : List D := z.cps.toList.map fun c => D.str ⟨#[c]⟩
theorem iter_str {B F : Hp} {z : Str} : IterOk K (Its z) B F (signs z) := fun i F2 H2 b f s => by
  have hl : (signs z).length = z.cps.size := by unfold signs; rw [List.length_map, Array.length_toList]
  refine ⟨fun hi => ?_, fun hi => ?_⟩
  · rw [hl] at hi
    refine ⟨hi, fun x H3 y => ?_⟩
    obtain ⟨rfl, c, hc, rfl⟩ := y
    refine ⟨F2, .str ⟨#[c]⟩, ?_, Ext.refl _ _, s, .str _⟩
    unfold signs
    rw [List.getElem?_map, Array.getElem?_toList, hc]
    rfl
  · rw [hl] at hi
    exact Nat.le_of_eq hi.symm
def itD : D → R (List D)
  | .lst ds => .ok ds
  | .tup ds => .ok ds
  | .scr ns => .ok (ns.map .int)
  | .str z => .ok (signs z)
  | _ => .bad
def itr (f : En → R D) : En → R (List D) := fun ρ => bd (f ρ) itD
def irg (f : En → R (List D)) (w : List D → R (List D)) : En → R (List D) := fun ρ => bd (f ρ) w
theorem i_seqE (hC : X.K = C.K.fr) (ha : PE X e (tE C f)) : PI X tg e (tI C true (itr f)) :=
  (PI.or (pi_list ha) (PI.or (pi_tup ha) (pi_str ha))).mono fun σ H Q ⟨ρ, F, r, q⟩ => by
    unfold itr at q
    rw [hC]
    cases hf : f ρ with
    | bad => simp only [hf, bd_bad] at q; exact q.elim
    | err c => simp only [hf, bd_err] at q; exact .inl ⟨ρ, F, r, by rw [hf]; exact q⟩
    | ok d =>
      simp only [hf, bd_ok] at q
      cases d with
      | lst ds =>
        refine .inl ⟨ρ, F, r, ?_⟩
        rw [hf]
        intro v F' H' x s w
        cases w with
        | lst ha rr => exact ⟨_, rfl, ⟨_, SqL.of (s _ _ ha)⟩, q _ F' H' x s (iter_list (SqL.of (by rw [if_pos rfl]; exact jn_l _ _ ha)) rr)⟩
      | scr ds =>
        refine .inl ⟨ρ, F, r, ?_⟩
        rw [hf]
        intro v F' H' x s w
        cases w with
        | scr ha => exact ⟨_, rfl, ⟨_, s.seq ha⟩, q _ F' H' x s (iter_list (by rw [if_pos rfl]; exact jn_l.seq ha) (Reps.of_ints _))⟩
      | tup ds =>
        refine .inr (.inl ⟨ρ, F, r, ?_⟩)
        rw [hf]
        intro v F' H' x s w
        cases w with
        | tup ha rr => exact ⟨_, rfl, ⟨_, SqT.of (s _ _ ha)⟩, q _ F' H' x s (iter_tup (SqT.of (by rw [if_pos rfl]; exact jn_l _ _ ha)) rr)⟩
      | str z =>
        refine .inr (.inr ⟨ρ, F, r, ?_⟩)
        rw [hf]
        intro v F' H' x s w
        cases w
        exact ⟨z, rfl, q _ F' H' x s iter_str⟩
      | _ => exact q.elim
theorem i_seqR (hC : X.K = C.K.fr) (ha : PE X e (tR C f)) : PI X tg e (tI C false (itr f)) :=
  (PI.or (pi_list ha) (PI.or (pi_tup ha) (pi_str ha))).mono fun σ H Q ⟨ρ, F, r, q⟩ => by
    unfold itr at q
    rw [hC]
    cases hf : f ρ with
    | bad => simp only [hf, bd_bad] at q; exact q.elim
    | err c => simp only [hf, bd_err] at q; exact .inl ⟨ρ, F, r, by rw [hf]; exact q⟩
    | ok d =>
      simp only [hf, bd_ok] at q
      cases d with
      | lst ds =>
        refine .inl ⟨ρ, F, r, ?_⟩
        rw [hf]
        intro v F' H' x s w
        obtain ⟨l, vs, rfl, ha, rr⟩ := w
        exact ⟨_, rfl, ⟨_, SqL.of ha⟩, q _ F' H' x s (iter_list (SqL.of (by simpa using ha)) rr)⟩
      | scr ds =>
        refine .inl ⟨ρ, F, r, ?_⟩
        rw [hf]
        intro v F' H' x s w
        obtain ⟨l, rfl, ha⟩ := w
        exact ⟨_, rfl, ⟨_, ha⟩, q _ F' H' x s (iter_list (by simpa using ha) (Reps.of_ints _))⟩
      | tup ds =>
        refine .inr (.inl ⟨ρ, F, r, ?_⟩)
        rw [hf]
        intro v F' H' x s w
        obtain ⟨l, vs, rfl, ha, rr⟩ := w
        exact ⟨_, rfl, ⟨_, SqT.of ha⟩, q _ F' H' x s (iter_tup (SqT.of (by simpa using ha)) rr)⟩
      | str z =>
        refine .inr (.inr ⟨ρ, F, r, ?_⟩)
        rw [hf]
        intro v F' H' x s w
        cases w
        exact ⟨z, rfl, q _ F' H' x s iter_str⟩
      | _ => exact q.elim
def inR (i : Int) : Bool := decide (-(2 ^ 62) ≤ i) && decide (i < 2 ^ 62)
theorem inR_of {i : Int} (h : inR i = true) : -(2 ^ 62) ≤ i ∧ i < 2 ^ 62 := by
  unfold inR at h
  rw [Bool.and_eq_true] at h
  exact ⟨of_decide_eq_true h.1, of_decide_eq_true h.2⟩
def rng1 : List D → R (List D)
  | [.int j] => grd (inR j) (.ok ((List.range j.toNat).map fun (i : Nat) => D.int (0 + (i : Int))))
  | _ => .bad
def rng2 : List D → R (List D)
  | [.int i, .int j] => grd (inR i && inR j) (.ok ((List.range (j - i).toNat).map fun (k : Nat) => D.int (i + (k : Int))))
  | _ => .bad
theorem outV_of {st : Bool} {σ : L2.St} {F H : Hp} {x : R (List D)} {w : List D → R (List D)} {Q : It → Hp → Prop} {Q' : List V → Hp → Prop} (q : OutI C st σ F H (bd x w) Q)
    (h : ∀ ds vs F' H', OutI C st σ F' H' (w ds) Q → Ext F H F' H' → Same F' H' → Views C.K F' H' ds vs → Q' vs H') : OutV C σ F H x Q' := by
  cases x with
  | bad => exact q
  | err c => exact q
  | ok ds => exact fun vs F' H' x s w => h ds vs F' H' (OutI.later q x) x s w
theorem grdI {st : Bool} {σ : L2.St} {F H : Hp} {Q : It → Hp → Prop} {c : Bool} {x : R (List D)} (o : OutI C st σ F H (grd c x) Q) : c = true ∧ OutI C st σ F H x Q := by
  cases c with
  | true => exact ⟨rfl, o⟩
  | false => exact o.elim
theorem i_range1 {fs : En → R (List D)} (hm : X.mg "range" = none) (ha : PA X [a] (tV C fs)) (hg : Gl X "range" := by rfl) (hs : starEach [a] X.env = [(false, eval a X.env)] := by rfl) :
    PI X tg (.Call (.Name "range" p) [a] [] pos) (tI C true (irg fs rng1)) := (pi_range1 hg hm ha hs).mono fun σ H Q ⟨ρ, F, r, q⟩ => ⟨ρ, F, r, outV_of q fun ds vs F' H' o x s w => by
      unfold rng1 at o
      split at o
      · obtain ⟨z, o⟩ := grdI o
        obtain ⟨v, rfl, w1⟩ := Views.one w
        obtain rfl : v = V.int _ := w1
        obtain ⟨h1, h2⟩ := inR_of z
        exact ⟨_, rfl, h1, h2, o _ F' H' (Ext.refl _ _) s iter_range⟩
      · exact o.elim⟩
theorem i_range2 {fs : En → R (List D)} (hm : X.mg "range" = none) (ha : PA X [a, b] (tV C fs)) (hg : Gl X "range" := by rfl) (hs : starEach [a, b] X.env = [(false, eval a X.env), (false, eval b X.env)] := by rfl) (hs2 : starEach [b] X.env = [(false, eval b X.env)] := by rfl) :
    PI X tg (.Call (.Name "range" p) [a, b] [] pos) (tI C true (irg fs rng2)) := (pi_range2 hg hm ha hs hs2).mono fun σ H Q ⟨ρ, F, r, q⟩ => ⟨ρ, F, r, outV_of q fun ds vs F' H' o x s w => by
      unfold rng2 at o
      split at o
      · obtain ⟨z, o⟩ := grdI o
        rw [Bool.and_eq_true] at z
        obtain ⟨v, u, rfl, w1, w2⟩ := Views.two w
        obtain rfl : v = V.int _ := w1
        obtain rfl : u = V.int _ := w2
        obtain ⟨h1, h2⟩ := inR_of z.1
        obtain ⟨h3, h4⟩ := inR_of z.2
        exact ⟨_, _, rfl, ⟨h1, h2, h3, h4⟩, o _ F' H' (Ext.refl _ _) s iter_range⟩
      · exact o.elim⟩
def loopD (g : D → En → Option En) (gb : En → R Fl) : List D → En → R Fl
  | [], ρ => .ok (.next ρ)
  | d :: ds, ρ => match g d ρ with
    | none => .bad
    | some ρ1 => bd (gb ρ1) fun r => match r with
      | .next ρ' => loopD g gb ds ρ'
      | .cont ρ' => loopD g gb ds ρ'
      | .brk ρ' => .ok (.next ρ')
      | .ret o d => .ok (.ret o d)
def sFor (f : En → R (List D)) (g : D → En → Option En) (gb : En → R Fl) : En → R Fl := fun ρ => bd (f ρ) fun ds => loopD g gb ds ρ
theorem s_for {iter : Expr} {body : List Stmt} {fs : En → R (List D)} {gg : D → En → Option En} {gb : En → R Fl} {own : List Nat} (hc : X.calm = true) (hi : PI X tg iter (tI C true fs)) (hg : PG X tg (tG C own gg)) (hb : PSs X body (tS C gb))
    (hp : PassesOwn (model X.prog X.w) X.A X.env X.xe) (hs : ∀ x, foldedSetIterable iter X.env x = pure x := by intro _; rfl) : PS X (.For tg iter body [] pos) (tS C (sFor fs gg gb)) :=
  (ps_for hp hc hi hg hb hs).mono fun T σ H ⟨ρ, F, r, q⟩ => by
    refine ⟨ρ, F, r, ?_⟩
    have q' : Post C T F (bd (fs ρ) fun ds => loopD gg gb ds ρ) := q
    cases hf : fs ρ with
    | bad => rw [hf] at q'; exact q'
    | err c => rw [hf] at q'; exact fun F' H' x s => r.err q' x s
    | ok ds =>
      rw [hf, bd_ok] at q'
      intro J F1 H1 x1 s1 it
      rw [if_pos rfl] at it
      refine ⟨fun i m σ H => m = ds.length - i ∧ i ≤ ds.length ∧ ∃ ρ F, Rel C ρ σ F H ∧ Same F1 F ∧ Post C T F1 (loopD gg gb (ds.drop i) ρ), ⟨_, rfl, Nat.zero_le _, ρ, F1, r.grow x1 s1, Same.refl _, Post.up q' x1.f⟩, ?_⟩
      rintro i m σ H ⟨rfl, hi, ρ, F, r, sf, q⟩
      obtain ⟨it1, it2⟩ := it i F H (jn_in (sf.trans r.sub) r.ext.h) sf r.sub
      by_cases hlt : i < ds.length
      · obtain ⟨go, y⟩ := it1 hlt
        have e : ds.drop i = ds[i] :: ds.drop (i + 1) := List.drop_eq_getElem_cons hlt
        rw [e] at q
        refine .inr ⟨go, fun σ' H' => ∃ ρ F, Rel C ρ σ' F H' ∧ Same F1 F ∧ Post C T F1 (loopD gg gb (ds.drop (i + 1)) ρ), fun σ' H' p2 => ⟨_, by omega, rfl, hlt, p2⟩, fun v H' yy => ?_⟩
        obtain ⟨F3, d, hd, x3, s3, w3⟩ := y v H' yy
        rw [List.getElem?_eq_getElem hlt] at hd
        cases hd
        refine ⟨ρ, F3, ds[i], r.grow x3 s3, w3, ?_⟩
        unfold loopD at q
        cases hgg : gg ds[i] ρ with
        | none => rw [hgg] at q; exact q
        | some ρ1 =>
          rw [hgg] at q
          have q2 : Post C T F1 (bd (gb ρ1) fun r => match r with
            | .next ρ' => loopD gg gb (ds.drop (i + 1)) ρ'
            | .cont ρ' => loopD gg gb (ds.drop (i + 1)) ρ'
            | .brk ρ' => .ok (.next ρ')
            | .ret o d => .ok (.ret o d)) := q
          intro σ2 _ r2
          refine ⟨ρ1, F3, r2, ?_⟩
          have s13 : Same F1 F3 := sf.trans x3.f
          cases hb : gb ρ1 with
          | bad => rw [hb] at q2; exact q2
          | err c => rw [hb] at q2; exact q2
          | ok fl =>
            rw [hb] at q2
            cases fl with
            | next ρ' => exact fun σ' F' H' s' r' => ⟨ρ', F', r', s13.trans s', q2⟩
            | cont ρ' => exact fun σ' F' H' s' r' => ⟨ρ', F', r', s13.trans s', q2⟩
            | brk ρ' => exact fun σ' F' H' s' r' => q2 σ' F' H' (s13.trans s') r'
            | ret o d => exact q2
      · have e : i = ds.length := by omega
        subst e
        rw [List.drop_length] at q
        exact .inl ⟨it2 rfl, q σ F H sf r⟩
def whileD (t : En → R Bool) (gb : En → R Fl) : Nat → En → R Fl
  | 0, _ => .bad
  | n + 1, ρ => bd (t ρ) fun c => if c = true then bd (gb ρ) fun r => match r with
      | .next ρ' => whileD t gb n ρ'
      | .cont ρ' => whileD t gb n ρ'
      | .brk ρ' => .ok (.next ρ')
      | .ret o d => .ok (.ret o d)
    else .ok (.next ρ)
theorem s_while {body : List Stmt} {t : En → R Bool} {gb : En → R Fl} (n : Nat) (hc : PT X c (tT C t)) (hb : PSs X body (tS C gb)) (hp : PassesOwn (model X.prog X.w) X.A X.env X.xe) : PS X (.While c body [] pos) (tS C (whileD t gb n)) :=
  (ps_while hp hc hb).mono fun T σ H ⟨ρ, F, r, q⟩ => by
    refine ⟨fun m σ H => ∃ ρ F1, Rel C ρ σ F1 H ∧ Same F F1 ∧ Post C T F (whileD t gb m ρ), ⟨n, ρ, F, r, Same.refl _, q⟩, ?_⟩
    rintro m σ H ⟨ρ, F1, r, sf, q⟩
    refine ⟨ρ, F1, r, ?_⟩
    cases m with
    | zero => exact q.elim
    | succ m =>
      unfold whileD at q
      refine outT_of r (Post.up q sf) fun d F' H' hd q' sf' r' => ?_
      simp only [hd, bd_ok] at q
      cases d with
      | false =>
        rw [if_neg Bool.false_ne_true] at q ⊢
        exact q σ F' H' (sf.trans sf') r'
      | true =>
        rw [if_pos rfl] at q ⊢
        refine ⟨fun σ H => ∃ ρ F1, Rel C ρ σ F1 H ∧ Same F F1 ∧ Post C T F (whileD t gb m ρ), fun σ' H' z => ⟨m, Nat.lt_succ_self _, z⟩, ρ, F', r', ?_⟩
        have s13 := sf.trans sf'
        cases hb : gb ρ with
        | bad => rw [hb] at q; exact q
        | err c => rw [hb] at q; exact q
        | ok fl =>
          rw [hb] at q
          cases fl with
          | next ρ' => exact fun σ' F' H' s' r' => ⟨ρ', F', r', s13.trans s', q⟩
          | cont ρ' => exact fun σ' F' H' s' r' => ⟨ρ', F', r', s13.trans s', q⟩
          | brk ρ' => exact fun σ' F' H' s' r' => q σ' F' H' (s13.trans s') r'
          | ret o d => exact q
def Cd.nox (C : Cd) : Cd := { C with XW := fun _ _ _ => False }
theorem Rel.nox {ρ : En} {σ : L2.St} {F H : Hp} (r : Rel C ρ σ F H) : Rel C.nox ρ σ F H := ⟨r.ext, r.sub, r.len, r.slot, r.ownF, r.apartF, r.lend, r.wok⟩
def wipeR (ρ : En) : List Nat → En
  | [] => ρ
  | v :: vs => (wipeR ρ vs).set v none
theorem Rel.wipe {ρ : En} {σ : L2.St} {F H : Hp} (r : Rel C ρ σ F H) : ∀ own : List Nat, (own.all fun v => (C.ln v).isNone) = true → Rel C (wipeR ρ own) (L2.wipe σ own) F H
  | [], _ => r
  | v :: own, h => by
    rw [List.all_cons, Bool.and_eq_true] at h
    exact (Rel.wipe r own h.2).forget v none (by simpa using h.1)
def lcStep (g : D → En → Option En) (t : En → R Bool) (f : En → R D) (ρ : En) (d : D) : R (Option D) := match g d ρ with
  | none => .bad
  | some ρ1 => match t ρ1 with
    | .ok true => match f ρ1 with
      | .ok z => .ok (some z)
      | _ => .bad
    | .ok false => .ok none
    | _ => .bad
def lcGo (g : D → En → Option En) (t : En → R Bool) (f : En → R D) (ρ : En) : List D → R (List D)
  | [] => .ok []
  | d :: ds => bd (lcStep g t f ρ d) fun o => bd (lcGo g t f ρ ds) fun zs => .ok (match o with | some z => z :: zs | none => zs)
def lcD (own : List Nat) (fi : En → R (List D)) (g : D → En → Option En) (t : En → R Bool) (f : En → R D) : En → R D := fun ρ => bd (fi ρ) fun ds =>
  grd (decide (ds.length < sizeLine)) (bd (lcGo g t f (wipeR ρ own) ds) fun zs => .ok (.lst zs))
theorem Rel.other {ρ : En} {σ : L2.St} {F H : Hp} {p : Addr} {o : HO} (r : Rel C ρ σ F H) (nf : F p = none) (n0 : C.H0 p = none) (ap : ∀ (j : Nat) (e : D) (b : Addr), ρ[j]? = some (some (true, e)) → σ[j]? = some (some (.ref b)) → p ∉ foot H b e) : Rel C ρ σ F (upd H p o) where
  ext := ⟨r.ext.f, fun b x h => by rw [upd_ne (ne_of_none h n0)]; exact r.ext.h b x h, r.ext.n⟩
  sub := same_upd2 r.sub nf
  len := r.len
  slot := r.slot
  ownF := fun i d e => by
    obtain ⟨a, q, n, nd, ow⟩ := r.ownF i d e
    have hp := ap i d a e q
    have hf : foot (upd H p o) a d = foot H a d := foot_same ow fun b hb => upd_ne fun (z : b = p) => hp (z ▸ hb)
    rw [← hf] at n nd
    refine ⟨a, q, n, nd, ow.at (Same.refl _) fun b hb u hu => ?_⟩
    rw [upd_ne (fun (z : b = p) => hp (z ▸ hb))]
    exact hu
  apartF := fun i j d e a b c h1 h2 h3 h4 h5 h6 => by
    have hp := ap i d a h1 h3
    have hp' := ap j e b h2 h4
    obtain ⟨a1, q1, _, _, w1⟩ := r.ownF i d h1
    rw [h3] at q1; cases q1
    obtain ⟨b1, q2, _, _, w2⟩ := r.ownF j e h2
    rw [h4] at q2; cases q2
    rw [foot_same w1 fun c hc => upd_ne fun (z : c = p) => hp (z ▸ hc)] at h5
    rw [foot_same w2 fun c hc => upd_ne fun (z : c = p) => hp' (z ▸ hc)] at h6
    exact r.apartF i j d e a b c h1 h2 h3 h4 h5 h6
  wok := r.wok
  lend := r.lend
theorem lcStep_err {gg : D → En → Option En} {t : En → R Bool} {ρ : En} {d : D} {c : Str} : lcStep gg t f ρ d ≠ .err c := by
  unfold lcStep
  intro h
  split at h
  · cases h
  · split at h
    · split at h <;> cases h
    · cases h
    · cases h
theorem lcGo_err {gg : D → En → Option En} {t : En → R Bool} {ρ : En} {c : Str} : ∀ {ds : List D}, lcGo gg t f ρ ds ≠ .err c
  | [], h => by cases h
  | d :: ds, h => by
    unfold lcGo at h
    cases h1 : lcStep gg t f ρ d with
    | bad => rw [h1] at h; cases h
    | err c => exact lcStep_err h1
    | ok o =>
      rw [h1, bd_ok] at h
      cases h2 : lcGo gg t f ρ ds with
      | bad => rw [h2] at h; cases h
      | err c => exact lcGo_err h2
      | ok zs => rw [h2] at h; cases h
theorem lcGo_cons {gg : D → En → Option En} {t : En → R Bool} {ρ : En} {d : D} {ds zs : List D} (h : lcGo gg t f ρ (d :: ds) = .ok zs) : ∃ o ws, lcStep gg t f ρ d = .ok o ∧ lcGo gg t f ρ ds = .ok ws ∧ zs = (match o with | some z => z :: ws | none => ws) := by
  unfold lcGo at h
  cases h1 : lcStep gg t f ρ d with
  | bad => rw [h1] at h; cases h
  | err c => rw [h1] at h; cases h
  | ok o =>
    rw [h1, bd_ok] at h
    cases h2 : lcGo gg t f ρ ds with
    | bad => rw [h2] at h; cases h
    | err c => rw [h2] at h; cases h
    | ok ws => rw [h2] at h; cases h; exact ⟨o, ws, rfl, rfl, rfl⟩
theorem lc_ok {st : Bool} {fi : En → R (List D)} {gg : D → En → Option En} {t : En → R Bool} {own : List Nat} (hln : (own.all fun v => (C.ln v).isNone) = true) : ∀ σ H Q, tO C (lcD own fi gg t f) σ H Q → tLc (tI C st fi) (tG C.nox own gg) (tT C.nox t) (tE C.nox f) own σ H Q := by
  rintro σ H Q ⟨ρ, F, r, q⟩
  refine ⟨ρ, F, r, ?_⟩
  unfold lcD at q
  cases hfi : fi ρ with
  | bad => rw [hfi] at q; exact q
  | err c => rw [hfi] at q; exact q
  | ok ds =>
    rw [hfi, bd_ok] at q
    intro J F1 H1 x1 s1 it
    replace it : IterOk C.K J H1 F1 ds := by
      cases st with
      | true => rw [if_pos rfl] at it; exact it.base (jn_in s1 (r.ext.h.trans x1.h))
      | false => rw [if_neg Bool.false_ne_true] at it; exact it
    obtain ⟨z, q⟩ := grd_out q
    have z := of_decide_eq_true z
    intro D hD
    cases hgo : lcGo gg t f (wipeR ρ own) ds with
    | bad => rw [hgo] at q; exact q.elim
    | err c => exact absurd hgo lcGo_err
    | ok all =>
      rw [hgo, bd_ok] at q
      have q := Out.later q x1
      have r1 := r.grow x1 s1
      have d0 : C.H0 D = none := r1.ext.h.free hD
      have fd : F1 D = none := s1.free hD
      have ap : ∀ H', Same H1 H' → ∀ (j : Nat) (e : DL.D) (b : Addr), ρ[j]? = some (some (true, e)) → σ[j]? = some (some (.ref b)) → D ∉ foot H' b e := fun H' s' j e b h1 h2 h3 => by
        obtain ⟨a, q1, _, _, o⟩ := r1.ownF j e h1
        rw [h2] at q1
        cases q1
        rw [foot_grow s' o] at h3
        obtain ⟨u, hu⟩ := o.foot D h3
        rw [hD] at hu
        cases hu
      refine ⟨fun i m H => m = ds.length - i ∧ i ≤ ds.length ∧ ∃ F2 acc zs ws, Rel C ρ σ F2 H ∧ Ext F1 H1 F2 H ∧ F2 D = none ∧ H D = some (.lst acc) ∧ Reps C.K F2 zs acc ∧ zs.length ≤ i ∧ lcGo gg t f (wipeR ρ own) (ds.drop i) = .ok ws ∧ all = zs ++ ws,
        ⟨_, rfl, Nat.zero_le _, F1, [], [], all, r1.other fd d0 (ap H1 (Same.refl _)), Ext.heap (same_upd hD), fd, upd_same, .nil, Nat.zero_le _, hgo, rfl⟩, ?_⟩
      rintro i m H2 ⟨rfl, hi, F2, acc, zs, ws, r2, x2, f2, h2, rz, lz, hw, ha⟩
      obtain ⟨it1, it2⟩ := it i F2 H2 x2.h x2.f r2.sub
      by_cases hlt : i < ds.length
      · obtain ⟨go, y⟩ := it1 hlt
        have e : ds.drop i = ds[i] :: ds.drop (i + 1) := List.drop_eq_getElem_cons hlt
        rw [e] at hw
        obtain ⟨o, ws', hs, hw', hz⟩ := lcGo_cons hw
        refine .inr ⟨go, fun H => ∃ F2 acc zs ws, Rel C ρ σ F2 H ∧ Ext F1 H1 F2 H ∧ F2 D = none ∧ H D = some (.lst acc) ∧ Reps C.K F2 zs acc ∧ zs.length ≤ i + 1 ∧ lcGo gg t f (wipeR ρ own) (ds.drop (i + 1)) = .ok ws ∧ all = zs ++ ws,
          fun H' p => ⟨_, by omega, rfl, hlt, p⟩, fun v H3 yy => ?_⟩
        obtain ⟨F3, d, hd, x3, s3, w3⟩ := y v H3 yy
        rw [List.getElem?_eq_getElem hlt] at hd
        cases hd
        have r3 := r2.grow x3 s3
        refine ⟨wipeR ρ own, F3, ds[i], (r3.nox).wipe own hln, w3, ?_⟩
        unfold lcStep at hs
        cases hgg : gg ds[i] (wipeR ρ own) with
        | none => rw [hgg] at hs; cases hs
        | some ρ1 =>
          rw [hgg] at hs
          intro σ4 e4 r4
          refine ⟨e4.trans (wipe_wipe own own σ fun _ h => h), ρ1, F3, r4, ?_⟩
          dsimp only at hs
          cases ht : t ρ1 with
          | bad => rw [ht] at hs; cases hs
          | err c => rw [ht] at hs; cases hs
          | ok b =>
            rw [ht] at hs
            intro F5 H5 x5 s5
            have x35 := x3.trans x5
            have hD5 : H5 D = some (.lst acc) := x35.h _ _ h2
            have fD5 : F5 D = none := x35.keepN h2 f2
            cases b with
            | false =>
              rw [if_neg Bool.false_ne_true]
              cases hs
              exact ⟨F5, acc, zs, ws', (r3.grow x5 s5), x2.trans x35, fD5, hD5, rz.mono x35.f, by omega, hw', by rw [ha, hz]⟩
            | true =>
              rw [if_pos rfl]
              refine ⟨ρ1, F5, r4.grow x5 s5, ?_⟩
              dsimp only at hs
              cases hf : f ρ1 with
              | bad => rw [hf] at hs; cases hs
              | err c => rw [hf] at hs; cases hs
              | ok zz =>
                rw [hf] at hs
                cases hs
                intro yv F6 H6 x6 s6 w6
                have x26 := x35.trans x6
                have hD6 : H6 D = some (.lst acc) := x26.h _ _ h2
                have fD6 : F6 D = none := x26.keepN h2 f2
                refine ⟨acc, hD6, by rw [rz.length]; omega, F6, acc ++ [yv], zs ++ [zz], ws', ((r3.grow x5 s5).grow x6 s6).other fD6 d0 (ap H6 (x2.trans x26).h), ?_, fD6, upd_same, (rz.mono x26.f).append (.cons w6 .nil), by rw [List.length_append]; exact Nat.succ_le_succ lz, hw', ?_⟩
                · have x16 := x2.trans x26
                  exact ⟨x16.f, fun b u h => by rw [upd_ne (ne_of_none h hD)]; exact x16.h b u h, x16.n⟩
                · rw [ha, hz, List.append_assoc]; rfl
      · have e : i = ds.length := by omega
        subst e
        rw [List.drop_length] at hw
        cases hw
        rw [List.append_nil] at ha
        subst ha
        refine .inl ⟨it2 rfl, q (.ref D) F2 H2 x2 r2.sub ⟨D, rfl, x1.h.free hD, f2, acc, h2, rz⟩⟩
theorem d_lc {st : Bool} {elt iter : Expr} {ifs : List Expr} {scope : Scope} {own : List (Str × Nat)} {fi : En → R (List D)} {gg : D → En → Option En} {t : En → R Bool} (hc : X.calm = true) (hN : X.N.Nodup) (hi : PI X tg iter (tI C st fi)) (ok : BlkOk X.N X.env.scope scope own)
    (hg : ∀ (s : Shared) (H : Hp) (A : Addr) (cl : List (Str × Addr)) (fp : List Addr), PG (X.blk s H scope (compEnvC scope cl A X.env) fp) tg (tG C.nox (own.map (·.2)) gg)) (ht : ∀ (s : Shared) (H : Hp) (A : Addr) (cl : List (Str × Addr)) (fp : List Addr), PTs (X.blk s H scope (compEnvC scope cl A X.env) fp) ifs (tT C.nox t))
    (he : ∀ (s : Shared) (H : Hp) (A : Addr) (cl : List (Str × Addr)) (fp : List Addr), PE (X.blk s H scope (compEnvC scope cl A X.env) fp) elt (tE C.nox f)) (hs : ∀ x, foldedSetIterable iter X.env x = pure x := by intro _; rfl) (hw : ((own.map (·.2)).all fun v => (C.ln v).isNone) = true := by rfl) :
    PE X (.ListComp elt [⟨tg, iter, ifs, 0⟩] scope pos) (tO C (lcD (own.map (·.2)) fi gg t f)) := (pe_lc hc hN hi ok hg ht he hs).mono (lc_ok hw)
theorem s_setLc {i : Nat} {y : Str} {py : Pos} {spos : Pos} {st : Bool} {elt iter : Expr} {ifs : List Expr} {scope : Scope} {own : List (Str × Nat)} {fi : En → R (List D)} {gg : D → En → Option En} {t : En → R Bool} (hc : X.calm = true) (hN : X.N.Nodup) (hi : PI X tg iter (tI C st fi)) (ok : BlkOk X.N X.env.scope scope own)
    (hg : ∀ (s : Shared) (H : Hp) (A : Addr) (cl : List (Str × Addr)) (fp : List Addr), PG (X.blk s H scope (compEnvC scope cl A X.env) fp) tg (tG C.nox (own.map (·.2)) gg)) (ht : ∀ (s : Shared) (H : Hp) (A : Addr) (cl : List (Str × Addr)) (fp : List Addr), PTs (X.blk s H scope (compEnvC scope cl A X.env) fp) ifs (tT C.nox t))
    (he : ∀ (s : Shared) (H : Hp) (A : Addr) (cl : List (Str × Addr)) (fp : List Addr), PE (X.blk s H scope (compEnvC scope cl A X.env) fp) elt (tE C.nox f))
    (hsw : swapsWith (.ListComp elt [⟨tg, iter, ifs, 0⟩] scope pos) (some (.Name y py)) spos.line X.env = pure true) (hy : X.N[i]? = some y := by rfl) (hyl : X.env.scope.names.lookup y = some .local := by rfl) (hs : ∀ x, foldedSetIterable iter X.env x = pure x := by intro _; rfl) (hw : ((own.map (·.2)).all fun v => (C.ln v).isNone) = true := by rfl) (hl : C.ln i = none := by rfl) :
    PS X (.Assign [.Name y py] (.ListComp elt [⟨tg, iter, ifs, 0⟩] scope pos) spos) (tS C (sSetO i (lcD (own.map (·.2)) fi gg t f))) :=
  (ps_setLc hc hN hy hyl hsw hi ok hg ht he hs).mono fun T σ H ⟨ρ, F, r, q⟩ => lc_ok hw σ H _ ⟨ρ, F, r, out_of r q fun d v F' H' _ q x s r' w => q _ F' H' (Same.refl _) (r'.setN (r.old x.h) (fun a h => r.ext.h.free h) w hl)⟩
def tYesD : En → R Bool := fun _ => .ok true
theorem ts_nil {C : Cd} : PTs X [] (tT C tYesD) := ⟨fun pins s σ H Q I h => pts_nil.run pins s σ H Q I (by
  obtain ⟨ρ, F, r, q⟩ := h
  exact q F H (Ext.refl _ _) r.sub)⟩
theorem ts_one {C : Cd} {t : En → R Bool} (h : PT X c (tT C t)) : PTs X [c] (tT C t) := pts_one h
end
end DL
namespace DL
open PySem PySem.Spec PyProof.Rows L2
section
variable {X : Cx} {C : Cd} {e a b c tg : Expr} {f g k : En → R D} {pos p : Pos} {st : Stmt} {rest : List Stmt} {s1 s2 : En → R Fl} {K : Kx} {F H : Hp}
def lkD {κ : Type} [DecidableEq κ] (kds : List (κ × D)) (q : κ) : Option D := (kds.find? fun kv => decide (kv.1 = q)).map (·.2)
def putD {κ : Type} [DecidableEq κ] (kds : List (κ × D)) (q : κ) (v : D) : List (κ × D) :=
  if (kds.any fun kv => decide (kv.1 = q)) = true then kds.map (fun kv => if kv.1 = q then (kv.1, v) else kv) else kds ++ [(q, v)]
theorem RepK.look {q : Key} : ∀ {kds : List (Key × D)} {kvs : List (Key × V)}, RepK K F kds kvs → (∃ d v, lkD kds q = some d ∧ valV kvs q = some v ∧ Rep K F d v) ∨ (lkD kds q = none ∧ valV kvs q = none)
  | _, _, .nil => .inr ⟨rfl, rfl⟩
  | _, _, .cons (k := k) (d := d) (v := v) (ds := ds) (vs := vs) r t => by
    by_cases h : k = q
    · refine .inl ⟨d, v, ?_, ?_, r⟩
      · unfold lkD; rw [List.find?_cons_of_pos (by simpa using h)]; rfl
      · unfold valV; rw [List.find?_cons_of_pos (by simpa using h)]; rfl
    · have e1 : lkD ((k, d) :: ds) q = lkD ds q := by unfold lkD; rw [List.find?_cons_of_neg (by simpa using h)]
      have e2 : valV ((k, v) :: vs) q = valV vs q := by unfold valV; rw [List.find?_cons_of_neg (by simpa using h)]
      rw [e1, e2]
      exact RepK.look t
theorem RepT.look {q : List Key} : ∀ {kds : List (List Key × D)} {kvs : List (List Key × V)}, RepT K F kds kvs → (∃ d v, lkD kds q = some d ∧ valV kvs q = some v ∧ Rep K F d v) ∨ (lkD kds q = none ∧ valV kvs q = none)
  | _, _, .nil => .inr ⟨rfl, rfl⟩
  | _, _, .cons (k := k) (d := d) (v := v) (ds := ds) (vs := vs) r t => by
    by_cases h : k = q
    · refine .inl ⟨d, v, ?_, ?_, r⟩
      · unfold lkD; rw [List.find?_cons_of_pos (by simpa using h)]; rfl
      · unfold valV; rw [List.find?_cons_of_pos (by simpa using h)]; rfl
    · have e1 : lkD ((k, d) :: ds) q = lkD ds q := by unfold lkD; rw [List.find?_cons_of_neg (by simpa using h)]
      have e2 : valV ((k, v) :: vs) q = valV vs q := by unfold valV; rw [List.find?_cons_of_neg (by simpa using h)]
      rw [e1, e2]
      exact RepT.look t
theorem RepK.any {q : Key} : ∀ {kds : List (Key × D)} {kvs : List (Key × V)}, RepK K F kds kvs → (kds.any fun kv => decide (kv.1 = q)) = (kvs.any fun kv => decide (kv.1 = q))
  | _, _, .nil => rfl
  | _, _, .cons r t => by rw [List.any_cons, List.any_cons, RepK.any t]
theorem RepT.any {q : List Key} : ∀ {kds : List (List Key × D)} {kvs : List (List Key × V)}, RepT K F kds kvs → (kds.any fun kv => decide (kv.1 = q)) = (kvs.any fun kv => decide (kv.1 = q))
  | _, _, .nil => rfl
  | _, _, .cons r t => by rw [List.any_cons, List.any_cons, RepT.any t]
theorem RepK.app : ∀ {kds kes : List (Key × D)} {kvs kws : List (Key × V)}, RepK K F kds kvs → RepK K F kes kws → RepK K F (kds ++ kes) (kvs ++ kws)
  | _, _, _, _, .nil, s => s
  | _, _, _, _, .cons r t, s => .cons r (RepK.app t s)
theorem RepT.app : ∀ {kds kes : List (List Key × D)} {kvs kws : List (List Key × V)}, RepT K F kds kvs → RepT K F kes kws → RepT K F (kds ++ kes) (kvs ++ kws)
  | _, _, _, _, .nil, s => s
  | _, _, _, _, .cons r t, s => .cons r (RepT.app t s)
theorem RepK.map {q : Key} {d : D} {v : V} (w : Rep K F d v) : ∀ {kds : List (Key × D)} {kvs : List (Key × V)}, RepK K F kds kvs → RepK K F (kds.map fun kv => if kv.1 = q then (kv.1, d) else kv) (kvs.map fun kv => if kv.1 = q then (kv.1, v) else kv)
  | _, _, .nil => .nil
  | _, _, .cons (k := k) r t => by
    rw [List.map_cons, List.map_cons]
    by_cases h : k = q
    · simp only [h, if_true]; exact .cons w (RepK.map w t)
    · simp only [h, if_false]; exact .cons r (RepK.map w t)
theorem RepT.map {q : List Key} {d : D} {v : V} (w : Rep K F d v) : ∀ {kds : List (List Key × D)} {kvs : List (List Key × V)}, RepT K F kds kvs → RepT K F (kds.map fun kv => if kv.1 = q then (kv.1, d) else kv) (kvs.map fun kv => if kv.1 = q then (kv.1, v) else kv)
  | _, _, .nil => .nil
  | _, _, .cons (k := k) r t => by
    rw [List.map_cons, List.map_cons]
    by_cases h : k = q
    · simp only [h, if_true]; exact .cons w (RepT.map w t)
    · simp only [h, if_false]; exact .cons r (RepT.map w t)
theorem RepK.put {q : Key} {d : D} {v : V} (w : Rep K F d v) {kds : List (Key × D)} {kvs : List (Key × V)} (r : RepK K F kds kvs) : RepK K F (putD kds q d) (putK kvs q v) := by
  unfold putD putK
  rw [r.any]
  split
  · exact RepK.map w r
  · exact r.app (.cons w .nil)
theorem RepT.put {q : List Key} {d : D} {v : V} (w : Rep K F d v) {kds : List (List Key × D)} {kvs : List (List Key × V)} (r : RepT K F kds kvs) : RepT K F (putD kds q d) (putK kvs q v) := by
  unfold putD putK
  rw [r.any]
  split
  · exact RepT.map w r
  · exact r.app (.cons w .nil)
theorem RepT.length : ∀ {ds : List (List Key × D)} {vs : List (List Key × V)}, RepT K F ds vs → vs.length = ds.length
  | _, _, .nil => rfl
  | _, _, .cons _ t => congrArg (· + 1) (RepT.length t)
def keyD : D → Option Key
  | .int i => some (.inl i)
  | .str x => some (.inr x)
  | _ => none
theorem View.key {d : D} {v : V} {q : Key} (w : View K F H d v) (h : keyD d = some q) : v = kV q := by
  cases d with
  | int i => cases h; exact w
  | str i => cases h; exact w
  | _ => cases h
theorem Rep.key {d : D} {v : V} {q : Key} (w : Rep K F d v) (h : keyD d = some q) : v = kV q := by
  cases w with
  | int i => cases h; rfl
  | str i => cases h; rfl
  | _ => cases h
def keysD : List D → Option (List Key)
  | [] => some []
  | d :: ds => (keyD d).bind fun q => (keysD ds).map (q :: ·)
theorem Reps.keys : ∀ {ds : List D} {vs : List V} {qs : List Key}, Reps K F ds vs → keysD ds = some qs → vs = qs.map kV
  | _, _, _, .nil, h => by cases h; rfl
  | _, _, _, .cons (d := d) (ds := ds) r t, h => by
    unfold keysD at h
    cases h1 : keyD d with
    | none => rw [h1] at h; cases h
    | some q =>
      rw [h1] at h
      cases h2 : keysD ds with
      | none => rw [h2] at h; cases h
      | some qs => rw [h2] at h; cases h; rw [r.key h1, Reps.keys t h2]; rfl
def keyT : D → Option (List Key)
  | .tup ds => keysD ds
  | _ => none
theorem View.keyT {d : D} {v : V} {q : List Key} (w : View K F H d v) (h : DL.keyT d = some q) : ∃ b, v = .ref b ∧ H b = some (.tup (q.map kV)) := by
  cases d with
  | tup ds =>
    obtain ⟨b, vs, rfl, h1, r⟩ := w
    refine ⟨b, rfl, ?_⟩
    rw [h1, Reps.keys r h]
  | _ => cases h
def dGet? : D → D → Option (Option D)
  | .dK kds, q => (keyD q).map (lkD kds)
  | .dT kds, q => (keyT q).map (lkD kds)
  | _, _ => none
theorem get_ok {d q : D} {x y : V} {o : Option D} (h : dGet? d q = some o) (w1 : View K F H d x) (w2 : View K F H q y) : ∃ a ov, x = .ref a ∧ DGet H a y ov ∧ ((∃ z v, o = some z ∧ ov = some v ∧ Rep K F z v) ∨ (o = none ∧ ov = none)) := by
  cases d with
  | dK kds =>
    obtain ⟨a, kvs, rfl, hr, r⟩ := w1
    have h' : (keyD q).map (lkD kds) = some o := h
    cases hk : keyD q with
    | none => rw [hk] at h'; cases h'
    | some kk =>
      rw [hk] at h'
      cases h'
      refine ⟨a, valV kvs kk, rfl, .inl ⟨kvs, kk, hr, w2.key hk, rfl⟩, ?_⟩
      rcases RepK.look (q := kk) r with ⟨z, v, e1, e2, rr⟩ | ⟨e1, e2⟩
      · exact .inl ⟨z, v, e1, e2, rr⟩
      · exact .inr ⟨e1, e2⟩
  | dT kds =>
    obtain ⟨a, kvs, rfl, hr, r⟩ := w1
    have h' : (keyT q).map (lkD kds) = some o := h
    cases hk : keyT q with
    | none => rw [hk] at h'; cases h'
    | some kk =>
      rw [hk] at h'
      cases h'
      obtain ⟨bb, e, hb⟩ := w2.keyT hk
      refine ⟨a, valV kvs kk, rfl, .inr ⟨kvs, kk, bb, hr, e, hb, rfl⟩, ?_⟩
      rcases RepT.look (q := kk) r with ⟨z, v, e1, e2, rr⟩ | ⟨e1, e2⟩
      · exact .inl ⟨z, v, e1, e2, rr⟩
      · exact .inr ⟨e1, e2⟩
  | _ => cases h
def isFlat : D → Bool
  | .non => true
  | .bl _ => true
  | .int _ => true
  | .str _ => true
  | _ => false
def eqF : D → D → Bool
  | .non, .non => true
  | .bl a, .bl b => a == b
  | .bl a, .int b => (if a then 1 else 0) == b
  | .int a, .bl b => a == (if b then 1 else 0)
  | .int a, .int b => a == b
  | .str a, .str b => a == b
  | _, _ => false
theorem Rep.flatV {d : D} {v : V} (w : Rep K F d v) (h : isFlat d = true) : L2.flatV v = true := by
  cases w <;> first | rfl | cases h
theorem View.rep {d : D} {v : V} (w : View K F H d v) (h : isFlat d = true) : Rep K F d v := by
  cases d with
  | non => cases w; exact .non
  | bl b => cases w; exact .bl b
  | int b => cases w; exact .int b
  | str b => cases w; exact .str b
  | _ => cases h
theorem Rep.eqF {d e : D} {v u : V} (w : Rep K F d v) (w' : Rep K F e u) (h : isFlat d = true) (h' : isFlat e = true) : DL.eqF d e = eqV v u := by
  cases w <;> first | (cases h; done) | (cases w' <;> first | (cases h'; done) | rfl)
theorem Reps.flats : ∀ {ds : List D} {vs : List V}, Reps K F ds vs → ds.all isFlat = true → vs.all L2.flatV = true
  | _, _, .nil, _ => rfl
  | _, _, .cons r t, h => by
    rw [List.all_cons, Bool.and_eq_true] at h ⊢
    exact ⟨r.flatV h.1, Reps.flats t h.2⟩
theorem Reps.inF {x : D} {v : V} (w : Rep K F x v) (hx : isFlat x = true) : ∀ {ds : List D} {vs : List V}, Reps K F ds vs → ds.all isFlat = true → (ds.any fun y => DL.eqF y x) = inV v vs
  | _, _, .nil, _ => rfl
  | _, _, .cons r t, h => by
    rw [List.all_cons, Bool.and_eq_true] at h
    unfold inV
    rw [List.any_cons, List.any_cons, r.eqF w h.1 hx, Reps.inF w hx t h.2]
    rfl
def inSeq (neg : Bool) (x : D) (ds : List D) : R D := if (isFlat x && ds.all isFlat) = true then .ok (.bl (xorB neg (ds.any fun y => eqF y x))) else match py x, pys ds with
  | some p, some ps => grd (SeqAt.shaped p && SeqAt.shaped (.list ps)) (.ok (.bl (xorB neg (ps.any fun z => PyData.eqv z p))))
  | _, _ => .bad
def inTup (neg : Bool) (x : D) (ds : List D) : R D := grd (isFlat x && ds.all isFlat) (.ok (.bl (xorB neg (ds.any fun y => eqF y x))))
def inStr (neg : Bool) (x z : Str) : R D := match x.cps.toList with
  | [c] => .ok (.bl (xorB neg (decide (c ∈ z.cps.toList))))
  | _ => .ok (.bl (xorB neg (!(Builtin.Str.occurrences z x 0 z.length 1).isEmpty)))
def dIn (neg : Bool) (x : D) : D → R D
  | .lst ds => inSeq neg x ds
  | .scr ns => inSeq neg x (ns.map .int)
  | .tup ds => inTup neg x ds
  | .str z => match x with | .str y => inStr neg y z | _ => .bad
  | .dK kds => match dGet? (.dK kds) x with | some o => .ok (.bl (xorB neg o.isSome)) | none => .bad
  | .dT kds => match dGet? (.dT kds) x with | some o => .ok (.bl (xorB neg o.isSome)) | none => .bad
  | _ => .bad
def rInAll (K : PySem.W.Frag) (neg : Bool) : R2 := fun x y H Q => rIn K neg x y H Q ∨ (∃ d ds, Dp K H x d ∧ Dp K H y (.list ds) ∧ SeqAt.shaped d = true ∧ SeqAt.shaped (.list ds) = true ∧ Q (.bl (xorB neg (ds.any fun z => PyData.eqv z d))) H) ∨
  (∃ (c : Nat) (z : Str), x = .str ⟨#[c]⟩ ∧ y = .str z ∧ Q (.bl (xorB neg (decide (c ∈ z.cps.toList)))) H) ∨ (∃ i j, x = .str i ∧ y = .str j ∧ Q (.bl (xorB neg (!(Builtin.Str.occurrences j i 0 j.length 1).isEmpty))) H) ∨
  (∃ a o, y = .ref a ∧ DGet H a x o ∧ Q (.bl (xorB neg o.isSome)) H)
theorem op_inAll (hu : X.A.units + 65 < cLine) : OpR X (compareOp .In) (rInAll X.K false) := by
  refine OpR.or op_in_seq (OpR.or (op_inD hu) (OpR.or op_in_sign (OpR.or op_in_str ?_)))
  intro pins s σ H x y v u Q I rx ry h
  obtain ⟨a, o, rfl, g, q⟩ := h
  cases ry
  exact d_in (by omega) I g rx fun s' I' => ⟨.bl _, H, I', rfl, q⟩
theorem op_notInAll (hu : X.A.units + 65 < cLine) : OpR X (compareOp .NotIn) (rInAll X.K true) := by
  refine OpR.or op_notIn_seq (OpR.or (op_notInD hu) (OpR.or op_notIn_sign (OpR.or op_notin_str ?_)))
  intro pins s σ H x y v u Q I rx ry h
  obtain ⟨a, o, rfl, g, q⟩ := h
  cases ry
  exact d_notIn (by omega) I g rx fun s' I' => ⟨.bl _, H, I', rfl, q⟩
theorem xor_if (neg b : Bool) : (if neg = true then !b else b) = xorB neg b := by cases neg <;> rfl
theorem in_ok (neg : Bool) : Op2 C (rInAll C.K neg) (dIn neg) := by
  intro σ F H Q d e x y o s w1 w2
  have seq : ∀ (p : Addr) (ds : List D) (vs : List V), y = .ref p → SqL C.K H p vs → Reps C.K F ds vs → Out C σ F H (fun F' H' => New C.K H F' H') (inSeq neg d ds) Q → (∀ ps, pys ds = some ps → Dp C.K H y (.list ps)) → rInAll C.K neg x y H Q := by
    intro p ds vs ey hq r o hdp
    unfold inSeq at o
    split at o
    · rename_i hf
      rw [Bool.and_eq_true] at hf
      refine .inl ⟨p, vs, ey, .inl hq, (w1.rep hf.1).flatV hf.1, r.flats hf.2, ?_⟩
      rw [xor_if, ← Reps.inF (w1.rep hf.1) hf.1 r hf.2]
      exact fin_flat o s rfl
    · split at o
      · rename_i pp ps hp hps
        obtain ⟨z, o⟩ := grd_out o
        rw [Bool.and_eq_true] at z
        exact .inr (.inl ⟨pp, ps, w1.dp s hp, hdp ps hps, z.1, z.2, fin_flat o s rfl⟩)
      · exact o.elim
  cases e with
  | lst ds =>
    obtain ⟨p, vs, ey, hq, r⟩ := w2
    exact seq p ds vs ey (SqL.of hq) r o fun ps hps => by rw [ey]; exact .lst (SqL.of hq) (Reps.dp s r hps)
  | scr ns =>
    obtain ⟨p, ey, hq⟩ := w2
    refine seq p _ _ ey hq (Reps.of_ints ns) o fun ps hps => ?_
    have : ∀ ns : List Int, pys (ns.map D.int) = some (ns.map PyData.int) := fun ns => by
      induction ns with
      | nil => rfl
      | cons n ns ih => simp only [List.map_cons]; unfold pys; rw [ih]; rfl
    rw [this] at hps
    cases hps
    rw [ey]
    exact .lst hq (dp_ints ns)
  | tup ds =>
    obtain ⟨p, vs, ey, hq, r⟩ := w2
    obtain ⟨hf, o⟩ := grd_out o
    rw [Bool.and_eq_true] at hf
    refine .inl ⟨p, vs, ey, .inr (SqT.of hq), (w1.rep hf.1).flatV hf.1, r.flats hf.2, ?_⟩
    rw [xor_if, ← Reps.inF (w1.rep hf.1) hf.1 r hf.2]
    exact fin_flat o s rfl
  | str z =>
    cases d with
    | str i =>
      obtain rfl : x = .str i := w1
      obtain rfl : y = .str z := w2
      have o' : Out C σ F H (fun F' H' => New C.K H F' H') (inStr neg i z) Q := o
      unfold inStr at o'
      split at o'
      · rename_i c hc
        refine .inr (.inr (.inl ⟨c, z, ?_, rfl, fin_flat o' s rfl⟩))
        rw [show i = ⟨#[c]⟩ by
          cases i with
          | mk cps =>
            congr 1
            exact Array.ext' hc]
      · exact .inr (.inr (.inr (.inl ⟨i, z, rfl, rfl, fin_flat o' s rfl⟩)))
    | _ => exact o.elim
  | dK kds =>
    have o' : Out C σ F H (fun F' H' => New C.K H F' H') (match dGet? (.dK kds) d with | some o => .ok (.bl (xorB neg o.isSome)) | none => .bad) Q := o
    cases hg : dGet? (.dK kds) d with
    | none => rw [hg] at o'; exact o'.elim
    | some oo =>
      rw [hg] at o'
      obtain ⟨a, ov, ey, g, hh⟩ := get_ok hg w2 w1
      refine .inr (.inr (.inr (.inr ⟨a, ov, ey, g, ?_⟩)))
      have e : ov.isSome = oo.isSome := by
        rcases hh with ⟨_, _, rfl, rfl, _⟩ | ⟨rfl, rfl⟩ <;> rfl
      rw [e]
      exact fin_flat o' s rfl
  | dT kds =>
    have o' : Out C σ F H (fun F' H' => New C.K H F' H') (match dGet? (.dT kds) d with | some o => .ok (.bl (xorB neg o.isSome)) | none => .bad) Q := o
    cases hg : dGet? (.dT kds) d with
    | none => rw [hg] at o'; exact o'.elim
    | some oo =>
      rw [hg] at o'
      obtain ⟨a, ov, ey, g, hh⟩ := get_ok hg w2 w1
      refine .inr (.inr (.inr (.inr ⟨a, ov, ey, g, ?_⟩)))
      have e : ov.isSome = oo.isSome := by
        rcases hh with ⟨_, _, rfl, rfl, _⟩ | ⟨rfl, rfl⟩ <;> rfl
      rw [e]
      exact fin_flat o' s rfl
  | _ => exact o.elim
def dIxA (d q : D) : R D := match dGet? d q with
  | some (some z) => .ok z
  | some none => .bad
  | none => dIx d q
theorem d_ixA (hC : X.K = C.K.fr) (hu : X.A.units + 1 < cLine) (ha : PE X a (tR C f)) (hb : PE X b (tR C g)) (hs : PlainIx b := by exact fun _ _ => rfl) : PE X (.Subscript a b pos) (tE C (bop f g dIxA)) :=
  (PE.or (pe_ix (hC ▸ ix_seq) ha hb hs) (pe_dget hu ha hb hs)).mono (by
    rintro σ H Q ⟨ρ, F, rl, q⟩
    unfold bop at q
    cases hf : f ρ with
    | bad => simp only [hf, bd_bad] at q; exact q.elim
    | err c => simp only [hf, bd_err] at q; exact .inl ⟨ρ, F, rl, by rw [hf]; exact q⟩
    | ok d =>
      simp only [hf, bd_ok] at q
      cases hg : g ρ with
      | bad => simp only [hg, bd_bad] at q; exact q.elim
      | err c =>
        simp only [hg, bd_err] at q
        refine .inl ⟨ρ, F, rl, ?_⟩
        rw [hf]
        exact fun v F1 H1 x1 s1 w1 => ⟨ρ, F1, rl.grow x1 s1, by rw [hg]; exact Out.later q x1⟩
      | ok z =>
        simp only [hg, bd_ok] at q
        cases hq : dGet? d z with
        | none =>
          unfold dIxA at q
          rw [hq] at q
          refine .inl ⟨ρ, F, rl, ?_⟩
          rw [hf]
          intro v F1 H1 x1 s1 w1
          refine ⟨ρ, F1, rl.grow x1 s1, ?_⟩
          rw [hg]
          intro y F2 H2 x2 s2 w2
          exact ix_ok (Out.later (Out.later q x1) x2) s2 (w1.mono x2.f x2.h) w2
        | some oo =>
          unfold dIxA at q
          rw [hq] at q
          cases oo with
          | none => exact q.elim
          | some zz =>
            refine .inr ⟨ρ, F, rl, ?_⟩
            rw [hf]
            intro v F1 H1 x1 s1 w1
            refine ⟨ρ, F1, rl.grow x1 s1, ?_⟩
            rw [hg]
            intro y F2 H2 x2 s2 w2
            obtain ⟨aa, ov, e1, gg, hh⟩ := get_ok hq (w1.mono x2.f x2.h) w2
            rcases hh with ⟨z', v', e2, rfl, rr⟩ | ⟨e2, _⟩
            · cases e2
              exact ⟨aa, v', e1, gg, q v' F2 H2 (x1.trans x2) s2 rr⟩
            · cases e2)
end
end DL
namespace DL
open PySem PySem.Spec PyProof.Rows L2
section
variable {X : Cx} {C : Cd} {e a b c tg : Expr} {f g k : En → R D} {pos p apos cpos : Pos} {st : Stmt} {rest : List Stmt} {s1 s2 : En → R Fl} {K : Kx} {F H : Hp}
def dGet2 (d q x : D) : R D := match dGet? d q with
  | some o => .ok (o.getD x)
  | none => .bad
def isDD : D → Bool
  | .dK _ => true
  | .dT _ => true
  | _ => false
def sDrop (f : En → R D) : En → R Fl := fun ρ => bd (f ρ) fun _ => .ok (.next ρ)
def sAppend (i : Nat) (f : En → R D) : En → R Fl := fun ρ => match ρ[i]? with
  | some (some (true, .lst ds)) => bd (f ρ) fun z => grd (decide (ds.length < sizeLine)) (.ok (.next (ρ.set i (some (true, .lst (ds ++ [z]))))))
  | _ => .bad
theorem grd_post {T : Ends} {B : Hp} {c : Bool} {x : R Fl} (q : Post C T B (grd c x)) : c = true ∧ Post C T B x := by
  cases c with
  | true => exact ⟨rfl, q⟩
  | false => exact q.elim
theorem s_append {i : Nat} (ho : PE X a (tVar i)) (he : PE X e (tE C f))
    (hbase : attributeBase a "append" X.env (eval a X.env) = eval a X.env := by rfl)
    (hfew : ((backTo cpos (starEach [e] X.env)).all (fun x => !x.1) && (backToKw cpos (keywordEach [] X.env)).all (fun x => x.1.isSome)
      && decide (([e] : List Expr).length + ([] : List Keyword).length + (if ([] : List Keyword).isEmpty then 0 else 1) < 30)) = true := by rfl)
    (hline : (apos.endLine == cpos.line) = true := by rfl) (hs : starEach [e] X.env = (false, eval e X.env) :: starEach [] X.env := by rfl) (hplain : (backTo cpos (starEach [] X.env)).any (·.1) = false := by rfl)
    (hsw : swapsWith (.Call (.Attribute a "append" apos) [e] [] cpos) none pos.line X.env = pure false := by rfl) : PS X (.Expr (.Call (.Attribute a "append" apos) [e] [] cpos) pos) (tS C (sAppend i f)) :=
  (ps_expr (pe_bm PySem.F.plainAttrs_list PySem.F.slot_list_append PySem.F.type_list_append mt_append ho (pa_cons he pa_nil hs) hbase hfew hline hs hplain) hsw).mono fun T σ H ⟨ρ, F, r, q⟩ => by
    unfold sAppend at q
    split at q
    · rename_i ds hd
      obtain ⟨l, hl, n, n0, vs, h1, r1⟩ := r.own i _ hd
      refine ⟨_, hl, .inl ⟨rfl, _, SqL.of h1⟩, ρ, F, r, out_of r q fun z v F' H' _ q x s r' w => ?_⟩
      obtain ⟨hlen, q⟩ := grd_post q
      refine ⟨l, vs, v, rfl, rfl, x.h _ _ h1, by rw [r1.length]; exact of_decide_eq_true hlen, ?_⟩
      exact q σ F' _ (Same.refl _) (r'.write hd hl ⟨_, upd_same, (r1.mono x.f).append (.cons w .nil)⟩)
    · exact q.elim
def sExtend (i : Nat) (f : En → R D) : En → R Fl := fun ρ => match ρ[i]? with
  | some (some (true, .lst ds)) => bd (f ρ) fun z => match z with | .lst es => grd (small (ds.length + es.length)) (.ok (.next (ρ.set i (some (true, .lst (ds ++ es)))))) | _ => .bad
  | _ => .bad
def sOwn0 (i : Nat) (w : List D → List D) : En → R Fl := fun ρ => match ρ[i]? with
  | some (some (true, .lst ds)) => .ok (.next (ρ.set i (some (true, .lst (w ds)))))
  | _ => .bad
def putA (d q v : D) : R D := match d with
  | .lst ds => match q with
    | .int j => match ixN ds.length j with | some n => .ok (.lst (ds.set n v)) | none => .bad
    | _ => .bad
  | .dK kds => match keyD q with | some kk => grd (decide (kds.length < sizeLine)) (.ok (.dK (putD kds kk v))) | none => .bad
  | .dT kds => match keyT q with | some kk => grd (decide (kds.length < sizeLine)) (.ok (.dT (putD kds kk v))) | none => .bad
  | _ => .bad
def sPut (i : Nat) (f g : En → R D) : En → R Fl := fun ρ => match ρ[i]? with
  | some (some (true, d)) => bd (f ρ) fun v => bd (g ρ) fun q => bd (putA d q v) fun d' => .ok (.next (ρ.set i (some (true, d'))))
  | _ => .bad
theorem _root_.L2.PS.or {X : Cx} {e : Stmt} {t t' : TS} (h : PS X e t) (h' : PS X e t') : PS X e (fun T σ H => t T σ H ∨ t' T σ H) := ⟨fun pins s σ H D I q => by
  rcases q with q | q
  · exact h.run pins s σ H D I q
  · exact h'.run pins s σ H D I q⟩
theorem s_put {i : Nat} {pos' : Pos} (hu : X.A.units + 1 < cLine) (ho : PE X a (tVar i)) (hv : PE X e (tE C f)) (hi : PE X b (tR C g)) (hs : swapsWith e (some (.Subscript a b pos')) pos.line X.env = pure false := by rfl)
    (ha : ∀ v, assign (.Subscript a b pos') X.env v = (do
      let ov ← holding [v] (eval a X.env)
      let iv ← holding [v, ov] (eval b X.env)
      standAt pos'
      holding [v, ov, iv] (setItem ov iv v)
      release [v, ov, iv] []) := by intro _; rfl)
    (hs' : swapsWithSole [.Subscript a b pos'] e pos.line X.env = pure false := by rfl) (hw : swappedStores [.Subscript a b pos'] e X.env = pure none := by rfl)
    (h1 : (assignEach [.Subscript a b pos'] X.env).map (·.2) = [assign (.Subscript a b pos') X.env] := by rfl) : PS X (.Assign [.Subscript a b pos'] e pos) (tS C (sPut i f g)) :=
  (PS.or (ps_dput hu ho hi hv hs) (ps_asg hv (pg_sub ho hi set_list ha) hs' hw h1)).mono fun T σ H ⟨ρ, F, r, q⟩ => by
    unfold sPut at q
    split at q
    · rename_i d hd
      obtain ⟨l, hl, n, n0, o⟩ := r.own i d hd
      cases d with
      | lst ds =>
        refine .inr ⟨ρ, F, r, out_of r q fun v xv F1 H1 _ q x1 s1 r1 w1 => ?_⟩
        refine ⟨_, hl, ρ, F1, r1, out_of r1 q fun z xz F2 H2 _ q x2 s2 r2 w2 => ?_⟩
        obtain ⟨vs, h1, rr⟩ := o
        cases z with
        | int jj =>
          have q' : Post C T F2 (bd (match ixN ds.length jj with | some n => .ok (.lst (ds.set n v)) | none => .bad) fun d' => .ok (.next (ρ.set i (some (true, d'))))) := q
          cases hx : ixN ds.length jj with
          | none => rw [hx] at q'; exact q'.elim
          | some m =>
            rw [hx] at q'
            have x12 := x1.trans x2
            obtain rfl : xz = .int jj := w2
            refine ⟨l, vs, jj, m, rfl, rfl, x12.h _ _ h1, by rw [rr.length]; exact hx, ?_⟩
            exact q' σ F2 _ (Same.refl _) (r2.write hd hl ⟨_, upd_same, (rr.mono x12.f).set (w1.mono x2.f) _⟩)
        | _ => exact q.elim
      | dK kds =>
        refine .inl ⟨ρ, F, r, out_of r q fun v xv F1 H1 _ q x1 s1 r1 w1 => ?_⟩
        refine ⟨_, hl, ρ, F1, r1, out_of r1 q fun z xz F2 H2 _ q x2 s2 r2 w2 => ?_⟩
        obtain ⟨vs, h1, rr⟩ := o
        have q' : Post C T F2 (bd (match keyD z with | some kk => grd (decide (kds.length < sizeLine)) (.ok (.dK (putD kds kk v))) | none => .bad) fun d' => .ok (.next (ρ.set i (some (true, d'))))) := q
        cases hx : keyD z with
        | none => rw [hx] at q'; exact q'.elim
        | some kk =>
          rw [hx] at q'
          have x12 := x1.trans x2
          cases hlen : decide (kds.length < sizeLine) with
          | false => simp only [hlen, grd_f, bd_bad] at q'; exact q'.elim
          | true =>
            simp only [hlen, grd_t, bd_ok] at q'
            refine ⟨l, _, rfl, .inl ⟨vs, kk, x12.h _ _ h1, w2.key hx, by rw [rr.length]; exact of_decide_eq_true hlen, rfl⟩, ?_⟩
            exact q' σ F2 _ (Same.refl _) (r2.write hd hl ⟨_, upd_same, (rr.mono x12.f).put (w1.mono x2.f)⟩)
      | dT kds =>
        refine .inl ⟨ρ, F, r, out_of r q fun v xv F1 H1 _ q x1 s1 r1 w1 => ?_⟩
        refine ⟨_, hl, ρ, F1, r1, out_of r1 q fun z xz F2 H2 _ q x2 s2 r2 w2 => ?_⟩
        obtain ⟨vs, h1, rr⟩ := o
        have q' : Post C T F2 (bd (match keyT z with | some kk => grd (decide (kds.length < sizeLine)) (.ok (.dT (putD kds kk v))) | none => .bad) fun d' => .ok (.next (ρ.set i (some (true, d'))))) := q
        cases hx : keyT z with
        | none => rw [hx] at q'; exact q'.elim
        | some kk =>
          rw [hx] at q'
          have x12 := x1.trans x2
          cases hlen : decide (kds.length < sizeLine) with
          | false => simp only [hlen, grd_f, bd_bad] at q'; exact q'.elim
          | true =>
            simp only [hlen, grd_t, bd_ok] at q'
            obtain ⟨bb, e, hb⟩ := w2.keyT hx
            refine ⟨l, _, rfl, .inr ⟨vs, kk, bb, x12.h _ _ h1, e, hb, by rw [rr.length]; exact of_decide_eq_true hlen, rfl⟩, ?_⟩
            exact q' σ F2 _ (Same.refl _) (r2.write hd hl ⟨_, upd_same, (rr.mono x12.f).put (w1.mono x2.f)⟩)
      | rows rs =>
        refine .inl ⟨ρ, F, r, out_of r q fun v xv F1 H1 _ q x1 s1 r1 w1 => ?_⟩
        exact ⟨_, hl, ρ, F1, r1, out_of r1 q fun z xz F2 H2 _ q x2 s2 r2 w2 => q.elim⟩
      | deep d =>
        refine .inl ⟨ρ, F, r, out_of r q fun v xv F1 H1 _ q x1 s1 r1 w1 => ?_⟩
        exact ⟨_, hl, ρ, F1, r1, out_of r1 q fun z xz F2 H2 _ q x2 s2 r2 w2 => q.elim⟩
      | _ => exact o.elim
    · exact q.elim
def kyD : Key → D
  | .inl i => .int i
  | .inr z => .str z
theorem RepK.keys : ∀ {kds : List (Key × D)} {kvs : List (Key × V)}, RepK K F kds kvs → Reps K F (kds.map fun kv => kyD kv.1) (kvs.map fun kv => kV kv.1)
  | _, _, .nil => .nil
  | _, _, .cons (k := .inl i) _ t => .cons (.int i) (RepK.keys t)
  | _, _, .cons (k := .inr i) _ t => .cons (.str i) (RepK.keys t)
def dList : List D → R D
  | [.lst ds] => .ok (.lst ds)
  | [.tup ds] => .ok (.lst ds)
  | [.scr ns] => .ok (.lst (ns.map .int))
  | [.dK kvs] => .ok (.lst (kvs.map fun kv => kyD kv.1))
  | _ => .bad
def dTuple : List D → R D
  | [.lst ds] => .ok (.tup ds)
  | [.scr ns] => .ok (.tup (ns.map .int))
  | _ => .bad
theorem tuple_ok : OpL C (fun xs H Q => ∃ a ys, xs = [.ref a] ∧ ((SqL C.K H a ys ∧ ∀ l, H l = none → Q (.ref l) (upd H l (.tup ys))) ∨ (SqT C.K H a ys ∧ Q (.ref a) H))) dTuple := by
  intro σ F H Q ds vs o s w
  unfold dTuple at o
  split at o
  · obtain ⟨v, rfl, p, vs, rfl, h, r⟩ := w.one
    exact ⟨p, vs, rfl, .inl ⟨SqL.of h, fun l hl => fin_tup o s r hl⟩⟩
  · obtain ⟨v, rfl, p, rfl, h⟩ := w.one
    exact ⟨p, _, rfl, .inl ⟨h, fun l hl => fin_tup o s (Reps.of_ints _) hl⟩⟩
  · exact o.elim
def dStr : List D → R D
  | [.int i] => grd (decide (i.natAbs.log2 < 1920)) (.ok (.str (toString i)))
  | _ => .bad
theorem str_ok : OpL C (fun xs H Q => ∃ i, xs = [.int i] ∧ i.natAbs.log2 < 1920 ∧ Q (.str (toString i)) H) dStr := by
  intro σ F H Q ds vs o s w
  unfold dStr at o
  split at o
  · obtain ⟨z, o⟩ := grd_out o
    obtain ⟨v, rfl, h⟩ := w.one
    cases h
    exact ⟨_, rfl, of_decide_eq_true z, fin_flat o s rfl⟩
  · exact o.elim
def asInts : List D → Option (List Int)
  | [] => some []
  | .int i :: ds => (asInts ds).map (i :: ·)
  | _ :: _ => none
theorem asInts_map : ∀ ns : List Int, asInts (ns.map .int) = some ns
  | [] => rfl
  | n :: ns => by simp only [List.map_cons]; unfold asInts; rw [asInts_map ns]; rfl
theorem Reps.asInts : ∀ {ds : List D} {vs : List V} {ns : List Int}, Reps K F ds vs → DL.asInts ds = some ns → vs = ns.map V.int
  | _, _, _, .nil, h => by cases h; rfl
  | _, _, _, .cons (ds := ds) (.int i) t, h => by
    unfold DL.asInts at h
    cases h2 : DL.asInts ds with
    | none => rw [h2] at h; cases h
    | some ns => rw [h2] at h; cases h; rw [Reps.asInts t h2]; rfl
  | _, _, _, .cons .non t, h => by cases h
  | _, _, _, .cons (.bl _) t, h => by cases h
  | _, _, _, .cons (.str _) t, h => by cases h
  | _, _, _, .cons (.lst _ _) t, h => by cases h
  | _, _, _, .cons (.scr _) t, h => by cases h
  | _, _, _, .cons (.tup _ _) t, h => by cases h
  | _, _, _, .cons (.dK _ _) t, h => by cases h
  | _, _, _, .cons (.dT _ _) t, h => by cases h
  | _, _, _, .cons (.ref _) t, h => by cases h
def srt (ns : List Int) : List Int := ns.mergeSort (fun a b => decide (a ≤ b))
theorem srt_perm (ns : List Int) : (srt ns).Perm ns := List.mergeSort_perm _ _
theorem srt_sorted (ns : List Int) : (srt ns).Pairwise (· ≤ ·) := by
  have h := List.pairwise_mergeSort (le := fun a b : Int => decide (a ≤ b)) (fun a b c h1 h2 => by
    simp only [decide_eq_true_eq] at *
    omega) (fun a b => by
    simp only [Bool.or_eq_true, decide_eq_true_eq]
    omega) ns
  exact h.imp fun h => by simpa using h
theorem srt_of {ns ms : List Int} (p : ms.Perm ns) (s : ms.Pairwise (· ≤ ·)) : ms = srt ns := PySem.W.ksm_same (p.trans (srt_perm ns).symm) s (srt_sorted ns)
def asStrs : List D → Option (List Str)
  | [] => some []
  | .str i :: ds => (asStrs ds).map (i :: ·)
  | _ :: _ => none
theorem asStrs_map : ∀ ns : List Str, asStrs (ns.map .str) = some ns
  | [] => rfl
  | n :: ns => by simp only [List.map_cons]; unfold asStrs; rw [asStrs_map ns]; rfl
theorem Reps.asStrs : ∀ {ds : List D} {vs : List V} {ns : List Str}, Reps K F ds vs → DL.asStrs ds = some ns → vs = ns.map V.str
  | _, _, _, .nil, h => by cases h; rfl
  | _, _, _, .cons (ds := ds) (.str i) t, h => by
    unfold DL.asStrs at h
    cases h2 : DL.asStrs ds with
    | none => rw [h2] at h; cases h
    | some ns => rw [h2] at h; cases h; rw [Reps.asStrs t h2]; rfl
  | _, _, _, .cons .non t, h => by cases h
  | _, _, _, .cons (.bl _) t, h => by cases h
  | _, _, _, .cons (.int _) t, h => by cases h
  | _, _, _, .cons (.lst _ _) t, h => by cases h
  | _, _, _, .cons (.scr _) t, h => by cases h
  | _, _, _, .cons (.tup _ _) t, h => by cases h
  | _, _, _, .cons (.dK _ _) t, h => by cases h
  | _, _, _, .cons (.dT _ _) t, h => by cases h
  | _, _, _, .cons (.ref _) t, h => by cases h
def leT (a b : Str) : Bool := decide (a.cps.toList ≤ b.cps.toList)
def srtT (ns : List Str) : List Str := ns.mergeSort leT
theorem srtT_perm (ns : List Str) : (srtT ns).Perm ns := List.mergeSort_perm _ _
theorem leT_trans (a b c : Str) (h1 : leT a b = true) (h2 : leT b c = true) : leT a c = true := by
  unfold leT at *
  exact decide_eq_true (List.le_trans (of_decide_eq_true h1) (of_decide_eq_true h2))
theorem leT_total (a b : Str) : (leT a b || leT b a) = true := by
  unfold leT
  rcases List.le_total a.cps.toList b.cps.toList with h | h
  · rw [decide_eq_true h]; rfl
  · rw [decide_eq_true h, Bool.or_true]
theorem leT_anti (a b : Str) (h1 : leT a b = true) (h2 : leT b a = true) : a = b := by
  unfold leT at *
  have := List.le_antisymm (of_decide_eq_true h1) (of_decide_eq_true h2)
  obtain ⟨⟨a⟩⟩ := a
  obtain ⟨⟨b⟩⟩ := b
  cases this
  rfl
theorem srtT_sorted (ns : List Str) : (srtT ns).Pairwise fun a b => leT a b = true := List.pairwise_mergeSort leT_trans leT_total ns
theorem srtT_of {ns ms : List Str} (p : ms.Perm ns) (s : ms.Pairwise fun a b => leT a b = true) : ms = srtT ns :=
  (p.trans (srtT_perm ns).symm).eq_of_pairwise (fun a b _ _ h1 h2 => leT_anti a b h1 h2) s (srtT_sorted ns)
theorem leT_lt {a b : Str} (h : ltCps b.cps.toList a.cps.toList = false) : leT a b = true := by
  unfold leT
  rw [ltCps_eq] at h
  exact decide_eq_true (of_decide_eq_false h)
theorem risingS_pw : ∀ (p : Str) (l : List Str), risingS p l = true → (p :: l).Pairwise fun a b => leT a b = true
  | p, [], _ => List.pairwise_singleton _ _
  | p, x :: r, h => by
    unfold risingS at h
    rw [Bool.and_eq_true] at h
    have h1 := leT_lt (a := p) (b := x) (by simpa using h.1)
    have h2 := risingS_pw x r h.2
    refine List.pairwise_cons.mpr ⟨fun y hy => ?_, h2⟩
    rcases List.mem_cons.mp hy with rfl | hy
    · exact h1
    · exact leT_trans _ _ _ h1 ((List.pairwise_cons.mp h2).1 y hy)
theorem sortedS_pw : ∀ (l : List Str), sortedS l = true → l.Pairwise fun a b => leT a b = true
  | [], _ => .nil
  | x :: r, h => risingS_pw x r h
def dSorted : List D → R D
  | [.lst ds] => match asInts ds with | some ns => .ok (.lst ((srt ns).map .int)) | none => match asStrs ds with | some ss => grd (decide (ss.length < 64)) (.ok (.lst ((srtT ss).map .str))) | none => .bad
  | [.tup ds] => .bad
  | [.scr ns] => .ok (.lst ((srt ns).map .int))
  | [.dK kvs] => match asInts (kvs.map fun kv => kyD kv.1) with | some ns => grd (decide (ns.length < 64)) (.ok (.lst ((srt ns).map .int))) | none => .bad
  | _ => .bad
theorem keys_ints : ∀ {kds : List (Key × D)} {kvs : List (Key × V)} {ns : List Int}, RepK K F kds kvs → asInts (kds.map fun kv => kyD kv.1) = some ns → kvs.map (·.1) = ns.map Sum.inl
  | _, _, _, .nil, h => by cases h; rfl
  | _, _, ns, .cons (k := .inl i) (ds := kds) _ t, h => by
    have h : (asInts (kds.map fun kv => kyD kv.1)).map (i :: ·) = some ns := h
    cases hq : asInts (kds.map fun kv => kyD kv.1) with
    | none => rw [hq] at h; cases h
    | some ms =>
      rw [hq] at h
      cases h
      rw [List.map_cons, keys_ints t hq]; rfl
  | _, _, _, .cons (k := .inr i) _ t, h => by cases h
theorem sorted_ok : OpL C (fun vs H Q => (rSortedI C.K vs H Q ∨ rSortedS C.K vs H Q) ∨ ∃ (a : Addr) (kvs : List (Key × V)) (ks : List Int), vs = [.ref a] ∧ Rd H a (.dK kvs) ∧ kvs.map (·.1) = ks.map Sum.inl ∧ ks.length < 64 ∧
    ∀ (ys : List Int) (p : Addr), ys.Perm ks → ys.Pairwise (· ≤ ·) → H p = none → Q (.ref p) (upd H p (.lst (ys.map V.int)))) dSorted := by
  intro σ F H Q ds vs o s w
  unfold dSorted at o
  split at o
  · rename_i ds
    obtain ⟨v, rfl, p, vs, rfl, h, r⟩ := w.one
    split at o
    · rename_i ns hn
      refine .inl (.inl ⟨p, ns, rfl, by rw [← Reps.asInts r hn]; exact SqL.of h, fun ns' l hp hs hl => ?_⟩)
      rw [srt_of hp hs]
      exact fin_lst o s (Same.refl _) (Reps.of_ints _) hl
    · split at o
      · rename_i ss hn
        obtain ⟨z, o⟩ := grd_out o
        refine .inl (.inr ⟨p, ss, rfl, by rw [← Reps.asStrs r hn]; exact SqL.of h, of_decide_eq_true z, fun ns' l hp hs hl => ?_⟩)
        rw [srtT_of hp (sortedS_pw _ hs)]
        exact fin_lst o s (Same.refl _) (Reps.of_strs _) hl
      · exact o.elim
  · exact o.elim
  · obtain ⟨v, rfl, p, rfl, h⟩ := w.one
    refine .inl (.inl ⟨p, _, rfl, h, fun ns' l hp hs hl => ?_⟩)
    rw [srt_of hp hs]
    exact fin_lst o s (Same.refl _) (Reps.of_ints _) hl
  · obtain ⟨v, rfl, p, vs, rfl, h, r⟩ := w.one
    split at o
    · rename_i ns hn
      obtain ⟨z, o⟩ := grd_out o
      refine .inr ⟨p, vs, ns, rfl, h, keys_ints r hn, of_decide_eq_true z, fun ys l hp hs hl => ?_⟩
      rw [srt_of hp hs]
      exact fin_lst o s (Same.refl _) (Reps.of_ints _) hl
    · exact o.elim
  · exact o.elim
end
end DL
namespace DL
open PySem PySem.Spec PyProof.Rows L2
section
variable {X : Cx} {C : Cd} {e a b c tg : Expr} {f g k : En → R D} {pos p apos cpos : Pos} {st : Stmt} {rest : List Stmt} {s1 s2 : En → R Fl} {K : Kx} {F H : Hp}
def tyN : D → String
  | .non => "NoneType"
  | .bl _ => "bool"
  | .int _ => "int"
  | .str _ => "str"
  | .lst _ => "list"
  | .tup _ => "tuple"
  | .dK _ => "dict"
  | .rows _ => "list"
  | _ => ""
def isB (T : String) (d : D) : Bool := tyN d == T || (T == "int" && tyN d == "bool")
def isiD (T : String) : D → R D
  | .dT _ => .bad
  | .scr _ => .bad
  | .ref _ => .bad
  | .exn _ => .bad
  | .deep _ => .bad
  | .obj _ => .bad
  | .junk _ => .bad
  | d => .ok (.bl (isB T d))
def kitAll (T : String) : Bool := ["NoneType", "bool", "int", "str", "list", "tuple", "dict"].all fun n => kitB n T == some (n == T || (T == "int" && n == "bool"))
theorem kitAll_of {T : String} (h : kitAll T = true) {n : String} (hn : n ∈ ["NoneType", "bool", "int", "str", "list", "tuple", "dict"]) : PySem.W.kitOne K (.type n) (.type T) = some (n == T || (T == "int" && n == "bool")) := by
  have := List.all_eq_true.mp h n hn
  exact kit_ty (by simpa using this)
theorem View.ty {d : D} {x : V} (w : View K F H d x) (h : tyN d ≠ "") : TyX K H x (.type (tyN d)) := by
  cases d with
  | non => cases w; exact .base .non
  | bl b => cases w; exact .base (.bl _)
  | int b => cases w; exact .base (.int _)
  | str b => cases w; exact .base (.str _)
  | lst ds => obtain ⟨p, vs, rfl, h, _⟩ := w; exact .base (.lst h)
  | tup ds => obtain ⟨p, vs, rfl, h, _⟩ := w; exact .base (.tup h)
  | dK ds =>
    obtain ⟨p, vs, rfl, h, _⟩ := w
    rcases h with h | ⟨o, h⟩
    · exact .base (.dK h)
    · exact .fDict h
  | rows ds => obtain ⟨p, vs, rfl, h, _⟩ := w; exact .base (.lst h)
  | _ => exact absurd rfl h
theorem d_isi {n : String} (hC : X.K = C.K.fr) (ha : PE X a (tR C f)) (hb : PE X b (tC (.ty n))) (hk : kitAll n = true) (hm : X.mg "isinstance" = none) (hg : Gl X "isinstance" := by rfl)
    (hs2 : starEach [b] X.env = (false, eval b X.env) :: starEach [] X.env := by rfl)
    (he : starEach [a, b] X.env = (false, eval a X.env) :: starEach [b] X.env := by rfl) (hpl : (backTo pos (starEach [b] X.env)).any (·.1) = false := by rfl) :
    PE X (.Call (.Name "isinstance" p) [a, b] [] pos) (tO C (uop f (isiD n))) :=
  (pe_callB call_isi hg hm (by decide +kernel) (pa_cons ha (pa_cons hb pa_nil hs2) he) (by decide) (by decide) he hpl).mono (by
    rintro σ H Q ⟨ρ, F, rl, q⟩
    refine ⟨ρ, F, rl, q.fst fun d v F1 H1 _ q x1 s1 w1 => ?_⟩
    have q := Out.later q x1
    rw [hC]
    have fin : isiD n d = .ok (.bl (isB n d)) → tyN d ∈ ["NoneType", "bool", "int", "str", "list", "tuple", "dict"] → rIsi C.K [v, .ty n] H1 Q := fun e hd => by
      rw [e] at q
      refine ⟨v, .ty n, _, _, _, rfl, .ty n, w1.ty (fun z => by rw [z] at hd; revert hd; decide), kitAll_of hk hd, fin_flat q s1 rfl⟩
    cases d with
    | non => exact fin rfl (by decide)
    | bl b => exact fin rfl (by show "bool" ∈ _; decide)
    | int b => exact fin rfl (by show "int" ∈ _; decide)
    | str b => exact fin rfl (by show "str" ∈ _; decide)
    | lst b => exact fin rfl (by show "list" ∈ _; decide)
    | tup b => exact fin rfl (by show "tuple" ∈ _; decide)
    | dK b => exact fin rfl (by show "dict" ∈ _; decide)
    | rows b => exact fin rfl (by show "list" ∈ _; decide)
    | _ => exact q.elim)
abbrev Den := List D → R (Bool × D)
def spD (K : PySem.W.Frag) (cls : Str → Addr) (n : Nat) (den : Den) : Sp := fun vs H Q E => vs.length = n ∧ ∃ (as : List Addr) (F : Hp) (ds : List D), Same F H ∧ Reps ⟨K, as⟩ F ds vs ∧ match den ds with
  | .ok (o, d) => ∀ v F' H', Ext F H F' H' → Same F' H' → (if o = true then New ⟨K, as⟩ H F' H' d v else Rep ⟨K, as⟩ F' d v) → Q v H'
  | .err c => ∀ F' H', Ext F H F' H' → Same F' H' → E (.ref (cls c)) none H'
  | .bad => False
def args (N : Nat) (ds : List D) : En := ds.map (fun d => some (false, d)) ++ List.replicate (N - ds.length) none
def endD : R Fl → R (Bool × D)
  | .ok (.next _) => .ok (false, .non)
  | .ok (.ret o d) => .ok (o, d)
  | .ok _ => .bad
  | .err c => .err c
  | .bad => .bad
def bodyD (n N : Nat) (g : En → R Fl) : Den := fun ds => if ds.length = n then endD (g (args N ds)) else .bad
def noE {α : Type} : R α → R α
  | .err _ => .bad
  | x => x
def bodyN (n N : Nat) (g : En → R Fl) : Den := fun ds => if ds.length = n then endD (noE (g (args N ds))) else .bad
theorem bodyD_len {n N : Nat} {g : En → R Fl} : ∀ ds, bodyD n N g ds ≠ .bad → ds.length = n := fun ds h => by
  unfold bodyD at h
  split at h
  · assumption
  · exact absurd rfl h
theorem bodyN_len {n N : Nat} {g : En → R Fl} : ∀ ds, bodyN n N g ds ≠ .bad → ds.length = n := fun ds h => by
  unfold bodyN at h
  split at h
  · assumption
  · exact absurd rfl h
theorem args_rel {K : Kx} {F H : Hp} {N : List Str} {ds : List D} {vs : List V} {XW : Str → L2.St → Hp → Prop} (s : Same F H) (r : Reps K F ds vs) : Rel ⟨K, F, H, XW, fun _ => none, [], []⟩ (args N.length ds) (L2.start N vs) F H where
  wok := .nil
  lend := fun _ _ _ h => nomatch h
  ext := Ext.refl _ _
  sub := s
  len := by
    unfold args L2.start
    simp only [List.length_append, List.length_map, List.length_replicate, r.length]
  slot := fun i d h => by
    unfold args at h
    unfold L2.start
    by_cases hi : i < ds.length
    · rw [List.getElem?_append_left (by rw [List.length_map]; exact hi), List.getElem?_map] at h
      cases hd : ds[i]? with
      | none => rw [hd] at h; cases h
      | some d' =>
        rw [hd] at h
        cases h
        obtain ⟨v, hv, w⟩ := r.get hd
        refine ⟨v, ?_, w⟩
        rw [List.getElem?_append_left (by rw [List.length_map, r.length]; exact hi), List.getElem?_map, hv]
        rfl
    · rw [List.getElem?_append_right (by rw [List.length_map]; omega), List.getElem?_replicate] at h
      split at h <;> cases h
  ownF := fun i d h => by
    unfold args at h
    by_cases hi : i < ds.length
    · rw [List.getElem?_append_left (by rw [List.length_map]; exact hi), List.getElem?_map] at h
      cases hd : ds[i]? with
      | none => rw [hd] at h; cases h
      | some d' => rw [hd] at h; cases h
    · rw [List.getElem?_append_right (by rw [List.length_map]; omega), List.getElem?_replicate] at h
      split at h <;> cases h
  apartF := fun i j d e a b c h => by
    unfold args at h
    by_cases hi : i < ds.length
    · rw [List.getElem?_append_left (by rw [List.length_map]; exact hi), List.getElem?_map] at h
      cases hd : ds[i]? with
      | none => rw [hd] at h; cases h
      | some d' => rw [hd] at h; cases h
    · rw [List.getElem?_append_right (by rw [List.length_map]; omega), List.getElem?_replicate] at h
      split at h <;> cases h
theorem ok_def {K : PySem.W.Frag} {P : Program} {w : World} {mg : Str → Option Value} {base : Heap} {x qual : Str} {fs : Stmt} {fa : Addr} {fd : FuncData} {N ps : List Str} {k : Nat} {cls : Str → Addr} {g : En → R Fl} (Fn : Fun K x qual fs fa fd) (S : FnScope N ps (defScope fs))
    (hb : ∀ (cdv : Value) (A : Around) (outer : List Env) (s : Shared) (H : Hp) (E : XK) (F0 : Hp) (as : List Addr), Room k (A.deeper (envOfC qual (defScope fs) s.heap.objs.size fa cdv)) → PSs (cxOf CX0 P w K mg base N qual (defScope fs) fa cdv A outer s H E).nox (defBody fs) (tS ⟨⟨K, as⟩, F0, H, fun _ _ _ => False, fun _ => none, [], []⟩ g)) :
    FnOk P w K mg base CX0 (k + 1) fa fd ps (spD K cls ps.length (bodyN ps.length N.length g)) := by
  refine Fn.ok S (fun vs H Q E h => h.1) (fun cdv A outer s H vs Q E hr h => ?_)
  obtain ⟨hl, as, F, ds, sf, r, q⟩ := h
  refine ⟨_, hb cdv A outer s H E F as hr, args N.length ds, F, args_rel sf r, ?_⟩
  unfold bodyN at q
  rw [if_pos (by rw [← r.length]; exact hl)] at q
  cases hgg : g (args N.length ds) with
  | bad => rw [hgg] at q; exact q.elim
  | err c => rw [hgg] at q; exact q.elim
  | ok fl =>
    rw [hgg] at q
    cases fl with
    | next ρ' => exact fun σ' F' H' s' r' => q .non F' H' r'.ext r'.sub .non
    | ret o d => exact fun v F' H' x s' w => q v F' H' x s' (RetV.of rfl w)
    | brk ρ' => exact q.elim
    | cont ρ' => exact q.elim
def callE (den : Den) (ds : List D) : R D := bd (den ds) fun z => .ok z.2
def callO (den : Den) (ds : List D) : R D := bd (den ds) fun z => grd (z.1 || !isC z.2) (.ok z.2)
section
variable {kk : Nat} {fa : Addr} {fd : FuncData} {ps : List Str} {x : Str} {es : List Expr} {fs : En → R (List D)} {cls : Str → Addr} {n : Nat} {den : Den} {CX : CXT} {E : XK}
theorem callE_ok (hXW : ∀ c σ H, C.XW c σ H → E (.ref (cls c)) none H) (hn : ∀ ds, den ds ≠ .bad → ds.length = n) : ∀ σ H Q, tE C (fun ρ => bd (fs ρ) (callE den)) σ H Q → tCall (spD C.K.fr cls n den) [] E (tA C fs) σ H Q := by
  rintro σ H Q ⟨ρ, F, r, q⟩
  refine out_args r q fun ds vs F' H' hd q x s rp => ?_
  unfold callE at q
  have hnb : den ds ≠ .bad := fun z => by rw [z] at q; exact q
  refine ⟨by rw [List.append_nil, rp.length]; exact hn ds hnb, C.K.as, F', ds, s, by rw [List.append_nil]; exact rp, ?_⟩
  cases hden : den ds with
  | bad => exact hnb hden
  | err c => rw [hden] at q; exact fun F2 H2 x2 s2 => hXW c σ H2 (q F2 H2 x2 s2)
  | ok z =>
    rw [hden] at q
    obtain ⟨o, d⟩ := z
    intro v F2 H2 x2 s2 w
    cases o with
    | false => exact q v F2 H2 x2 s2 (by simpa using w)
    | true =>
      have w' : New C.K H' F2 H2 d v := by simpa using w
      obtain ⟨F3, x3, _, s3, w3⟩ := w'.rep s2 x2
      exact q v F3 H2 x3 s3 w3
theorem callO_ok (hXW : ∀ c σ H, C.XW c σ H → E (.ref (cls c)) none H) (hn : ∀ ds, den ds ≠ .bad → ds.length = n) : ∀ σ H Q, tO C (fun ρ => bd (fs ρ) (callO den)) σ H Q → tCall (spD C.K.fr cls n den) [] E (tA C fs) σ H Q := by
  rintro σ H Q ⟨ρ, F, r, q⟩
  refine out_args r q fun ds vs F' H' hd q x s rp => ?_
  unfold callO at q
  have hnb : den ds ≠ .bad := fun z => by rw [z] at q; exact q
  refine ⟨by rw [List.append_nil, rp.length]; exact hn ds hnb, C.K.as, F', ds, s, by rw [List.append_nil]; exact rp, ?_⟩
  cases hden : den ds with
  | bad => exact hnb hden
  | err c => rw [hden] at q; exact fun F2 H2 x2 s2 => hXW c σ H2 (q F2 H2 x2 s2)
  | ok z =>
    rw [hden] at q
    obtain ⟨o, d⟩ := z
    intro v F2 H2 x2 s2 w
    have q' : Out C σ F' H' (fun F' H' => New C.K H F' H') (grd (o || !isC d) (.ok d)) Q := q
    obtain ⟨ho, q2⟩ := grd_out q'
    cases o with
    | false => exact q2 v F2 H2 x2 s2 (New.of_rep (by simpa using ho) (by simpa using w))
    | true => exact q2 v F2 H2 x2 s2 (New.later x.h (by simpa using w))
theorem d_callE (Fo : FnOk X.prog X.w X.K X.mg X.base CX kk fa fd ps (spD C.K.fr cls n den)) (hn : ∀ ds, den ds ≠ .bad → ds.length = n) (hr : Room kk X.A) (hm : X.mg x = some (.ref fa)) (hk : PySem.W.keepIn X.K (.ref fa) = true) (hb : Binds X.K fd ps []) (hx : Passes CX X E) (hXW : ∀ c σ H, C.XW c σ H → E (.ref (cls c)) none H)
    (ha : PA X (e :: es) (tA C fs)) (hg : Gl X x := by rfl) (hdb : (x == ("__debug__" : Str)) = false := by decide) (he : starEach (e :: es) X.env = (false, eval e X.env) :: starEach es X.env := by rfl) (hpl : (backTo pos (starEach es X.env)).any (·.1) = false := by rfl) :
    PE X (.Call (.Name x p) (e :: es) [] pos) (tE C (nop fs (callE den))) := (pe_call Fo hr hg hm hk hb .nil hx ha hdb he hpl).mono (callE_ok hXW hn)
theorem d_callO (Fo : FnOk X.prog X.w X.K X.mg X.base CX kk fa fd ps (spD C.K.fr cls n den)) (hn : ∀ ds, den ds ≠ .bad → ds.length = n) (hr : Room kk X.A) (hm : X.mg x = some (.ref fa)) (hk : PySem.W.keepIn X.K (.ref fa) = true) (hb : Binds X.K fd ps []) (hx : Passes CX X E) (hXW : ∀ c σ H, C.XW c σ H → E (.ref (cls c)) none H)
    (ha : PA X (e :: es) (tA C fs)) (hg : Gl X x := by rfl) (hdb : (x == ("__debug__" : Str)) = false := by decide) (he : starEach (e :: es) X.env = (false, eval e X.env) :: starEach es X.env := by rfl) (hpl : (backTo pos (starEach es X.env)).any (·.1) = false := by rfl) :
    PE X (.Call (.Name x p) (e :: es) [] pos) (tO C (nop fs (callO den))) := (pe_call Fo hr hg hm hk hb .nil hx ha hdb he hpl).mono (callO_ok hXW hn)
end
def spLaw (K : PySem.W.Frag) : Sp := fun vs H Q _ => ∃ (a : Addr) (ns : List Int), vs = [.ref a] ∧ SqL K H a (ns.map V.int) ∧ ns.length ≤ 63 ∧ ∀ H', Q (.bl true) H'
theorem law_end {K : PySem.W.Frag} {P : Program} {w : World} {mg : Str → Option Value} {base : Heap} {kk : Nat} {fa : Addr} {fd : FuncData} {cls : Str → Addr} {den : Den} (Fo : FnOk P w K mg base CX0 kk fa fd ["script"] (spD K cls 1 den))
    (h : ∀ ns : List Int, ns.length ≤ 63 → ∃ o, den [.scr ns] = .ok (o, .bl true)) : FnOk P w K mg base CX0 kk fa fd ["script"] (spLaw K) := Fo.imp fun vs H Q E hs => by
  obtain ⟨a, ns, rfl, hS, hl, q⟩ := hs
  obtain ⟨o, ho⟩ := h ns hl
  refine ⟨rfl, [], fun b => if b = a then H a else none, [.scr ns], fun b u e => ?_, .cons (.scr ?_) .nil, ?_⟩
  · dsimp only at e
    split at e
    · rename_i hb; rw [hb]; exact e
    · cases e
  · rcases hS with (h1 | ⟨ob, h1⟩) | h1
    · exact .inl (.inl (by simp only [if_true]; exact h1))
    · exact .inl (.inr ⟨ob, by simp only [if_true]; exact h1⟩)
    · exact .inr h1
  · rw [ho]
    intro v F' H' x s w
    have e : v = .bl true := by
      split at w
      · unfold New at w
        have w' : Rep ⟨K, []⟩ F' (.bl true) v := w
        cases w'; rfl
      · cases w; rfl
    rw [e]
    exact q H'
end
end DL
namespace DL
open PySem PySem.Spec PyProof.Rows L2
def lnOf (n : Nat) (ds : List D) (vs : List V) (i : Nat) : Option (D × V) := if i < n then (match ds[i]? with | some d => some (d, vs.getD i .non) | none => none) else none
def addrAt (vs : List V) (i : Nat) : Addr := match vs[i]? with
  | some (.ref a) => a
  | _ => 0
def lnM (n : Nat) (io : List Nat) (ds : List D) (vs : List V) (i : Nat) : Option (D × V) := if i ∈ io then some (.ref (addrAt vs i), .ref (addrAt vs i)) else lnOf n ds vs i
def ioAs (io : List Nat) (vs : List V) : List Addr := io.map (addrAt vs)
def LnAt (C : Cd) (ds : List D) (i : Nat) : Prop := ∀ d, ds[i]? = some d → ∃ v, C.ln i = some (d, v)
theorem lnOf_at {n i : Nat} {ds : List D} {vs : List V} {d : D} (hi : i < n) (h : ds[i]? = some d) : lnOf n ds vs i = some (d, vs.getD i .non) := by
  unfold lnOf; rw [if_pos hi, h]
theorem lnAt_of {C : Cd} {n i : Nat} {ds : List D} {vs : List V} (hc : C.ln = lnOf n ds vs) (hi : i < n) : LnAt C ds i := fun d h => ⟨_, by rw [hc]; exact lnOf_at hi h⟩
theorem lnAt_M {C : Cd} {n i : Nat} {io : List Nat} {ds : List D} {vs : List V} (hc : C.ln = lnM n io ds vs) (hi : i < n) (hn : i ∉ io) : LnAt C ds i := fun d h => ⟨_, by rw [hc]; unfold lnM; rw [if_neg hn]; exact lnOf_at hi h⟩
def lnW (n : Nat) (ev : List Nat) (ds : List D) (vs : List V) (i : Nat) : Option (D × V) := if i ∈ ev then none else lnOf n ds vs i
theorem lnAt_W {C : Cd} {n i : Nat} {ev : List Nat} {ds : List D} {vs : List V} (hc : C.ln = lnW n ev ds vs) (hi : i < n) (hn : i ∉ ev) : LnAt C ds i := fun d h => ⟨_, by rw [hc]; unfold lnW; rw [if_neg hn]; exact lnOf_at hi h⟩
theorem Views.length {K : Kx} {F H : Hp} : ∀ {ds : List D} {vs : List V}, Views K F H ds vs → vs.length = ds.length
  | _, _, .nil => rfl
  | _, _, .cons _ t => congrArg (· + 1) (Views.length t)
theorem Views.get {K : Kx} {F H : Hp} : ∀ {ds : List D} {vs : List V} {i : Nat} {d : D}, Views K F H ds vs → ds[i]? = some d → ∃ v, vs[i]? = some v ∧ View K F H d v
  | _, _, 0, _, .cons r _, h => by cases h; exact ⟨_, rfl, r⟩
  | _, _, i + 1, _, .cons _ t, h => Views.get (i := i) t h
def spV (K : PySem.W.Frag) (cls : Str → Addr) (n : Nat) (den : Den) : Sp := fun vs H Q E => vs.length = n ∧ ∃ (as : List Addr) (F : Hp) (ds : List D), Same F H ∧ Views ⟨K, as⟩ F H ds vs ∧ match den ds with
  | .ok (o, d) => ∀ v F' H', Ext F H F' H' → Same F' H' → (if o = true then New ⟨K, as⟩ H F' H' d v else Rep ⟨K, as⟩ F' d v) → Q v H'
  | .err c => ∀ F' H', Ext F H F' H' → Same F' H' → E (.ref (cls c)) none H'
  | .bad => False
def bodyV (n N : Nat) (g : List D → En → R Fl) : Den := fun ds => if ds.length = n then endD (noE (g ds (List.replicate (n + (N - n)) none))) else .bad
theorem bodyV_len {n N : Nat} {g : List D → En → R Fl} : ∀ ds, bodyV n N g ds ≠ .bad → ds.length = n := fun ds h => by
  unfold bodyV at h
  split at h
  · assumption
  · exact absurd rfl h
theorem views_rel {K : Kx} {F H : Hp} {N : List Str} {n : Nat} {ds : List D} {vs : List V} {XW : Str → L2.St → Hp → Prop} (s : Same F H) (r : Views K F H ds vs) (hn : vs.length = n) : Rel ⟨K, F, H, XW, lnOf n ds vs, [], []⟩ (List.replicate (n + (N.length - n)) none) (L2.start N vs) F H where
  ext := Ext.refl _ _
  sub := s
  len := by
    unfold L2.start
    simp only [List.length_append, List.length_map, List.length_replicate, hn]
  slot := fun i d h => by
    rw [List.getElem?_replicate] at h
    split at h <;> cases h
  ownF := fun i d h => by
    rw [List.getElem?_replicate] at h
    split at h <;> cases h
  apartF := fun i j d e a b c h => by
    rw [List.getElem?_replicate] at h
    split at h <;> cases h
  wok := .nil
  lend := fun i d v h => by
    have h : lnOf n ds vs i = some (d, v) := h
    unfold lnOf at h
    split at h
    · cases hd : ds[i]? with
      | none => rw [hd] at h; cases h
      | some d' =>
        rw [hd] at h
        obtain ⟨v', hv, w⟩ := r.get hd
        have e : vs.getD i .non = v' := by rw [List.getD_eq_getElem?_getD, hv]; rfl
        have h2 : some (d', vs.getD i .non) = some (d, v) := h
        rw [e] at h2
        cases h2
        refine ⟨?_, w⟩
        unfold L2.start
        have hi : i < vs.length := (List.getElem?_eq_some_iff.mp hv).1
        rw [List.getElem?_append_left (by rw [List.length_map]; exact hi), List.getElem?_map, hv]
        rfl
    · cases h
theorem ok_defV {K : PySem.W.Frag} {P : Program} {w : World} {mg : Str → Option Value} {base : Heap} {x qual : Str} {fs : Stmt} {fa : Addr} {fd : FuncData} {N ps : List Str} {k : Nat} {cls : Str → Addr} {g : List D → En → R Fl} (Fn : Fun K x qual fs fa fd) (S : FnScope N ps (defScope fs))
    (hb : ∀ (ds : List D) (vs : List V) (cdv : Value) (A : Around) (outer : List Env) (s : Shared) (H : Hp) (E : XK) (F0 : Hp) (as : List Addr), Room k (A.deeper (envOfC qual (defScope fs) s.heap.objs.size fa cdv)) → PSs (cxOf CX0 P w K mg base N qual (defScope fs) fa cdv A outer s H E).nox (defBody fs) (tS ⟨⟨K, as⟩, F0, H, fun _ _ _ => False, lnOf ps.length ds vs, [], []⟩ (g ds))) :
    FnOk P w K mg base CX0 (k + 1) fa fd ps (spV K cls ps.length (bodyV ps.length N.length g)) := by
  refine Fn.ok S (fun vs H Q E h => h.1) (fun cdv A outer s H vs Q E hr h => ?_)
  obtain ⟨hl, as, F, ds, sf, r, q⟩ := h
  refine ⟨_, hb ds vs cdv A outer s H E F as hr, List.replicate (ps.length + (N.length - ps.length)) none, F, views_rel sf r hl, ?_⟩
  unfold bodyV at q
  rw [if_pos (by rw [← r.length]; exact hl)] at q
  cases hgg : g ds (List.replicate (ps.length + (N.length - ps.length)) none) with
  | bad => rw [hgg] at q; exact q.elim
  | err c => rw [hgg] at q; exact q.elim
  | ok fl =>
    rw [hgg] at q
    cases fl with
    | next ρ' => exact fun σ' F' H' s' r' => q .non F' H' r'.ext r'.sub .non
    | ret o d => exact fun v F' H' x s' w => q v F' H' x s' (RetV.of rfl w)
    | brk ρ' => exact q.elim
    | cont ρ' => exact q.elim
section
variable {X : Cx} {C : Cd} {e : Expr} {es : List Expr} {fs : En → R (List D)} {pos p : Pos} {kk n : Nat} {fa : Addr} {fd : FuncData} {ps : List Str} {x : Str} {cls : Str → Addr} {den : Den} {CX : CXT} {E : XK}
def rdL (ds : List D) (i : Nat) : En → R D := fun _ => match ds[i]? with
  | some d => .ok d
  | none => .bad
def flatB (d : D) : Bool := (flatD d).isSome
def rdF (ds : List D) (i : Nat) : En → R D := fun _ => match ds[i]? with
  | some d => grd (flatB d) (.ok d)
  | none => .bad
theorem v_L {i : Nat} {ds : List D} (h : PE X e (tVar i)) (hc : LnAt C ds i := by first | exact lnAt_of rfl (by decide) | exact lnAt_M rfl (by decide) (by decide) | exact lnAt_W rfl (by decide) (by decide)) : PE X e (tR C (rdL ds i)) := h.mono fun σ H Q ⟨ρ, F, r, q⟩ => by
  unfold rdL at q
  cases hd : ds[i]? with
  | none => rw [hd] at q; exact q.elim
  | some d =>
    rw [hd] at q
    obtain ⟨v, hl⟩ := hc d hd
    obtain ⟨hv, w⟩ := r.lend i d v hl
    exact ⟨_, hv, q _ F H (Ext.refl _ _) r.sub (w.mono r.ext.f r.ext.h)⟩
theorem View.flat {K : Kx} {F H : Hp} {d : D} {v : V} (h : flatB d = true) (w : View K F H d v) : Rep K F d v := by
  cases d with
  | non => cases w; exact .non
  | bl b => cases w; exact .bl b
  | int b => cases w; exact .int b
  | str b => cases w; exact .str b
  | _ => cases h
theorem out_argsV {σ : L2.St} {ρ : En} {F H : Hp} {w : List D → R D} {W : Hp → Hp → D → V → Prop} {Q : VK} {Q' : List V → Hp → Prop} (r : Rel C ρ σ F H) (q : Out C σ F H W (bd (fs ρ) w) Q)
    (h : ∀ ds vs F' H', fs ρ = .ok ds → Out C σ F' H' W (w ds) Q → Ext F H F' H' → Same F' H' → Views C.K F' H' ds vs → Q' vs H') : tV C fs σ H Q' := by
  refine ⟨ρ, F, r, ?_⟩
  cases hf : fs ρ with
  | bad => rw [hf] at q; exact q
  | err c => rw [hf] at q; exact q
  | ok ds =>
    rw [hf] at q
    exact fun vs F1 H1 x1 s1 w1 => h ds vs F1 H1 hf (Out.later q x1) x1 s1 w1
theorem callEV_ok (hXW : ∀ c σ H, C.XW c σ H → E (.ref (cls c)) none H) (hn : ∀ ds, den ds ≠ .bad → ds.length = n) : ∀ σ H Q, tE C (fun ρ => bd (fs ρ) (callE den)) σ H Q → tCall (spV C.K.fr cls n den) [] E (tV C fs) σ H Q := by
  rintro σ H Q ⟨ρ, F, r, q⟩
  refine out_argsV r q fun ds vs F' H' hd q x s rp => ?_
  unfold callE at q
  have hnb : den ds ≠ .bad := fun z => by rw [z] at q; exact q
  refine ⟨by rw [List.append_nil, rp.length]; exact hn ds hnb, C.K.as, F', ds, s, by rw [List.append_nil]; exact rp, ?_⟩
  cases hden : den ds with
  | bad => exact hnb hden
  | err c => rw [hden] at q; exact fun F2 H2 x2 s2 => hXW c σ H2 (q F2 H2 x2 s2)
  | ok z =>
    rw [hden] at q
    obtain ⟨o, d⟩ := z
    intro v F2 H2 x2 s2 w
    cases o with
    | false => exact q v F2 H2 x2 s2 (by simpa using w)
    | true =>
      have w' : New C.K H' F2 H2 d v := by simpa using w
      obtain ⟨F3, x3, _, s3, w3⟩ := w'.rep s2 x2
      exact q v F3 H2 x3 s3 w3
theorem callOV_ok (hXW : ∀ c σ H, C.XW c σ H → E (.ref (cls c)) none H) (hn : ∀ ds, den ds ≠ .bad → ds.length = n) : ∀ σ H Q, tO C (fun ρ => bd (fs ρ) (callO den)) σ H Q → tCall (spV C.K.fr cls n den) [] E (tV C fs) σ H Q := by
  rintro σ H Q ⟨ρ, F, r, q⟩
  refine out_argsV r q fun ds vs F' H' hd q x s rp => ?_
  unfold callO at q
  have hnb : den ds ≠ .bad := fun z => by rw [z] at q; exact q
  refine ⟨by rw [List.append_nil, rp.length]; exact hn ds hnb, C.K.as, F', ds, s, by rw [List.append_nil]; exact rp, ?_⟩
  cases hden : den ds with
  | bad => exact hnb hden
  | err c => rw [hden] at q; exact fun F2 H2 x2 s2 => hXW c σ H2 (q F2 H2 x2 s2)
  | ok z =>
    rw [hden] at q
    obtain ⟨o, d⟩ := z
    intro v F2 H2 x2 s2 w
    have q' : Out C σ F' H' (fun F' H' => New C.K H F' H') (grd (o || !isC d) (.ok d)) Q := q
    obtain ⟨ho, q2⟩ := grd_out q'
    cases o with
    | false => exact q2 v F2 H2 x2 s2 (New.of_rep (by simpa using ho) (by simpa using w))
    | true => exact q2 v F2 H2 x2 s2 (New.later x.h (by simpa using w))
theorem d_callEV (Fo : FnOk X.prog X.w X.K X.mg X.base CX kk fa fd ps (spV C.K.fr cls n den)) (hn : ∀ ds, den ds ≠ .bad → ds.length = n) (hr : Room kk X.A) (hm : X.mg x = some (.ref fa)) (hk : PySem.W.keepIn X.K (.ref fa) = true) (hb : Binds X.K fd ps []) (hx : Passes CX X E) (hXW : ∀ c σ H, C.XW c σ H → E (.ref (cls c)) none H)
    (ha : PA X (e :: es) (tV C fs)) (hg : Gl X x := by rfl) (hdb : (x == ("__debug__" : Str)) = false := by decide) (he : starEach (e :: es) X.env = (false, eval e X.env) :: starEach es X.env := by rfl) (hpl : (backTo pos (starEach es X.env)).any (·.1) = false := by rfl) :
    PE X (.Call (.Name x p) (e :: es) [] pos) (tE C (nop fs (callE den))) := (pe_call Fo hr hg hm hk hb .nil hx ha hdb he hpl).mono (callEV_ok hXW hn)
theorem d_callOV (Fo : FnOk X.prog X.w X.K X.mg X.base CX kk fa fd ps (spV C.K.fr cls n den)) (hn : ∀ ds, den ds ≠ .bad → ds.length = n) (hr : Room kk X.A) (hm : X.mg x = some (.ref fa)) (hk : PySem.W.keepIn X.K (.ref fa) = true) (hb : Binds X.K fd ps []) (hx : Passes CX X E) (hXW : ∀ c σ H, C.XW c σ H → E (.ref (cls c)) none H)
    (ha : PA X (e :: es) (tV C fs)) (hg : Gl X x := by rfl) (hdb : (x == ("__debug__" : Str)) = false := by decide) (he : starEach (e :: es) X.env = (false, eval e X.env) :: starEach es X.env := by rfl) (hpl : (backTo pos (starEach es X.env)).any (·.1) = false := by rfl) :
    PE X (.Call (.Name x p) (e :: es) [] pos) (tO C (nop fs (callO den))) := (pe_call Fo hr hg hm hk hb .nil hx ha hdb he hpl).mono (callOV_ok hXW hn)
end
end DL
namespace DL
open PySem PySem.Spec PyProof.Rows L2
def tst (f : En → R D) : En → R Bool := fun ρ => bd (f ρ) asB
section
variable {X : Cx} {C : Cd} {e a b c tg : Expr} {f g k : En → R D} {pos p apos cpos : Pos} {st : Stmt} {rest : List Stmt} {s1 s2 : En → R Fl} {K : Kx} {F H : Hp} {kk : Nat}
def flatO (d : D) : R D := grd (!isC d) (.ok d)
theorem o_of_e (h : PE X e (tE C f)) : PE X e (tO C (uop f flatO)) := h.mono fun σ H Q ⟨ρ, F, r, q⟩ => ⟨ρ, F, r, q.fst fun d v F' H' _ q x s w => by
  obtain ⟨z, q⟩ := grd_out q
  exact q v F' H' x s (New.of_rep (by simpa using z) w)⟩
theorem eu (hr : Room kk X.A) : X.A.units + 64 < cLine := hr.units
theorem eu65 (hr : Room kk X.A) : X.A.units + 65 < cLine := by have := hr.un; omega
theorem eu1 (hr : Room kk X.A) : X.A.units + 1 < cLine := by have := hr.un; omega
theorem d_eq (hC : X.K = C.K.fr) (hr : Room kk X.A) (ha : PE X a (tR C f)) (hb : PE X b (tR C g)) : PE X (.Compare a [.Eq] [b] pos) (tO C (bop f g (dEq false))) := d_cmp (OpR.or op_eq (hC ▸ op_eqD (eu hr))) rEq_ok (nomark _) ha hb
theorem d_in (hC : X.K = C.K.fr) (hr : Room kk X.A) (ha : PE X a (tR C f)) (hb : PE X b (tR C g)) (hm : behindInMarks .In b = false := by rfl) : PE X (.Compare a [.In] [b] pos) (tO C (bop f g (dIn false))) := d_cmp (hC ▸ op_inAll (eu65 hr)) (in_ok false) hm ha hb
theorem dt_eq (hC : X.K = C.K.fr) (hr : Room kk X.A) (ha : PE X a (tR C f)) (hb : PE X b (tR C g)) : PT X (.Compare a [.Eq] [b] pos) (tT C (tst (bop f g (dEq false)))) := dt_cmp (OpR.or op_eq (hC ▸ op_eqD (eu hr))) rEq_ok (nomark _) ha hb
theorem dt_ne (hC : X.K = C.K.fr) (hr : Room kk X.A) (ha : PE X a (tR C f)) (hb : PE X b (tR C g)) : PT X (.Compare a [.NotEq] [b] pos) (tT C (tst (bop f g (dEq true)))) := dt_cmp (OpR.or op_ne (hC ▸ op_neD (eu hr))) rNe_ok (nomark _) ha hb
theorem dt_lt (ha : PE X a (tR C f)) (hb : PE X b (tR C g)) : PT X (.Compare a [.Lt] [b] pos) (tT C (tst (bop f g dLt))) := dt_cmp (OpR.or op_lt op_lt_str) rLt_ok (nomark _) ha hb
theorem dt_gt (ha : PE X a (tR C f)) (hb : PE X b (tR C g)) : PT X (.Compare a [.Gt] [b] pos) (tT C (tst (bop f g dGt))) := dt_cmp (OpR.or op_gt op_gt_str) rGt_ok (nomark _) ha hb
theorem dt_notN (ha : PE X a (tR C f)) (hb : PE X b (tR C g)) : PT X (.Compare a [.IsNot] [b] pos) (tT C (tst (bop f g (dIsN true)))) := dt_cmp (OpR.or op_notN op_notBl) rNotN_ok (nomark _) ha hb
theorem dt_in (hC : X.K = C.K.fr) (hr : Room kk X.A) (ha : PE X a (tR C f)) (hb : PE X b (tR C g)) (hm : behindInMarks .In b = false := by rfl) : PT X (.Compare a [.In] [b] pos) (tT C (tst (bop f g (dIn false)))) := dt_cmp (hC ▸ op_inAll (eu65 hr)) (in_ok false) hm ha hb
theorem dt_notin (hC : X.K = C.K.fr) (hr : Room kk X.A) (ha : PE X a (tR C f)) (hb : PE X b (tR C g)) (hm : behindInMarks .NotIn b = false := by rfl) : PT X (.Compare a [.NotIn] [b] pos) (tT C (tst (bop f g (dIn true)))) := dt_cmp (hC ▸ op_notInAll (eu65 hr)) (in_ok true) hm ha hb
theorem dt_chain {op op' : CmpOp} {r r' : R2} {w w' : D → D → R D} (ho : OpR X (compareOp op) r) (ho' : OpR X (compareOp op') r') (hr : Op2 C r w) (hr' : Op2 C r' w') (ha : PE X a (tR C f)) (hb : PE X b (tR C g)) (hc : PE X c (tR C k))
    (hm : lastMarks [op, op'] [b, c] = false := by with_unfolding_all rfl) : PT X (.Compare a [op, op'] [b, c] pos) (tT C (tst (eChain w w' f g k))) :=
  (pt_chain ho ho' ha hb hc hm).mono fun σ H Q h => chain_ok hr hr' σ H _ (t_to_o h)
theorem dt_val (ha : PE X a (tO C f)) (he : ∀ whole, isTrue a X.env whole = (do let v ← whole; standAt a.pos; holding [v] (truthy v)) := by intro _; rfl) : PT X a (tT C (tst f)) := dt_truth ha he
theorem _root_.L2.PG.or {X : Cx} {e : Expr} {t t' : TG} (h : PG X e t) (h' : PG X e t') : PG X e (fun v σ H Q => t v σ H Q ∨ t' v σ H Q) := ⟨fun pins s σ H v u Q I r q => by
  rcases q with q | q
  · exact h.run pins s σ H v u Q I r q
  · exact h'.run pins s σ H v u Q I r q⟩
def gSeqD (n : Nat) (gs : List D → En → Option En) : D → En → Option En := fun d ρ => match d with
  | .tup ds => if ds.length = n then gs ds ρ else none
  | .lst ds => if ds.length = n then gs ds ρ else none
  | _ => none
theorem g_seq {own : List Nat} {es : List Expr} {k n : Nat} {gs : List D → En → Option En} (hc : X.calm = true) (h : PGs X es (tGs C own gs)) (hn : (assignEach es X.env).length = n := by rfl) (hst : (assignEach es X.env).findIdx? (·.1) = none := by rfl) :
    PG X (.Tuple es k pos) (tG C own (gSeqD n gs)) := (PG.or (g_tup hc h hn hst) (g_lst hc h hn hst)).mono fun v σ H Q ⟨ρ, F, d, r, w, q⟩ => by
  cases d with
  | tup ds => exact .inl ⟨ρ, F, _, r, w, q⟩
  | lst ds => exact .inr ⟨ρ, F, _, r, w, q⟩
  | _ => exact q.elim
theorem d_len {es : List Expr} {fs : En → R (List D)} (hC : X.K = C.K.fr) (hm : X.mg "len" = none) (ha : PA X (e :: es) (tV C fs)) (hg : Gl X "len" := by rfl)
    (he : starEach (e :: es) X.env = (false, eval e X.env) :: starEach es X.env := by rfl) (hpl : (backTo pos (starEach es X.env)).any (·.1) = false := by rfl) : PE X (.Call (.Name "len" p) (e :: es) [] pos) (tO C (nop fs dLen)) :=
  d_callB (CallR.or (hC ▸ call_len) (by
    intro pins s σ H xs us Q I r h
    obtain ⟨a, kvs, rfl, h, q⟩ := h
    obtain ⟨u, rfl, ru⟩ := vals1 r
    cases ru
    exact L2.d_len I h fun t s' I' => ⟨.int kvs.length, H, I', ⟨t, rfl⟩, q⟩)) len_ok hm PySem.boot_len ha hg (by decide) (by decide) he hpl
theorem d_tuple {es : List Expr} {fs : En → R (List D)} (hC : X.K = C.K.fr) (hm : X.mg "tuple" = none) (ha : PA X (e :: es) (tV C fs)) (hg : Gl X "tuple" := by rfl)
    (he : starEach (e :: es) X.env = (false, eval e X.env) :: starEach es X.env := by rfl) (hpl : (backTo pos (starEach es X.env)).any (·.1) = false := by rfl) : PE X (.Call (.Name "tuple" p) (e :: es) [] pos) (tO C (nop fs dTuple)) :=
  d_callTy (hC ▸ call_tuple_of) tuple_ok hm (by decide +kernel) ha hg (by decide) (by decide) he hpl
theorem d_str {es : List Expr} {fs : En → R (List D)} (hm : X.mg "str" = none) (ha : PA X (e :: es) (tV C fs)) (hg : Gl X "str" := by rfl)
    (he : starEach (e :: es) X.env = (false, eval e X.env) :: starEach es X.env := by rfl) (hpl : (backTo pos (starEach es X.env)).any (·.1) = false := by rfl) : PE X (.Call (.Name "str" p) (e :: es) [] pos) (tO C (nop fs dStr)) :=
  d_callTy call_str_int str_ok hm (by decide +kernel) ha hg (by decide) (by decide) he hpl
theorem d_sorted {es : List Expr} {fs : En → R (List D)} (hC : X.K = C.K.fr) (hm : X.mg "sorted" = none) (ha : PA X (e :: es) (tV C fs)) (hg : Gl X "sorted" := by rfl)
    (he : starEach (e :: es) X.env = (false, eval e X.env) :: starEach es X.env := by rfl) (hpl : (backTo pos (starEach es X.env)).any (·.1) = false := by rfl) (hc : X.calm = true := by rfl) : PE X (.Call (.Name "sorted" p) (e :: es) [] pos) (tO C (nop fs dSorted)) :=
  d_callB (CallR.or (CallR.or (hC ▸ cr_sortedI) (hC ▸ cr_sortedS)) (call_sortedDI hc)) sorted_ok hm (by decide +kernel) ha hg (by decide) (by decide) he hpl
theorem ty_of {x : Str} {n : String} (hm : X.mg x = none) (hv : bootBuiltins x = some (.type n)) (hg : Gl X x := by rfl) (hn : x ≠ "__name__" := by decide) (hdb : (x == ("__debug__" : Str)) = false := by decide) : PE X (.Name x pos) (tC (.ty n)) := pe_bltn hg hm hv rfl hn hdb
theorem s_toC {i : Nat} (h : PS X st (tS C (sSetO i f))) : PS X st (tS C (sSet i f)) := h.mono fun T σ H ⟨ρ, F, r, q⟩ => by
  refine ⟨ρ, F, r, ?_⟩
  unfold sSetO
  unfold sSet at q
  cases hf : f ρ with
  | bad => rw [hf] at q; exact q
  | err c => rw [hf] at q; exact q
  | ok d =>
    rw [hf] at q
    intro σ' F' H' s r'
    cases hd : isC d with
    | false => rw [hd] at r'; exact q σ' F' H' s r'
    | true =>
      rw [hd] at r'
      by_cases hi : i < ρ.length
      · have e : (ρ.set i (some (true, d)))[i]? = some (some (true, d)) := by rw [List.getElem?_set_self hi]
        obtain ⟨F2, s2, r2⟩ := r'.settle1 e
        rw [List.set_set] at r2
        exact q σ' F2 H' (s.trans s2) r2
      · have e1 : ρ.set i (some (true, d)) = ρ := List.set_eq_of_length_le (by omega)
        have e2 : ρ.set i (some (false, d)) = ρ := List.set_eq_of_length_le (by omega)
        rw [e1] at r'
        exact q σ' F' H' s (by rw [e2]; exact r')
def get2 (f g k : En → R D) : En → R D := fun ρ => bd (f ρ) fun d => grd (isDD d) (bd (g ρ) fun q => bd (k ρ) fun x => dGet2 d q x)
theorem c_globI {x : Str} {i : Int} {t : Tok} (hm : X.mg x = some (.int i t)) (hg : Gl X x := by rfl) (hdb : (x == ("__debug__" : Str)) = false := by decide) : PE X (.Name x pos) (tO C (cst (.int i))) := c_glob (v := .int i) hm ⟨t, rfl⟩ rfl hg hdb
theorem c_globS {x : Str} {i : Str} {t : Tok} (hm : X.mg x = some (.str i t)) (hg : Gl X x := by rfl) (hdb : (x == ("__debug__" : Str)) = false := by decide) : PE X (.Name x pos) (tO C (cst (.str i))) := c_glob (v := .str i) hm ⟨t, rfl⟩ rfl hg hdb
def FU : Nat := 1000000
end
end DL
namespace DL
open PySem PySem.Spec PyProof.Rows L2
abbrev set0 (w : World) : Obj := { cls := .type "set", dict := none, data := .set #[] 0 (.fresh 0 0 (!w.params.followText "set-order")) }
section
variable {P : Program} {w : World} {A : Around} {E : Value → Shared → Prop} {s : Shared}
end
section
variable {X : Cx} {C : Cd} {e a b c tg : Expr} {f g k : En → R D} {pos p p2 q apos cpos : Pos} {K : Kx} {F H : Hp} {kk : Nat}
def uniq (ns : List Int) : List Int := ns.foldl (fun l n => if n ∈ l then l else l ++ [n]) []
end
end DL
namespace DL
open PySem PySem.Spec PyProof.Rows L2
section
variable {X : Cx} {C : Cd} {e a b c tg : Expr} {f g k : En → R D} {pos p p2 q apos cpos tpos : Pos} {K : Kx} {F H B : Hp} {kk : Nat} {es : List Expr} {fs : En → R (List D)}
def enumD (ds : List D) : List D := ds.mapIdx fun i d => D.tup [.int (i : Nat), d]
def zipD (as bs : List D) : List D := List.zipWith (fun a b => D.tup [a, b]) as bs
def itEnum : List D → R (List D)
  | [.lst ds] => .ok (enumD ds)
  | [.scr ns] => .ok (enumD (ns.map .int))
  | _ => .bad
def itZip : List D → R (List D)
  | [.lst ds, .lst es] => .ok (zipD ds es)
  | [.scr ns, .lst es] => .ok (zipD (ns.map .int) es)
  | [.lst ds, .scr ns] => .ok (zipD ds (ns.map .int))
  | _ => .bad
def itRev : List D → R (List D)
  | [.lst ds] => .ok ds.reverse
  | [.scr ns] => .ok (ns.map D.int).reverse
  | _ => .bad
theorem Reps.one {d : D} {vs : List V} (w : Reps K F [d] vs) : ∃ v, vs = [v] ∧ Rep K F d v := by
  cases w with
  | cons r t => cases t; exact ⟨_, rfl, r⟩
theorem Reps.two {d e : D} {vs : List V} (w : Reps K F [d, e] vs) : ∃ v u, vs = [v, u] ∧ Rep K F d v ∧ Rep K F e u := by
  cases w with
  | cons r t =>
    obtain ⟨u, rfl, q⟩ := Reps.one t
    exact ⟨_, u, rfl, r, q⟩
def dMax : List D → R D
  | [.int i, .int j] => .ok (.int (if j > i then j else i))
  | _ => .bad
def dMin : List D → R D
  | [.int i, .int j] => .ok (.int (if j < i then j else i))
  | _ => .bad
def dSum : List D → R D
  | [.lst ds] => match asInts ds with | some ns => .ok (.int ns.sum) | none => .bad
  | _ => .bad
def idxF (x : D) : List D → Nat → Option Nat
  | [], _ => none
  | y :: ys, n => if eqF y x = true then some n else idxF x ys (n + 1)
theorem idxF_ok {x : D} : ∀ {ys : List D} {n j : Nat}, idxF x ys n = some j → ∃ m z, j = n + m ∧ ys[m]? = some z ∧ eqF z x = true ∧ ∀ i z, i < m → ys[i]? = some z → eqF z x = false
  | [], _, _, h => by cases h
  | y :: ys, n, j, h => by
    unfold idxF at h
    split at h
    · rename_i hy
      cases h
      exact ⟨0, y, rfl, rfl, hy, fun i z hi => absurd hi (Nat.not_lt_zero _)⟩
    · rename_i hy
      obtain ⟨m, z, rfl, h2, h3, h4⟩ := idxF_ok h
      refine ⟨m + 1, z, by omega, by simpa using h2, h3, fun i u hi hu => ?_⟩
      cases i with
      | zero => cases hu; simpa using hy
      | succ i => exact h4 i u (by omega) (by simpa using hu)
def dIndex : D → D → R D
  | .lst ds, x => grd (isFlat x && ds.all isFlat) (match idxF x ds 0 with | some j => .ok (.int (j : Nat)) | none => .bad)
  | _, _ => .bad
def idx (f g : En → R D) : En → R D := fun ρ => bd (f ρ) fun d => match d with | .lst ds => bd (g ρ) fun e => dIndex (.lst ds) e | _ => .bad
theorem d_index (hC : X.K = C.K.fr) (ha : PE X a (tR C f)) (hb : PE X b (tR C g)) (hbase : attributeBase a "index" X.env (eval a X.env) = eval a X.env := by rfl)
    (hfew : ((backTo cpos (starEach [b] X.env)).all (fun x => !x.1) && (backToKw cpos (keywordEach [] X.env)).all (fun x => x.1.isSome)
      && decide (([b] : List Expr).length + ([] : List Keyword).length + (if ([] : List Keyword).isEmpty then 0 else 1) < 30)) = true := by rfl)
    (hline : (apos.endLine == cpos.line) = true := by rfl) (hs : starEach [b] X.env = (false, eval b X.env) :: starEach [] X.env := by rfl) (hplain : (backTo cpos (starEach [] X.env)).any (·.1) = false := by rfl) :
    PE X (.Call (.Attribute a "index" apos) [b] [] cpos) (tO C (idx f g)) :=
  (pe_bm PySem.F.plainAttrs_list PySem.F.slot_list_index PySem.F.type_list_index mt_index ha (pa_cons hb pa_nil hs) hbase hfew hline hs hplain).mono (by
    rintro σ H Q ⟨ρ, F, rl, o⟩
    rw [hC]
    refine ⟨ρ, F, rl, o.fst fun d v F1 H1 _ o x1 s1 w1 => ?_⟩
    cases d with
    | lst ds =>
      have o := Out.later o x1
      obtain ⟨l, vs, rfl, h1, r1⟩ := w1
      refine ⟨.inl ⟨rfl, _, SqL.of h1⟩, ρ, F1, rl.grow x1 s1, o.fst fun z y F2 H2 _ o x2 s2 w2 => ?_⟩
      have o := Out.later o x2
      obtain ⟨hf, o⟩ := grd_out o
      rw [Bool.and_eq_true] at hf
      have o' : Out C σ F2 H2 (fun F' H' => New C.K H F' H') (match idxF z ds 0 with | some j => .ok (.int (j : Nat)) | none => .bad) Q := o
      have r2 := r1.mono x2.f
      cases hj : idxF z ds 0 with
      | none => rw [hj] at o'; exact o'.elim
      | some j =>
        rw [hj] at o'
        obtain ⟨m, zz, e, e1, e2, e3⟩ := idxF_ok hj
        rw [Nat.zero_add] at e
        subst e
        obtain ⟨u, hu, wu⟩ := r2.get e1
        have wz := w2.rep hf.1
        have fl : ∀ d ∈ ds, isFlat d = true := fun d hd => List.all_eq_true.mp hf.2 d hd
        refine ⟨l, vs, y, j, u, rfl, rfl, SqL.of (x2.h _ _ h1), wz.flatV hf.1, r2.flats hf.2, hu, ?_, fun i u' hi hu' => ?_, fin_flat o' s2 rfl⟩
        · rw [← wu.eqF wz (fl _ (List.mem_of_getElem? e1)) hf.1]; exact e2
        · obtain ⟨d', hd', wd'⟩ := r2.get' hu'
          rw [← wd'.eqF wz (fl _ (List.mem_of_getElem? hd')) hf.1]
          exact e3 i d' hi hd'
    | _ => exact o.elim)
end
end DL
namespace DL
open PySem PySem.Spec PyProof.Rows L2
section
variable {prog : Program} {w : World} {A : Around} {E : Value → Shared → Prop} {s : Shared}
end
def maxI : List Int → Int → Int
  | [], d => d
  | n :: ns, _ => ns.foldl max n
section
variable {X : Cx} {C : Cd} {e a b c tg : Expr} {f g k : En → R D} {pos p p1 p2 p3 q apos cpos kpos : Pos} {K : Kx} {F H B : Hp} {kk : Nat} {es : List Expr} {fs : En → R (List D)}
def dRevS : D → R D
  | .lst ds => .ok (.lst ds.reverse)
  | .scr ns => .ok (.lst (ns.map D.int).reverse)
  | _ => .bad
def dMaxDef : D → D → R D
  | .lst ds, .int d => match asInts ds with | some ns => .ok (.int (maxI ns d)) | none => .bad
  | _, _ => .bad
def dCount : D → D → R D
  | .lst ds, x => match pys ds, py x with
    | some ps, some q => grd (SeqAt.shaped (.list ps) && SeqAt.shaped q) (.ok (.int (ps.countP fun z => PyData.eqv z q : Nat)))
    | _, _ => .bad
  | _, _ => .bad
def cnt (f g : En → R D) : En → R D := fun ρ => bd (f ρ) fun d => match d with | .lst ds => bd (g ρ) fun e => dCount (.lst ds) e | _ => .bad
end
end DL
namespace DL
open PySem PySem.Spec PyProof.Rows L2
section
variable {X : Cx} {C : Cd} {e a b c tg : Expr} {f g k : En → R D} {pos p p1 apos cpos : Pos} {st : Stmt} {s1 : En → R Fl} {K : Kx} {F H H' : Hp} {kk : Nat} {es : List Expr} {fs : En → R (List D)}
theorem i_seqL {i : Nat} {ds : List D} (hC : X.K = C.K.fr) (h : PE X e (tVar i)) (hc : LnAt C ds i := by first | exact lnAt_of rfl (by decide) | exact lnAt_M rfl (by decide) (by decide) | exact lnAt_W rfl (by decide) (by decide)) : PI X tg e (tI C true (itr (rdL ds i))) :=
  (PI.or (pi_list h) (PI.or (pi_tup h) (pi_str h))).mono fun σ H Q ⟨ρ, F, r, q⟩ => by
    unfold itr rdL at q
    rw [hC]
    cases hd : ds[i]? with
    | none => simp only [hd, bd_bad] at q; exact q.elim
    | some d =>
      simp only [hd, bd_ok] at q
      obtain ⟨v, hl⟩ := hc d hd
      obtain ⟨hv, w⟩ := r.lend i d v hl
      have jr : Same C.H0 (jn F C.H0) := jn_r r.sub r.ext.h
      cases d with
      | lst es =>
        obtain ⟨a, us, e1, h1, r1⟩ := w
        exact .inl ⟨_, hv, a, e1, ⟨_, SqL.of (r.ext.h _ _ h1)⟩, q _ F H (Ext.refl _ _) r.sub (iter_list (SqL.of (by rw [if_pos rfl]; exact jr _ _ h1)) (r1.mono r.ext.f))⟩
      | scr ns =>
        obtain ⟨a, e1, h1⟩ := w
        exact .inl ⟨_, hv, a, e1, ⟨_, r.ext.h.seq h1⟩, q _ F H (Ext.refl _ _) r.sub (iter_list (by rw [if_pos rfl]; exact jr.seq h1) (Reps.of_ints _))⟩
      | tup es =>
        obtain ⟨a, us, e1, h1, r1⟩ := w
        exact .inr (.inl ⟨_, hv, a, e1, ⟨_, SqT.of (r.ext.h _ _ h1)⟩, q _ F H (Ext.refl _ _) r.sub (iter_tup (SqT.of (by rw [if_pos rfl]; exact jr _ _ h1)) (r1.mono r.ext.f))⟩)
      | str z => exact .inr (.inr ⟨_, hv, z, w, q _ F H (Ext.refl _ _) r.sub iter_str⟩)
      | _ => exact q.elim
def itZipL : List D → R (List D)
  | [.lst ds, .lst es] => .ok (zipD ds es)
  | _ => .bad
theorem RowsAt.write {b : Addr} {us' : List V} {xs' : List D} (rr : Reps K F xs' us') : ∀ {rs : List D} {vs : List V} {m : Nat}, RowsAt K F H rs vs → vs[m]? = some (.ref b) → (vs.filterMap refOf).Nodup → RowsAt K F (upd H b (.lst us')) (rs.set m (.lst xs')) vs
  | _, _, _, .nil, h, _ => by simp at h
  | _, _, 0, .cons (b := b0) q r t, h, nd => by
    have e : b0 = b := by simpa using h
    rw [kid_head] at nd
    have nd := List.nodup_cons.mp nd
    refine .cons (by rw [e]; exact upd_same) rr (t.mono (Same.refl _) fun c hc u hu => ?_)
    rw [upd_ne (fun (z : c = b) => nd.1 (by rw [e, ← z]; exact hc))]
    exact hu
  | _, _, m + 1, .cons (b := b0) (vs := vs) q r t, h, nd => by
    rw [kid_head] at nd
    have nd := List.nodup_cons.mp nd
    have h : vs[m]? = some (.ref b) := by simpa using h
    refine .cons ?_ r (RowsAt.write rr t h nd.2)
    rw [upd_ne (fun (z : b0 = b) => nd.1 (by rw [z]; exact filterMap_mem h))]
    exact q
def rowAt (rs : List D) (j : Int) : Option (Nat × List D) := match ixN rs.length j with
  | some m => match rs[m]? with
    | some (.lst xs) => some (m, xs)
    | _ => none
  | none => none
def sRowM (i : Nat) (g f : En → R D) (w : List D → D → R (List D)) : En → R Fl := fun ρ => match ρ[i]? with
  | some (some (true, .rows rs)) => bd (g ρ) fun q => match q with
    | .int j => match rowAt rs j with
      | some (m, xs) => bd (f ρ) fun z => bd (w xs z) fun xs' => .ok (.next (ρ.set i (some (true, .rows (rs.set m (.lst xs'))))))
      | none => .bad
    | _ => .bad
  | _ => .bad
def sRow0 (i : Nat) (g : En → R D) (w : List D → List D) : En → R Fl := fun ρ => match ρ[i]? with
  | some (some (true, .rows rs)) => bd (g ρ) fun q => match q with
    | .int j => match rowAt rs j with
      | some (m, xs) => .ok (.next (ρ.set i (some (true, .rows (rs.set m (.lst (w xs)))))))
      | none => .bad
    | _ => .bad
  | _ => .bad
def sRowsApp (i : Nat) (f : En → R D) : En → R Fl := fun ρ => match ρ[i]? with
  | some (some (true, .rows rs)) => bd (f ρ) fun z => match z with
    | .lst xs => grd (decide (rs.length < sizeLine)) (.ok (.next (ρ.set i (some (true, .rows (rs ++ [.lst xs]))))))
    | _ => .bad
  | _ => .bad
theorem RowsAt.set {b : Addr} {us : List V} {xs : List D} (hb : H b = some (.lst us)) (rx : Reps K F xs us) : ∀ {rs : List D} {vs : List V} (m : Nat), RowsAt K F H rs vs → RowsAt K F H (rs.set m (.lst xs)) (vs.set m (.ref b))
  | _, _, _, .nil => .nil
  | _, _, 0, .cons _ _ t => .cons hb rx t
  | _, _, m + 1, .cons q r t => .cons q r (RowsAt.set hb rx m t)
def sRowPut (i : Nat) (f g : En → R D) : En → R Fl := fun ρ => match ρ[i]? with
  | some (some (true, .rows rs)) => bd (f ρ) fun z => bd (g ρ) fun q => match z, q with
    | .lst xs, .int j => match ixN rs.length j with
      | some m => .ok (.next (ρ.set i (some (true, .rows (rs.set m (.lst xs))))))
      | none => .bad
    | _, _ => .bad
  | _ => .bad
def nrm (ρ : En) : List Nat → En
  | [] => ρ
  | i :: is => match ρ[i]? with
    | some (some (true, .rows rs)) => nrm (ρ.set i (some (true, .lst rs))) is
    | some (some (false, .rows rs)) => nrm (ρ.set i (some (false, .lst rs))) is
    | _ => nrm ρ is
theorem Rel.half {ρ : En} {σ : L2.St} (r : Rel C ρ σ F H) {i : Nat} {rs : List D} (e : ρ[i]? = some (some (true, .rows rs))) : ∃ F', Same F F' ∧ Rel C (ρ.set i (some (true, .lst rs))) σ F' H := by
  obtain ⟨a, q, n, nd, vs, h1, ro⟩ := r.ownF i _ e
  have ef : foot H a (.rows rs) = a :: vs.filterMap refOf := by rw [foot_rows, kids_at h1]
  rw [ef] at n nd
  have nd := List.nodup_cons.mp nd
  obtain ⟨F2, s1, s2, rr, hk⟩ := ro.settle r.sub (fun b hb => (n b (List.mem_cons_of_mem _ hb)).1) nd.2
  have r2 := r.settleP e q (fun b hb => by rw [ef]; exact List.mem_cons_of_mem _ hb) s1 s2 hk
  have fa : F2 a = none := by
    cases hF : F2 a with
    | none => rfl
    | some o =>
      rcases hk a o hF with y | y
      · rw [(n a List.mem_cons_self).1] at y; cases y
      · exact absurd y nd.1
  refine ⟨F2, s1, ⟨r2.ext, r2.sub, by rw [List.length_set]; exact r.len, fun j e' h => ?_, fun j e' h => ?_, fun j k d' e' b b' c g1 g2 g3 g4 g5 g6 => ?_, r.lend, r.wok⟩⟩
  · rcases get_set h with ⟨rfl, z⟩ | ⟨nn, z⟩
    · cases z
    · exact r2.slot j e' (by rw [List.getElem?_set_ne nn]; exact z)
  · rcases get_set h with ⟨rfl, z⟩ | ⟨nn, z⟩
    · cases z
      refine ⟨a, q, fun b hb => ?_, by rw [foot_one rfl]; simp, vs, h1, rr⟩
      rw [foot_one rfl] at hb
      rw [List.mem_singleton.mp hb]
      exact ⟨fa, (n a List.mem_cons_self).2⟩
    · exact r2.ownF j e' (by rw [List.getElem?_set_ne nn]; exact z)
  · have cross : ∀ (k : Nat) (e1 : D) (b' : Addr), i ≠ k → ρ[k]? = some (some (true, e1)) → σ[k]? = some (some (.ref b')) → a ∉ foot H b' e1 := fun k e1 b' hik hk1 hq1 hc => hik (r.apartF i k _ _ a b' a e hk1 q hq1 foot_head hc)
    rcases get_set g1 with ⟨rfl, z⟩ | ⟨n1, z⟩
    · rcases get_set g2 with ⟨rfl, z'⟩ | ⟨n2, z'⟩
      · rfl
      · cases z
        rw [q] at g3
        cases g3
        rw [foot_one rfl] at g5
        rw [List.mem_singleton.mp g5] at g6
        exact absurd g6 (cross k _ _ n2 z' g4)
    · rcases get_set g2 with ⟨rfl, z'⟩ | ⟨n2, z'⟩
      · cases z'
        rw [q] at g4
        cases g4
        rw [foot_one rfl] at g6
        rw [List.mem_singleton.mp g6] at g5
        exact absurd g5 (cross j _ _ n1 z g3)
      · exact r.apartF j k _ _ b b' c z z' g3 g4 g5 g6
theorem Rel.plain {ρ : En} {σ : L2.St} (r : Rel C ρ σ F H) {i : Nat} {rs : List D} (e : ρ[i]? = some (some (false, .rows rs))) : Rel C (ρ.set i (some (false, .lst rs))) σ F H where
  ext := r.ext
  sub := r.sub
  len := by rw [List.length_set]; exact r.len
  slot := fun j e' h => by
    rcases get_set h with ⟨rfl, z⟩ | ⟨nn, z⟩
    · cases z
      obtain ⟨v, q, w⟩ := r.slot i _ e
      cases w with
      | rows h1 rr => exact ⟨_, q, .lst h1 rr⟩
    · exact r.slot j e' z
  ownF := fun j e' h => by
    rcases get_set h with ⟨rfl, z⟩ | ⟨nn, z⟩
    · cases z
    · exact r.ownF j e' z
  apartF := fun j k d' e' b b' c h1 h2 h3 h4 h5 h6 => by
    rcases get_set h1 with ⟨rfl, z⟩ | ⟨n, z⟩
    · cases z
    · rcases get_set h2 with ⟨rfl, z'⟩ | ⟨n', z'⟩
      · cases z'
      · exact r.apartF j k _ _ b b' c z z' h3 h4 h5 h6
  wok := r.wok
  lend := r.lend
theorem Rel.nrm {σ : L2.St} : ∀ (is : List Nat) {ρ : En} {F : Hp}, Rel C ρ σ F H → ∃ F', Same F F' ∧ Rel C (nrm ρ is) σ F' H
  | [], _, F, r => ⟨F, Same.refl _, r⟩
  | i :: is, ρ, F, r => by
    unfold DL.nrm
    split
    · rename_i rs e
      obtain ⟨F', sf, r'⟩ := r.half e
      obtain ⟨F2, sf2, r2⟩ := Rel.nrm is r'
      exact ⟨F2, sf.trans sf2, r2⟩
    · rename_i rs e
      exact Rel.nrm is (r.plain e)
    · exact Rel.nrm is r
def sNrm (is : List Nat) (s : En → R Fl) : En → R Fl := fun ρ => s (nrm ρ is)
def unR : D → R D
  | .rows rs => .ok (.lst rs)
  | d => .ok d
def aConsL (f : En → R D) (g : En → R (List D)) : En → R (List D) := fun ρ => bd (f ρ) fun d => match d with
  | .lst xs => bd (g ρ) fun ds => .ok (.lst xs :: ds)
  | _ => .bad
def mkRows (ds : List D) : R D := grd (small ds.length) (.ok (.rows ds))
def isL : D → Bool
  | .lst _ => true
  | _ => false
def lcGoR (g : D → En → Option En) (t : En → R Bool) (f : En → R D) (ρ : En) (ds : List D) : R (List D) := bd (lcGo g t f ρ ds) fun zs => grd (zs.all isL) (.ok zs)
def lcR (own : List Nat) (fi : En → R (List D)) (g : D → En → Option En) (t : En → R Bool) (f : En → R D) : En → R D := fun ρ => bd (fi ρ) fun ds =>
  grd (decide (ds.length < sizeLine)) (bd (lcGoR g t f (wipeR ρ own) ds) fun zs => .ok (.rows zs))
end
end DL
namespace DL
open PySem PySem.Spec PyProof.Rows L2
section
variable {X : Cx} {C : Cd} {e a b c tg : Expr} {f g k : En → R D} {pos p p1 apos cpos : Pos} {st : Stmt} {s1 : En → R Fl} {K : Kx} {F H H' : Hp} {kk : Nat} {es : List Expr} {fs : En → R (List D)}
def sNever : En → R Fl := fun _ => .bad
def sInsert (i : Nat) (g f : En → R D) : En → R Fl := fun ρ => match ρ[i]? with
  | some (some (true, .lst ds)) => bd (g ρ) fun q => bd (f ρ) fun z => match q with
    | .int j => grd (decide (ds.length < sizeLine) && decide (0 ≤ j) && decide (j < 2 ^ 63)) (.ok (.next (ρ.set i (some (true, .lst (ds.take j.toNat ++ [z] ++ ds.drop j.toNat))))))
    | _ => .bad
  | _ => .bad
def dIntB : List D → R D
  | [.bl b] => .ok (.int (if b then 1 else 0))
  | [.int i] => .ok (.int i)
  | _ => .bad
theorem intB_ok : OpL C (fun xs H Q => (∃ i, xs = [.int i] ∧ Q (.int i) H) ∨ ∃ k, xs = [.bl k] ∧ Q (.int (if k then 1 else 0)) H) dIntB := by
  intro σ F H Q ds vs o s w
  unfold dIntB at o
  split at o
  · obtain ⟨v, rfl, h⟩ := w.one
    cases h
    exact .inr ⟨_, rfl, fin_flat o s rfl⟩
  · obtain ⟨v, rfl, h⟩ := w.one
    cases h
    exact .inl ⟨_, rfl, fin_flat o s rfl⟩
  · exact o.elim
def rng3 : List D → R (List D)
  | [.int i, .int j, .int c] => grd (inR i && inR j && decide (0 < c) && decide (c < 1000000)) (.ok ((List.range ((j - i + c - 1) / c).toNat).map fun k : Nat => D.int (i + (k : Int) * c)))
  | _ => .bad
end
end DL
namespace DL
open PySem PySem.Spec PyProof.Rows L2
section
variable {prog : Program} {w : World} {A : Around} {E : Value → Shared → Prop} {s : Shared}
theorem extend_rev {it l : Addr} {items : Array Value} {R : Result → Shared → Prop} (hh : A.handled = none) (hit : s.heap.IsRevIter it l ((items.size : Int) - 1)) (hl : s.heap.IsList l items) (hne : l ≠ it) (hn : items.size ≤ sizeLine)
    (S : Addr) (res : Value) (hSi : S ≠ it) (hSl : S ≠ l) (hS : s.heap.get? S = some { cls := .type "list", dict := none, data := .seq #[] k0, slots := #[] })
    (hR : ∀ h' tk acc' c', (∀ b o, b ≠ S → b ≠ it → s.heap.get? b = some o → h'.get? b = some o) → h'.get? S = some { cls := .type "list", dict := none, data := .seq acc' c', slots := #[] } →
      ItemsOf (fun i v => items[items.size - 1 - i]? = some v) acc' items.size → R (.ok (.ret res)) { s with heap := h', toks := tk }) :
    wpAny (model prog w) A.in1 (Builtin.List.listExtendWith (.ref S) (.ref it) res)
      (fun fin s' => match fin with | .done f => R (.ok f) s' | .again c' => c'.quiet = true ∧ codeAny (model prog w) A c' R s') (fun e s' => R (.error e) s') s := by
  have W := (Walks.listRev (prog := prog) (w := w) (A := A.in1) hh it l hne items).toS
  have hSf : S ∉ [it, l] := by simp only [List.mem_cons, List.not_mem_nil, or_false, not_or]; exact ⟨hSi, hSl⟩
  have hT : s.TypeIs (.ref it) "list_reverseiterator" := Heap.IsRevIter.typeIs hit
  have h1 : Builtin.List.listSameRef (.ref S) (.ref it) = false := by simp [Builtin.List.listSameRef, hSi]
  unfold Builtin.List.listExtendWith
  refine wpAny_bind (wpAny_typeOf hT ?_)
  rw [if_neg (by rw [h1]; decide)]
  refine wpAny_bind (wpAny_pyIter_revIter hit ?_)
  refine wpAny_bind (wpAny_holding ?_)
  unfold Builtin.List.listLengthHint
  refine wpAny_bind (wpAny_specialOf hT RT.nolen_lri ?_)
  show wpAny _ A.in1 (specialOf (Value.ref it) (Str.ofString "__length_hint__") >>= _) _ _ _
  refine wpAny_bind (wpAny_specialOf hT RT.hint_lri ?_)
  generalize hid : ("list_reverseiterator.__length_hint__" : String) = id0
  wp_delta
  rw [show splitId id0 = some ("list_reverseiterator", "__length_hint__") from by subst hid; decide +kernel]
  subst hid
  refine wpAny_bind (wpAny_isInstance (b := true) hT (by rw [isSubtype_type]; kernel_rfl) ?_)
  refine wpAny_pure ?_
  rw [if_neg (by decide)]
  have e0 : ((items.size : Nat) : Int) - 1 - ((0 : Nat) : Int) = (items.size : Int) - 1 := by omega
  refine wpAny_pure ⟨plainId_quiet PySem.F.plain_extend_loop _, codeAny_extend_loopS W hn _ hSf _ items.size 0 _ _ _ rfl (Nat.zero_le _) ⟨Nat.zero_le _, by rw [e0]; exact hit, hl⟩ hS (ItemsOf.nil _) fun s' acc' c' hm hS' hacc => ?_⟩
  rw [Moved.eq_with hm]
  refine hR s'.heap s'.toks acc' c' (fun b o hb hb2 e => hm.heap b o (fun hmem => ?_) e) hS' hacc
  rcases List.mem_cons.mp hmem with e' | hmem
  · exact hb e'
  · exact hb2 (List.mem_singleton.mp hmem)
theorem call_list_rev {it l : Addr} {items : Array Value} {Q : Value → Shared → Prop} (hh : A.handled = none) (hit : s.heap.IsRevIter it l ((items.size : Int) - 1)) (hl : s.heap.IsList l items) (hne : l ≠ it) (hn : items.size ≤ sizeLine)
    (hQ : ∀ (h' : Heap) (tk : Nat) (acc : Array Value) (c' : Nat), (∀ b o, b ≠ it → s.heap.get? b = some o → h'.get? b = some o) → h'.get? s.heap.objs.size = some { cls := .type "list", dict := none, data := .seq acc c', slots := #[] } → ItemsOf (fun i v => items[items.size - 1 - i]? = some v) acc items.size →
      Q (.ref s.heap.objs.size) { s with heap := h', toks := tk }) :
    wpAny (model prog w) A (call (.type "list") [.ref it]) Q E s := by
  obtain ⟨oi, hoi, _⟩ := id hit
  obtain ⟨ol, hol, _⟩ := id hl
  have hSi : s.heap.objs.size ≠ it := Nat.ne_of_gt (Heap.lt_size hoi)
  have hSl : s.heap.objs.size ≠ l := Nat.ne_of_gt (Heap.lt_size hol)
  refine callType_codes (Q₁ := fun obj s₁ => obj = .ref s.heap.objs.size ∧ s₁ = { s with heap := s.heap.push { cls := .type "list", data := .seq #[] } }) PySem.F.called_list (PySem.F.typeCall_list_1 _) PySem.F.entry_list_init
    (code_list_new _ ⟨rfl, rfl⟩) fun obj s₁ h₁ => ?_
  obtain ⟨rfl, rfl⟩ := h₁
  have hS : (s.heap.push { cls := .type "list", data := .seq #[] }).get? s.heap.objs.size = some { cls := .type "list", data := .seq #[] } := Heap.get?_push_size _ rfl
  refine ⟨⟨_, hS, rfl⟩, PySem.F.args_list_init_2 _ _, ?_⟩
  show wpAny _ _ (do let old ← Builtin.List.listItems (.ref s.heap.objs.size); Builtin.List.listUpdate (.ref s.heap.objs.size) (fun _ => #[]); letGo old.toList.reverse; Builtin.List.listExtendWith (.ref s.heap.objs.size) (.ref it) .none) _ _ _
  refine wpAny_bind ?_
  unfold Builtin.List.listItems
  refine wpAny_bind (wpAny_seqItems hS rfl (wpAny_pure ?_))
  show wpAny _ _ (updateSeq s.heap.objs.size (fun _ => #[]) >>= fun _ => letGo (#[] : Array Value).toList.reverse >>= fun _ => Builtin.List.listExtendWith (.ref s.heap.objs.size) (.ref it) .none) _ _ _
  refine wpAny_bind (wpAny_updateSeq hS rfl ?_)
  have hS₂ := Heap.get?_update_self (Obj.mapSeq (fun _ => (#[] : Array Value))) hS rfl
  have oth : ∀ b o, s.heap.get? b = some o → ((s.heap.push { cls := .type "list", data := .seq #[] }).update s.heap.objs.size (Obj.mapSeq (fun _ => (#[] : Array Value)))).get? b = some o :=
    fun b o e => (Heap.get?_update_other _ _ (Ne.symm (Nat.ne_of_lt (Heap.lt_size e)))).trans (Heap.get?_push_of_some _ e)
  refine wpAny_bind (wpAny_letGo ?_)
  refine extend_rev (A := A.in1) hh (hit.at fun o e => oth _ o e) ⟨ol, oth _ _ hol, ‹_›⟩ hne hn _ .none hSi hSl hS₂ fun h' tk acc' c' hk hS' hacc => ?_
  exact ⟨rfl, hQ h' tk acc' c' (fun b o hb e => hk b o (Nat.ne_of_lt (Heap.lt_size e)) hb (oth b o e)) hS' hacc⟩
end
section
variable {X : Cx}
def tLstRev (K : PySem.W.Frag) (te : TE) : TE := fun σ H Q => te σ H fun v H1 => ∃ (a : Addr) (xs : List V), v = .ref a ∧ SqL K H1 a xs ∧ ∀ q, H1 q = none → Q (.ref q) (upd H1 q (.lst xs.reverse))
theorem pe_lstRev {e : Expr} {te : TE} {p p2 pos pos2 : Pos} (hc : X.calm = true) (hg : Gl X "list") (hm : X.mg "list" = none) (hg2 : Gl X "reversed") (hm2 : X.mg "reversed" = none) (he : PE X e te)
    (hs : starEach [e] X.env = (false, eval e X.env) :: starEach [] X.env := by rfl)
    (hs2 : starEach [.Call (.Name "reversed" p2) [e] [] pos2] X.env = (false, eval (.Call (.Name "reversed" p2) [e] [] pos2) X.env) :: starEach [] X.env := by rfl) :
    PE X (.Call (.Name "list" p) [.Call (.Name "reversed" p2) [e] [] pos2] [] pos) (tLstRev X.K te) := by
  refine ⟨fun pins s σ H Q I h => ?_⟩
  refine Call_ (ld_blt I hg hm (show bootBuiltins (Str.ofString "list") = some (.type "list") by decide +kernel) (PyProof.Rows.callWith_type1 (args_cons (Call_ (ld_blt I hg2 hm2 PyProof.Rows.boot_reversed (PyProof.Rows.callWith_type1 (args_cons (thn (he.run pins s σ H _ I h) fun u s1 ⟨v, H1, I1, r1, q1⟩ => args_nil ?_) hs) hs rfl))) hs2) hs2 rfl))
  obtain ⟨a, xs, ev, hq, q⟩ := q1
  subst ev
  obtain rfl : u = Value.ref a := r1
  obtain ⟨its, rv, p', hz⟩ := I1.list hq
  refine call_reversed_list p'.isList (args_nil ?_)
  have k0 : ∀ b o, s1.heap.get? b = some o → (s1.heap.push (revObj a ((its.toArray.size : Int) - 1))).get? b = some o := fun b o e => Heap.get?_push_of_some _ e
  have I2 : Inv X pins σ H1 { s1 with heap := s1.heap.push (revObj a ((its.toArray.size : Int) - 1)) } := I1.kept (t' := s1.toks) k0
  obtain ⟨f0, f1, f2, f3, f4, f5⟩ := I1.fpOk (H' := H1) (b := s1.heap.objs.size) (Nat.le_refl _) (I1.hok.fresh (Nat.le_refl _))
  have hl := p'.isList
  obtain ⟨ol, hol, _⟩ := id hl
  have hne : a ≠ s1.heap.objs.size := Nat.ne_of_lt (Heap.lt_size hol)
  have hn : its.toArray.size ≤ sizeLine := by rw [List.size_toArray, ← rv.length]; exact hz
  refine call_list_rev (s := { s1 with heap := s1.heap.push (revObj a ((its.toArray.size : Int) - 1)) }) (I1.ok.hd hc) ⟨_, Heap.get?_push_size _ rfl, rfl, rfl⟩ (hl.push _) hne hn fun h' tk acc c' hk hS hi => ?_
  have hsz : (s1.heap.push (revObj a ((its.toArray.size : Int) - 1))).objs.size = s1.heap.objs.size + 1 := by simp [Heap.push]
  have hlt : s1.heap.objs.size < (s1.heap.push (revObj a ((its.toArray.size : Int) - 1))).objs.size := by omega
  refine ⟨.ref _, upd H1 _ (.lst xs.reverse), I1.laid (t' := tk) (fun c o e => hk c o (Nat.ne_of_lt (Heap.lt_size e)) (k0 c o e)) (Nat.le_of_lt hlt) (show ObjOk X.prog X.w _ _ _ (.lst xs.reverse) from ⟨by rw [List.length_reverse]; exact hz, acc.toList, c', RT.vals_rev rv hi, ?_⟩), rfl, q _ (I1.hok.fresh (Nat.le_of_lt hlt))⟩
  rw [Array.toArray_toList]
  exact hS
end
section
variable {X : Cx} {C : Cd} {a : Expr} {f : En → R D} {pos pos2 p p2 : Pos}
theorem d_lstRev (hc : X.calm = true) (hC : X.K = C.K.fr) (hm : X.mg "list" = none) (hm2 : X.mg "reversed" = none) (ha : PE X a (tR C f)) (hg : Gl X "list" := by rfl) (hg2 : Gl X "reversed" := by rfl)
    (hs : starEach [a] X.env = (false, eval a X.env) :: starEach [] X.env := by rfl)
    (hs2 : starEach [.Call (.Name "reversed" p2) [a] [] pos2] X.env = (false, eval (.Call (.Name "reversed" p2) [a] [] pos2) X.env) :: starEach [] X.env := by rfl) :
    PE X (.Call (.Name "list" p) [.Call (.Name "reversed" p2) [a] [] pos2] [] pos) (tO C (uop f dRevS)) :=
  (pe_lstRev hc hg hm hg2 hm2 ha hs hs2).mono (one (r := fun x H1 Q => ∃ a xs, x = .ref a ∧ SqL X.K H1 a xs ∧ ∀ p, H1 p = none → Q (.ref p) (upd H1 p (.lst xs.reverse))) (by
    intro σ F H Q d x o s w
    rw [hC]
    unfold dRevS at o
    split at o
    · obtain ⟨a, vs, rfl, h1, r1⟩ := w
      exact ⟨a, vs, rfl, SqL.of h1, fun p hp => fin_lst o s (Same.refl _) r1.reverse hp⟩
    · obtain ⟨a, rfl, h1⟩ := w
      exact ⟨a, _, rfl, h1, fun p hp => fin_lst o s (Same.refl _) (Reps.of_ints _).reverse hp⟩
    · exact o.elim))
end
end DL
namespace DL
open PySem PySem.Spec PyProof.Rows L2
section
open SrtO Srt
variable {prog : Program} {w : World} {A : Around} {E : Value → Shared → Prop} {s : Shared}
end
section
open SrtO Srt
variable {X : Cx}
end
section
variable {X : Cx} {C : Cd} {K : Kx} {F H : Hp}
variable {e : Expr} {es : List Expr} {fs : En → R (List D)} {pos p : Pos}
end
section
variable {X : Cx} {C : Cd} {k v : Expr} {f g : En → R D} {pos : Pos}
end
end DL
namespace DL
open PySem PySem.Spec PyProof.Rows L2
abbrev Slot := Option (Bool × D)
theorem loop_find {α : Type} {g : D → En → Option En} {gb : En → R Fl} {o : Bool} {x : D} (I : En → Prop) (F : α → D) (p : α → Bool) : ∀ (xs : List α) (ρ : En), I ρ →
    (∀ a ∈ xs, ∀ ρ, I ρ → ∃ ρ1, g (F a) ρ = some ρ1 ∧ (p a = true → ∃ ρ', gb ρ1 = .ok (.next ρ') ∧ I ρ') ∧ (p a = false → gb ρ1 = .ok (.ret o x))) →
    (xs.all p = true ∧ ∃ ρ', loopD g gb (xs.map F) ρ = .ok (.next ρ') ∧ I ρ') ∨ (xs.all p = false ∧ loopD g gb (xs.map F) ρ = .ok (.ret o x))
  | [], ρ, h0, _ => .inl ⟨rfl, ρ, rfl, h0⟩
  | a :: xs, ρ, h0, h => by
    obtain ⟨ρ1, h1, h2, h3⟩ := h a List.mem_cons_self ρ h0
    rw [List.map_cons]
    unfold loopD
    rw [h1, List.all_cons]
    dsimp only
    cases hp : p a with
    | true =>
      obtain ⟨ρ', h4, h5⟩ := h2 hp
      rw [h4]
      exact loop_find I F p xs ρ' h5 fun a ha => h a (List.mem_cons_of_mem _ ha)
    | false =>
      rw [h3 hp]
      exact .inr ⟨rfl, rfl⟩
theorem loop_at {α : Type} {g : D → En → Option En} {gb : En → R Fl} (F : α → D) : ∀ (xs : List α) (I : Nat → En → Prop) (ρ : En), I 0 ρ →
    (∀ i a ρ, xs[i]? = some a → I i ρ → ∃ ρ1, g (F a) ρ = some ρ1 ∧ ∃ ρ', gb ρ1 = .ok (.next ρ') ∧ I (i + 1) ρ') → ∃ ρ', loopD g gb (xs.map F) ρ = .ok (.next ρ') ∧ I xs.length ρ'
  | [], I, ρ, h0, _ => ⟨ρ, rfl, h0⟩
  | a :: xs, I, ρ, h0, h => by
    obtain ⟨ρ1, h1, ρ', h2, h3⟩ := h 0 a ρ rfl h0
    rw [List.map_cons]
    unfold loopD
    rw [h1]
    dsimp only
    rw [h2]
    exact loop_at F xs (fun i => I (i + 1)) ρ' h3 fun i b ρ hb => h (i + 1) b ρ (by simpa using hb)
theorem at_lt {α : Type} {xs : List α} {i : Nat} {a : α} (h : xs[i]? = some a) : i < xs.length := (List.getElem?_eq_some_iff.mp h).1
theorem while_ind {t : En → R Bool} {gb : En → R Fl} {W : R Fl → Prop} (I : En → Prop) (μ : En → Nat) (hs : ∀ ρ, I ρ → (t ρ = .ok false ∧ W (.ok (.next ρ))) ∨ (t ρ = .ok true ∧
      ((∃ ρ', (gb ρ = .ok (.next ρ') ∨ gb ρ = .ok (.cont ρ')) ∧ I ρ' ∧ μ ρ' < μ ρ) ∨ (∃ ρ', gb ρ = .ok (.brk ρ') ∧ W (.ok (.next ρ'))) ∨ (∃ o x, gb ρ = .ok (.ret o x) ∧ W (.ok (.ret o x)))))) : ∀ (n : Nat) (ρ : En), I ρ → μ ρ < n → W (whileD t gb n ρ)
  | 0, ρ, _, h => absurd h (Nat.not_lt_zero _)
  | n + 1, ρ, h0, h => by
    unfold whileD
    rcases hs ρ h0 with ⟨h1, h2⟩ | ⟨h1, h2⟩
    · rw [h1, bd_ok, if_neg Bool.false_ne_true]; exact h2
    · rw [h1, bd_ok, if_pos rfl]
      rcases h2 with ⟨ρ', h2, h3, h4⟩ | ⟨ρ', h2, h3⟩ | ⟨o, x, h2, h3⟩
      · have := while_ind I μ hs n ρ' h3 (by omega)
        rcases h2 with h2 | h2 <;> rw [h2] <;> exact this
      · rw [h2]; exact h3
      · rw [h2]; exact h3
theorem FU_eq : FU = 1000000 := rfl
theorem lc_map {g : D → En → Option En} {t : En → R Bool} {f : En → R D} {ρ : En} (F : D → D) : ∀ (ds : List D), (∀ d ∈ ds, lcStep g t f ρ d = .ok (some (F d))) → lcGo g t f ρ ds = .ok (ds.map F)
  | [], _ => rfl
  | d :: ds, h => by
    unfold lcGo
    rw [h d List.mem_cons_self, bd_ok, lc_map F ds fun d hd => h d (List.mem_cons_of_mem _ hd)]
    rfl
theorem sizeLine_big : sizeLine = 16777216 := sizeLine_eq
theorem small_of {n : Nat} (h : n ≤ 1000000) : small n = true := by
  unfold small
  rw [sizeLine_eq]
  exact decide_eq_true (by omega)
theorem lt_size {n : Nat} (h : n ≤ 1000000) : decide (n < sizeLine) = true := by
  rw [sizeLine_eq]
  exact decide_eq_true (by omega)
theorem inR_small {i : Int} (h : -1000000000000 ≤ i) (h' : i ≤ 1000000000000) : DL.inR i = true := by
  unfold DL.inR
  rw [Bool.and_eq_true]
  exact ⟨decide_eq_true (by omega), decide_eq_true (by omega)⟩
theorem atI_ge {α : Type} {xs : List α} {i : Int} {x : α} (h0 : 0 ≤ i) (h : xs[i.toNat]? = some x) : L2.atI xs i = some x := by
  obtain ⟨j, rfl⟩ : ∃ j : Nat, i = j := ⟨i.toNat, by omega⟩
  exact atI_nat (by simpa using h)
theorem ixA_lst {ds : List D} {i : Int} {x : D} (h0 : 0 ≤ i) (h : ds[i.toNat]? = some x) : dIxA (.lst ds) (.int i) = .ok x := by
  show (match L2.atI ds i with | some d => R.ok d | none => R.bad) = _
  rw [atI_ge h0 h]
theorem ixA_tup {ds : List D} {i : Int} {x : D} (h0 : 0 ≤ i) (h : ds[i.toNat]? = some x) : dIxA (.tup ds) (.int i) = .ok x := by
  show (match L2.atI ds i with | some d => R.ok d | none => R.bad) = _
  rw [atI_ge h0 h]
theorem ixA_scr {ds : List Int} {i : Int} {x : Int} (h0 : 0 ≤ i) (h : ds[i.toNat]? = some x) : dIxA (.scr ds) (.int i) = .ok (.int x) := by
  show (match L2.atI ds i with | some d => R.ok (D.int d) | none => R.bad) = _
  rw [atI_ge h0 h]
theorem ixA_ints {ns : List Int} {i : Int} (h0 : 0 ≤ i) (h : i < ns.length) : dIxA (.lst (ns.map .int)) (.int i) = .ok (.int (ns.getD i.toNat 0)) := by
  refine ixA_lst h0 ?_
  have : i.toNat < ns.length := by omega
  rw [List.getElem?_map, List.getElem?_eq_getElem this, List.getD_eq_getElem?_getD, List.getElem?_eq_getElem this]
  rfl
theorem ixA_scrD {ns : List Int} {i : Int} (h0 : 0 ≤ i) (h : i < ns.length) : dIxA (.scr ns) (.int i) = .ok (.int (ns.getD i.toNat 0)) := by
  refine ixA_scr h0 ?_
  have : i.toNat < ns.length := by omega
  rw [List.getElem?_eq_getElem this, List.getD_eq_getElem?_getD, List.getElem?_eq_getElem this]
  rfl
theorem cut_to {α : Type} {xs : List α} {n : Int} (h : 0 ≤ n) : cutD xs none (some n) = xs.take n.toNat := by
  obtain ⟨j, rfl⟩ : ∃ j : Nat, n = j := ⟨n.toNat, by omega⟩
  unfold cutD
  rw [HT.sIx_none, HT.sIx_nat, List.drop_zero, Nat.sub_zero]
  simp only [Int.toNat_natCast]
  by_cases hj : j ≤ xs.length
  · rw [Nat.min_eq_left hj]
  · rw [Nat.min_eq_right (by omega), List.take_length, List.take_of_length_le (by omega)]
theorem cut_from {α : Type} {xs : List α} {n : Int} (h : 0 ≤ n) : cutD xs (some n) none = xs.drop n.toNat := by
  obtain ⟨j, rfl⟩ : ∃ j : Nat, n = j := ⟨n.toNat, by omega⟩
  unfold cutD
  rw [HT.sIx_none, HT.sIx_nat]
  simp only [Int.toNat_natCast]
  by_cases hj : j ≤ xs.length
  · rw [Nat.min_eq_left hj, List.take_of_length_le (by rw [List.length_drop]; omega)]
  · rw [Nat.min_eq_right (by omega), List.drop_length, List.take_nil, List.drop_of_length_le (by omega)]
theorem cut_mid {α : Type} {xs : List α} {m n : Int} (h : 0 ≤ m) (h' : 0 ≤ n) : cutD xs (some m) (some n) = (xs.drop m.toNat).take (n.toNat - m.toNat) := by
  obtain ⟨j, rfl⟩ : ∃ j : Nat, n = j := ⟨n.toNat, by omega⟩
  obtain ⟨i, rfl⟩ : ∃ j : Nat, m = j := ⟨m.toNat, by omega⟩
  unfold cutD
  rw [HT.sIx_nat, HT.sIx_nat]
  simp only [Int.toNat_natCast]
  by_cases hi : i ≤ xs.length
  · rw [Nat.min_eq_left hi]
    by_cases hj : j ≤ xs.length
    · rw [Nat.min_eq_left hj]
    · rw [Nat.min_eq_right (by omega), List.take_of_length_le (by rw [List.length_drop]; omega), List.take_of_length_le (by rw [List.length_drop]; omega)]
  · rw [show min i xs.length = xs.length from Nat.min_eq_right (by omega), List.drop_length, List.take_nil, List.drop_of_length_le (by omega), List.take_nil]
theorem pys_ints : ∀ ns : List Int, pys (ns.map .int) = some (ns.map PyData.int)
  | [] => rfl
  | n :: ns => by simp only [List.map_cons]; unfold pys; rw [pys_ints ns]; rfl
theorem py_ints (ns : List Int) : py (.lst (ns.map .int)) = some (.list (ns.map PyData.int)) := by unfold py; rw [pys_ints]; rfl
theorem canLay_ints : ∀ ns : List Int, PyData.canLayAll0 (ns.map PyData.int) = true
  | [] => by simp [PyData.canLayAll0]
  | n :: ns => by simp [PyData.canLayAll0, PyData.canLay0, canLay_ints ns]
theorem depth_ints : ∀ ns : List Int, PyData.depthAll (ns.map PyData.int) ≤ 1
  | [] => by simp [PyData.depthAll]
  | n :: ns => by
    have := depth_ints ns
    simp [PyData.depthAll, PyData.depth]
    omega
theorem shaped_ints (ns : List Int) : SeqAt.shaped (.list (ns.map PyData.int)) = true := by
  have := depth_ints ns
  have h2 := canLay_ints ns
  unfold SeqAt.shaped
  simp [PyData.canLay0, PyData.depth, h2]
  omega
theorem eqv_ints : ∀ ns ms : List Int, PyData.eqvAll (ns.map PyData.int) (ms.map PyData.int) = decide (ns = ms)
  | [], [] => rfl
  | [], m :: ms => rfl
  | n :: ns, [] => rfl
  | n :: ns, m :: ms => by
    simp only [List.map_cons, PyData.eqvAll, PyData.eqv, eqv_ints ns ms]
    by_cases h : n = m <;> by_cases h' : ns = ms <;> simp [h, h']
theorem dEq_ints (neg : Bool) (ns ms : List Int) : dEq neg (.lst (ns.map .int)) (.lst (ms.map .int)) = .ok (.bl (xorB neg (decide (ns = ms)))) := by
  show deepEq neg _ _ = _
  unfold deepEq
  rw [py_ints, py_ints]
  simp only [shaped_ints, Bool.and_self, grd_t]
  rw [xor_if]
  simp only [PyData.eqv, eqv_ints]
theorem dEq_scr (neg : Bool) (ns ms : List Int) : dEq neg (.scr ns) (.lst (ms.map .int)) = .ok (.bl (xorB neg (decide (ns = ms)))) := by
  show deepEq neg _ _ = _
  unfold deepEq
  rw [show py (.scr ns) = some (.list (ns.map PyData.int)) from rfl, py_ints]
  simp only [shaped_ints, Bool.and_self, grd_t]
  rw [xor_if]
  simp only [PyData.eqv, eqv_ints]
theorem dEq_scr_nil (neg : Bool) (ns : List Int) : dEq neg (.scr ns) (.lst []) = .ok (.bl (xorB neg (decide (ns = [])))) := dEq_scr neg ns []
theorem dEq_ints_nil (neg : Bool) (ns : List Int) : dEq neg (.lst (ns.map .int)) (.lst []) = .ok (.bl (xorB neg (decide (ns = [])))) := dEq_ints neg ns []
end DL
namespace DL
open PySem PySem.Spec PyProof.Rows L2
section
variable {ρ : En} {f g k : En → R D} {fs : En → R (List D)} {s t s1 s2 : En → R Fl} {i : Nat} {d e : D} {ds es : List D} {b o : Bool} {ft gt : En → R Bool}
def seqK (x : R Fl) (t : En → R Fl) : R Fl := bd x fun r => match r with | .next ρ' => t ρ' | r => .ok r
theorem ap_seq : sSeq s t ρ = seqK (s ρ) t := rfl
theorem seq_next : seqK (.ok (.next ρ)) t = t ρ := rfl
theorem seq_ret : seqK (.ok (.ret o d)) t = .ok (.ret o d) := rfl
theorem seq_brk : seqK (.ok (.brk ρ)) t = .ok (.brk ρ) := rfl
theorem seq_cont : seqK (.ok (.cont ρ)) t = .ok (.cont ρ) := rfl
theorem seq_err {c : Str} : seqK (.err c) t = .err c := rfl
theorem ap_skip : sSkip ρ = .ok (.next ρ) := rfl
theorem ap_brk : sBrk ρ = .ok (.brk ρ) := rfl
theorem ap_cont : sCont ρ = .ok (.cont ρ) := rfl
theorem ap_stl {is : List Nat} : sStl is s ρ = s (settle ρ is) := rfl
theorem settle_nil : settle ρ [] = ρ := rfl
def settleK (x : Option Slot) (i : Nat) (is : List Nat) (ρ : En) : En := match x with
  | some (some (true, d)) => settle (ρ.set i (some (false, d))) is
  | _ => settle ρ is
theorem settle_cons {is : List Nat} : settle ρ (i :: is) = settleK ρ[i]? i is ρ := rfl
theorem settle_t {is : List Nat} : settleK (some (some (true, d))) i is ρ = settle (ρ.set i (some (false, d))) is := rfl
theorem settle_f {is : List Nat} : settleK (some (some (false, d))) i is ρ = settle ρ is := rfl
def iteK (x : R Bool) (s1 s2 : En → R Fl) (ρ : En) : R Fl := bd x fun c => if c = true then s1 ρ else s2 ρ
theorem ap_if : sIf ft s1 s2 ρ = iteK (ft ρ) s1 s2 ρ := rfl
theorem ite_t : iteK (.ok true) s1 s2 ρ = s1 ρ := rfl
theorem ite_f : iteK (.ok false) s1 s2 ρ = s2 ρ := rfl
def setK (x : R D) (i : Nat) (ρ : En) : R Fl := bd x fun d => stE i d ρ
def setOK (x : R D) (i : Nat) (ρ : En) : R Fl := bd x fun d => stO i d ρ
theorem ap_set : sSet i f ρ = setK (f ρ) i ρ := rfl
theorem ap_setO : sSetO i f ρ = setOK (f ρ) i ρ := rfl
theorem set_ok : setK (.ok d) i ρ = .ok (.next (ρ.set i (some (false, d)))) := rfl
theorem setO_ok : setOK (.ok d) i ρ = .ok (.next (ρ.set i (some (isC d, d)))) := rfl
theorem isC_lst : isC (.lst ds) = true := rfl
theorem isC_dK {l : List (Key × D)} : isC (.dK l) = true := rfl
theorem isC_dT {l : List (List Key × D)} : isC (.dT l) = true := rfl
theorem isC_int {n : Int} : isC (.int n) = false := rfl
theorem isC_str {n : Str} : isC (.str n) = false := rfl
theorem isC_bl {n : Bool} : isC (.bl n) = false := rfl
theorem isC_non : isC .non = false := rfl
theorem isC_tup : isC (.tup ds) = false := rfl
def retK (x : R D) (o : Bool) : R Fl := bd x fun d => .ok (.ret o d)
theorem ap_ret : sRet f ρ = retK (f ρ) false := rfl
theorem ap_retO : sRetO f ρ = retK (f ρ) true := rfl
theorem ret_ok : retK (.ok d) o = .ok (.ret o d) := rfl
theorem ap_ret0 : sRetNone ρ = .ok (.ret false .non) := rfl
def unpK (x : R D) (g : D → En → Option En) (ρ : En) : R Fl := bd x fun d => match g d ρ with | some ρ' => .ok (.next ρ') | none => .bad
theorem ap_unp {gg : D → En → Option En} : sUnp f gg ρ = unpK (f ρ) gg ρ := rfl
def unp2 (x : Option En) : R Fl := match x with | some ρ' => .ok (.next ρ') | none => .bad
theorem unp_ok {gg : D → En → Option En} : unpK (.ok d) gg ρ = unp2 (gg d ρ) := rfl
theorem unp2_ok : unp2 (some ρ) = .ok (.next ρ) := rfl
theorem ap_drop : sDrop f ρ = bd (f ρ) fun _ => .ok (.next ρ) := rfl
theorem ap_gset : gSet i d ρ = some (ρ.set i (some (false, d))) := rfl
theorem ap_gtup {n : Nat} {gs : List D → En → Option En} : gSeqD n gs (.tup ds) ρ = if ds.length = n then gs ds ρ else none := rfl
theorem ap_glst {n : Nat} {gs : List D → En → Option En} : gSeqD n gs (.lst ds) ρ = if ds.length = n then gs ds ρ else none := rfl
theorem ap_gnil : gsNil [] ρ = some ρ := rfl
theorem ap_gcons {gg : D → En → Option En} {gs : List D → En → Option En} : gsCons gg gs (d :: ds) ρ = (gg d ρ).bind (gs ds) := rfl
def rdK (x : Option Slot) : R D := match x with | some (some (_, d)) => .ok d | _ => .bad
def rdEK (x : Option Slot) : R D := match x with | some (some (false, d)) => .ok d | some (some (true, d)) => if isC d = true then .bad else .ok d | _ => .bad
def rdOK (x : Option Slot) : R D := match x with | some (some (true, d)) => .ok d | some (some (false, d)) => if isC d = true then .bad else .ok d | _ => .bad
theorem ap_rd : rd i ρ = rdK ρ[i]? := rfl
theorem ap_rdE : rdE i ρ = rdEK ρ[i]? := rfl
theorem ap_rdO : rdO i ρ = rdOK ρ[i]? := rfl
theorem rd_ok : rdK (some (some (b, d))) = .ok d := rfl
theorem rdE_ok : rdEK (some (some (false, d))) = .ok d := rfl
theorem rdO_ok : rdOK (some (some (true, d))) = .ok d := rfl
theorem rdO_f (h : isC d = false) : rdOK (some (some (false, d))) = .ok d := by show (if isC d = true then R.bad else R.ok d) = _; simp [h]
theorem ap_cst : cst d ρ = .ok d := rfl
def bd2 (x y : R D) (w : D → D → R D) : R D := bd x fun d => bd y fun e => w d e
theorem ap_bop {w : D → D → R D} : bop f g w ρ = bd2 (f ρ) (g ρ) w := rfl
theorem bd2_ok {w : D → D → R D} : bd2 (.ok d) (.ok e) w = w d e := rfl
theorem ap_uop {w : D → R D} : uop f w ρ = bd (f ρ) w := rfl
theorem ap_nop {w : List D → R D} : nop fs w ρ = bd (fs ρ) w := rfl
theorem ap_anil : aNil ρ = .ok [] := rfl
def consK (x : R D) (y : R (List D)) : R (List D) := bd x fun d => bd y fun ds => .ok (d :: ds)
theorem ap_acons : aCons f fs ρ = consK (f ρ) (fs ρ) := rfl
theorem cons_ok : consK (.ok d) (.ok ds) = .ok (d :: ds) := rfl
theorem add_int {m n : Int} : dAdd (.int m) (.int n) = .ok (.int (m + n)) := rfl
theorem add_str {x y : Str} : dAdd (.str x) (.str y) = grd (small (x.length + y.length)) (.ok (.str (x ++ y))) := rfl
theorem add_lst : dAdd (.lst ds) (.lst es) = grd (small (ds.length + es.length)) (.ok (.lst (ds ++ es))) := rfl
theorem sub_int {m n : Int} : dSub (.int m) (.int n) = .ok (.int (m - n)) := rfl
theorem mod_int {m n : Int} : dMod (.int m) (.int n) = grd (decide (0 < n)) (.ok (.int (m % n))) := rfl
theorem mod_pos {m n : Int} (h : 0 < n) : dMod (.int m) (.int n) = .ok (.int (m % n)) := by rw [mod_int, decide_eq_true h]; rfl
theorem log_of {n b : Nat} (h : n < 2 ^ b) (h0 : 0 < b) : n.log2 < b := by
  by_cases hn : n = 0
  · subst hn; simpa using h0
  · exact (Nat.log2_lt hn).mpr h
theorem div_int {m n : Int} : dDiv (.int m) (.int n) = grd (decide (0 < n) && decide (n.natAbs.log2 < 9000)) (.ok (.int (m / n))) := rfl
theorem div_pos {m n : Int} (h : 0 < n) (h' : n < 2 ^ 200) : dDiv (.int m) (.int n) = .ok (.int (m / n)) := by
  have : n.natAbs.log2 < 200 := log_of (by omega) (by decide)
  rw [div_int, decide_eq_true h, decide_eq_true (show n.natAbs.log2 < 9000 by omega)]; rfl
theorem pow_int {m n : Int} : dPow (.int m) (.int n) = grd (decide (0 ≤ n) && decide (n ≤ 1000000) && decide (m.natAbs < 2 ^ 64)) (.ok (.int (m ^ n.toNat))) := rfl
theorem mul_int {m n : Int} : dMul (.int m) (.int n) = grd (decide (m.natAbs.log2 + n.natAbs.log2 < 1000000) || decide (m.natAbs < 2 ^ 64) || decide (n.natAbs < 2 ^ 64)) (.ok (.int (m * n))) := rfl
theorem pow_ok {m n : Int} (h0 : 0 ≤ n) (h1 : n ≤ 1000000) (h2 : -9223372036854775808 ≤ m) (h3 : m ≤ 9223372036854775807) : dPow (.int m) (.int n) = .ok (.int (m ^ n.toNat)) := by
  rw [pow_int, decide_eq_true h0, decide_eq_true h1, decide_eq_true (show m.natAbs < 2 ^ 64 by omega)]; rfl
theorem mul_small {m n : Int} (h : -(2 ^ 250) ≤ m) (h' : m ≤ 2 ^ 250) (h2 : -(2 ^ 250) ≤ n) (h3 : n ≤ 2 ^ 250) : dMul (.int m) (.int n) = .ok (.int (m * n)) := by
  have h1 : m.natAbs.log2 < 251 := log_of (by omega) (by decide)
  have h2 : n.natAbs.log2 < 251 := log_of (by omega) (by decide)
  rw [mul_int, decide_eq_true (show m.natAbs.log2 + n.natAbs.log2 < 1000000 by omega)]; rfl
theorem mul_r {m n : Int} (h : -(2 ^ 60) ≤ n) (h' : n ≤ 2 ^ 60) : dMul (.int m) (.int n) = .ok (.int (m * n)) := by
  rw [mul_int, decide_eq_true (show n.natAbs < 2 ^ 64 by omega), Bool.or_true]; rfl
theorem mul_l {m n : Int} (h : -(2 ^ 60) ≤ m) (h' : m ≤ 2 ^ 60) : dMul (.int m) (.int n) = .ok (.int (m * n)) := by
  rw [mul_int, decide_eq_true (show m.natAbs < 2 ^ 64 by omega), Bool.or_true, Bool.true_or]; rfl
theorem rep_lst {n : Int} : dMul (.lst ds) (.int n) = grd (decide (-(2 ^ 63) ≤ n) && decide (n < 2 ^ 63) && small (ds.length * n.toNat)) (.ok (.lst (List.replicate n.toNat ds).flatten)) := rfl
theorem neg_int {n : Int} : dNeg (.int n) = .ok (.int (-n)) := rfl
theorem eq_int {neg : Bool} {m n : Int} : dEq neg (.int m) (.int n) = .ok (.bl (xorB neg (decide (m = n)))) := rfl
theorem eq_str {neg : Bool} {m n : Str} : dEq neg (.str m) (.str n) = .ok (.bl (xorB neg (decide (m = n)))) := rfl
theorem eq_bl {neg : Bool} {m n : Bool} : dEq neg (.bl m) (.bl n) = .ok (.bl (xorB neg (decide (m = n)))) := rfl
theorem eq_non_int {neg : Bool} {n : Int} : dEq neg .non (.int n) = .ok (.bl (xorB neg false)) := rfl
theorem eq_int_non {neg : Bool} {n : Int} : dEq neg (.int n) .non = .ok (.bl (xorB neg false)) := rfl
theorem lt_int {m n : Int} : dLt (.int m) (.int n) = .ok (.bl (decide (m < n))) := rfl
theorem le_int {m n : Int} : dLe (.int m) (.int n) = .ok (.bl (decide (m ≤ n))) := rfl
theorem gt_int {m n : Int} : dGt (.int m) (.int n) = .ok (.bl (decide (n < m))) := rfl
theorem ge_int {m n : Int} : dGe (.int m) (.int n) = .ok (.bl (decide (n ≤ m))) := rfl
theorem isN_ap {neg : Bool} : dIsN neg d .non = .ok (.bl (xorB neg (isN d))) := rfl
theorem isN_non : isN .non = true := rfl
theorem isN_int {n : Int} : isN (.int n) = false := rfl
theorem isN_str {n : Str} : isN (.str n) = false := rfl
theorem is_bl {neg m n : Bool} : dIsN neg (.bl m) (.bl n) = .ok (.bl (xorB neg (decide (m = n)))) := rfl
def rdLK (x : Option D) : R D := match x with | some d => .ok d | none => .bad
theorem ap_rdL {i : Nat} : rdL ds i ρ = rdLK ds[i]? := rfl
theorem rdL_ok : rdLK (some d) = .ok d := rfl
def rdFK (x : Option D) : R D := match x with | some d => grd (flatB d) (.ok d) | none => .bad
theorem ap_rdF {i : Nat} : rdF ds i ρ = rdFK ds[i]? := rfl
theorem rdF_int {n : Int} : rdFK (some (.int n)) = .ok (.int n) := rfl
theorem isN_bl {n : Bool} : isN (.bl n) = false := rfl
theorem isN_lst : isN (.lst ds) = false := rfl
theorem isN_tup : isN (.tup ds) = false := rfl
theorem asB_bl : asB (.bl b) = .ok b := rfl
theorem asI_int {n : Int} : asI (.int n) = .ok (some n) := rfl
theorem mkLst_ap : mkLst ds = grd (small ds.length) (.ok (.lst ds)) := rfl
theorem mkTup_ap : mkTup ds = grd (small ds.length) (.ok (.tup ds)) := rfl
theorem len_lst : dLen [.lst ds] = .ok (.int ds.length) := rfl
theorem len_tup : dLen [.tup ds] = .ok (.int ds.length) := rfl
theorem len_scr {ns : List Int} : dLen [.scr ns] = .ok (.int ns.length) := rfl
theorem len_str {z : Str} : dLen [.str z] = grd (small z.length) (.ok (.int z.length)) := rfl
theorem len_dK {l : List (Key × D)} : dLen [.dK l] = .ok (.int l.length) := rfl
theorem list_lst : dList [.lst ds] = .ok (.lst ds) := rfl
theorem list_tup : dList [.tup ds] = .ok (.lst ds) := rfl
theorem list_scr {ns : List Int} : dList [.scr ns] = .ok (.lst (ns.map .int)) := rfl
theorem tuple_lst : dTuple [.lst ds] = .ok (.tup ds) := rfl
theorem flatO_int {n : Int} : flatO (.int n) = .ok (.int n) := rfl
theorem flatO_bl {n : Bool} : flatO (.bl n) = .ok (.bl n) := rfl
theorem flatO_str {n : Str} : flatO (.str n) = .ok (.str n) := rfl
theorem flatO_non : flatO .non = .ok .non := rfl
theorem flatO_tup : flatO (.tup ds) = .ok (.tup ds) := rfl
theorem eNot_bl : eNot (.bl b) = .ok (.bl (!b)) := rfl
theorem isi_int {T : String} {n : Int} : isiD T (.int n) = .ok (.bl (isB T (.int n))) := rfl
theorem isi_bl {T : String} {n : Bool} : isiD T (.bl n) = .ok (.bl (isB T (.bl n))) := rfl
theorem isi_str {T : String} {n : Str} : isiD T (.str n) = .ok (.bl (isB T (.str n))) := rfl
theorem isi_non {T : String} : isiD T .non = .ok (.bl (isB T .non)) := rfl
theorem isi_lst {T : String} : isiD T (.lst ds) = .ok (.bl (isB T (.lst ds))) := rfl
theorem isi_tup {T : String} : isiD T (.tup ds) = .ok (.bl (isB T (.tup ds))) := rfl
theorem isB_int_int {n : Int} : isB "int" (.int n) = true := rfl
theorem isB_int_bl {n : Bool} : isB "int" (.bl n) = true := rfl
theorem isB_int_str {n : Str} : isB "int" (.str n) = false := rfl
theorem isB_int_non : isB "int" .non = false := rfl
theorem isB_int_lst : isB "int" (.lst ds) = false := rfl
theorem isB_int_tup : isB "int" (.tup ds) = false := rfl
theorem isB_bool_int {n : Int} : isB "bool" (.int n) = false := rfl
theorem isB_bool_bl {n : Bool} : isB "bool" (.bl n) = true := rfl
theorem isB_bool_str {n : Str} : isB "bool" (.str n) = false := rfl
theorem isB_bool_non : isB "bool" .non = false := rfl
theorem isB_bool_lst : isB "bool" (.lst ds) = false := rfl
theorem isB_bool_tup : isB "bool" (.tup ds) = false := rfl
theorem isB_list_lst : isB "list" (.lst ds) = true := rfl
theorem isB_list_int {n : Int} : isB "list" (.int n) = false := rfl
theorem isB_list_tup : isB "list" (.tup ds) = false := rfl
theorem isB_tuple_tup : isB "tuple" (.tup ds) = true := rfl
theorem isB_tuple_lst : isB "tuple" (.lst ds) = false := rfl
theorem isB_str_str {n : Str} : isB "str" (.str n) = true := rfl
theorem isB_str_int {n : Int} : isB "str" (.int n) = false := rfl
theorem ix_l0 : dIxA (.lst (d :: ds)) (.int 0) = .ok d := ixA_lst (by omega) rfl
theorem ix_t0 : dIxA (.tup (d :: ds)) (.int 0) = .ok d := ixA_tup (by omega) rfl
theorem atI_s {α : Type} {x : α} {xs : List α} {n : Int} (h : 0 < n) : L2.atI (x :: xs) n = L2.atI xs (n - 1) := by
  obtain ⟨k, rfl⟩ : ∃ k : Nat, n = (k : Int) + 1 := ⟨(n - 1).toNat, by omega⟩
  have e : (k : Int) + 1 - 1 = k := by omega
  have e0 : (0 : Int) ≤ (k : Int) + 1 := by omega
  have e1 : (0 : Int) ≤ (k : Int) := by omega
  unfold L2.atI L2.ixN
  rw [e, List.length_cons, if_pos e0, if_pos e1]
  by_cases hk : k < xs.length
  · have c1 : (k : Int) + 1 < ((xs.length + 1 : Nat) : Int) := by omega
    have c2 : (k : Int) < (xs.length : Int) := by omega
    rw [if_pos c1, if_pos c2]
    simp only [Option.bind_some]
    rw [show ((k : Int) + 1).toNat = k + 1 by omega, show ((k : Int)).toNat = k by omega]
    rfl
  · have c1 : ¬ (k : Int) + 1 < ((xs.length + 1 : Nat) : Int) := by omega
    have c2 : ¬ (k : Int) < (xs.length : Int) := by omega
    rw [if_neg c1, if_neg c2]
    rfl
theorem ix_ls {n : Int} (h : 0 < n) : dIxA (.lst (d :: ds)) (.int n) = dIxA (.lst ds) (.int (n - 1)) := by
  show (match L2.atI (d :: ds) n with | some d => R.ok d | none => R.bad) = (match L2.atI ds (n - 1) with | some d => R.ok d | none => R.bad)
  rw [atI_s h]
theorem ix_ts {n : Int} (h : 0 < n) : dIxA (.tup (d :: ds)) (.int n) = dIxA (.tup ds) (.int (n - 1)) := by
  show (match L2.atI (d :: ds) n with | some d => R.ok d | none => R.bad) = (match L2.atI ds (n - 1) with | some d => R.ok d | none => R.bad)
  rw [atI_s h]
theorem max_int {m n : Int} : dMax [.int m, .int n] = .ok (.int (if n > m then n else m)) := rfl
theorem min_int {m n : Int} : dMin [.int m, .int n] = .ok (.int (if n < m then n else m)) := rfl
theorem sum_ints (ns : List Int) : dSum [.lst (ns.map .int)] = .ok (.int ns.sum) := by
  show (match asInts (ns.map D.int) with | some ns => R.ok (D.int ns.sum) | none => R.bad) = _
  rw [asInts_map]
theorem sort_ints (ns : List Int) : dSorted [.lst (ns.map .int)] = .ok (.lst ((srt ns).map .int)) := by
  show (match asInts (ns.map D.int) with | some ns => R.ok (D.lst ((srt ns).map .int)) | none => match asStrs (ns.map D.int) with | some ss => grd (decide (ss.length < 64)) (R.ok (D.lst ((srtT ss).map .str))) | none => R.bad) = _
  rw [asInts_map]
theorem itEnum_lst : itEnum [.lst ds] = .ok (enumD ds) := rfl
theorem itZip_lst : itZip [.lst ds, .lst es] = .ok (zipD ds es) := rfl
theorem itRev_lst : itRev [.lst ds] = .ok ds.reverse := rfl
def idxK (x y : R D) : R D := bd x fun d => match d with | .lst ds => bd y fun e => dIndex (.lst ds) e | _ => .bad
theorem rev_lst : dRevS (.lst ds) = .ok (.lst ds.reverse) := rfl
theorem maxDef_ints {ns : List Int} {m : Int} : dMaxDef (.lst (ns.map D.int)) (.int m) = .ok (.int (maxI ns m)) := by
  show (match asInts (ns.map D.int) with | some ns => R.ok (D.int (maxI ns m)) | none => .bad) = _
  rw [asInts_map]
def cntK (x y : R D) : R D := bd x fun d => match d with | .lst ds => bd y fun e => dCount (.lst ds) e | _ => .bad
theorem ap_cnt : cnt f g ρ = cntK (f ρ) (g ρ) := rfl
theorem cnt_ok : cntK (.ok (.lst ds)) (.ok e) = dCount (.lst ds) e := rfl
theorem ap_idx : idx f g ρ = idxK (f ρ) (g ρ) := rfl
theorem idx_ok : idxK (.ok (.lst ds)) (.ok d) = dIndex (.lst ds) d := rfl
theorem inSeq_flat {neg : Bool} (h : isFlat d = true) (h' : ds.all isFlat = true) : dIn neg d (.lst ds) = .ok (.bl (xorB neg (ds.any fun y => eqF y d))) := by
  show inSeq neg d ds = _
  unfold inSeq
  rw [h, h']
  rfl
theorem all_flat_ints (ns : List Int) : (ns.map D.int).all isFlat = true := by
  rw [List.all_eq_true]
  intro d hd
  obtain ⟨n, _, rfl⟩ := List.mem_map.mp hd
  rfl
theorem in_ints {neg : Bool} {n : Int} (ns : List Int) : dIn neg (.int n) (.lst (ns.map .int)) = .ok (.bl (xorB neg (decide (n ∈ ns)))) := by
  rw [inSeq_flat rfl (all_flat_ints ns)]
  congr 3
  rw [Bool.eq_iff_iff, List.any_map, List.any_eq_true, decide_eq_true_eq]
  constructor
  · rintro ⟨x, hx, e⟩
    have e : (x == n) = true := e
    rw [beq_iff_eq] at e
    exact e ▸ hx
  · intro h
    exact ⟨n, h, by show (n == n) = true; exact beq_self_eq_true n⟩
theorem ap_tst : tst f ρ = bd (f ρ) asB := rfl
theorem ap_bnot : bNot ft ρ = bd (ft ρ) fun c => .ok (!c) := rfl
def andK (x : R Bool) (g : En → R Bool) (ρ : En) : R Bool := bd x fun c => if c = true then g ρ else .ok false
def orK (x : R Bool) (g : En → R Bool) (ρ : En) : R Bool := bd x fun c => if c = true then .ok true else g ρ
theorem ap_band : bAnd ft gt ρ = andK (ft ρ) gt ρ := rfl
theorem ap_bor : bOr ft gt ρ = orK (ft ρ) gt ρ := rfl
theorem and_t : andK (.ok true) gt ρ = gt ρ := rfl
theorem and_f : andK (.ok false) gt ρ = .ok false := rfl
theorem or_t : orK (.ok true) gt ρ = .ok true := rfl
theorem or_f : orK (.ok false) gt ρ = gt ρ := rfl
def eAndK (x : R D) (g : En → R D) (ρ : En) : R D := bd x fun c => match c with | .bl true => g ρ | .bl false => .ok (.bl false) | _ => .bad
def eOrK (x : R D) (g : En → R D) (ρ : En) : R D := bd x fun c => match c with | .bl true => .ok (.bl true) | .bl false => g ρ | _ => .bad
theorem ap_eand : eAnd f g ρ = eAndK (f ρ) g ρ := rfl
theorem ap_eor : eOr f g ρ = eOrK (f ρ) g ρ := rfl
theorem eand_t : eAndK (.ok (.bl true)) g ρ = g ρ := rfl
theorem eand_f : eAndK (.ok (.bl false)) g ρ = .ok (.bl false) := rfl
theorem eor_t : eOrK (.ok (.bl true)) g ρ = .ok (.bl true) := rfl
theorem eor_f : eOrK (.ok (.bl false)) g ρ = g ρ := rfl
def eIfK (x : R Bool) (f g : En → R D) (ρ : En) : R D := bd x fun c => if c = true then f ρ else g ρ
theorem ap_eif : eIf ft f g ρ = eIfK (ft ρ) f g ρ := rfl
theorem eif_t : eIfK (.ok true) f g ρ = f ρ := rfl
theorem eif_f : eIfK (.ok false) f g ρ = g ρ := rfl
def chnK (x : R D) (y : D) (w' : D → D → R D) (k : En → R D) (ρ : En) : R D := bd x fun z => match z with | .bl true => bd (k ρ) fun u => w' y u | .bl false => .ok (.bl false) | _ => .bad
def chn0 (x y : R D) (w w' : D → D → R D) (k : En → R D) (ρ : En) : R D := bd x fun d => bd y fun e => chnK (w d e) e w' k ρ
theorem ap_chain {w w' : D → D → R D} : eChain w w' f g k ρ = chn0 (f ρ) (g ρ) w w' k ρ := by
  unfold eChain chn0
  rfl
theorem chn0_ok {w w' : D → D → R D} : chn0 (.ok d) (.ok e) w w' k ρ = chnK (w d e) e w' k ρ := rfl
theorem chn_t {w' : D → D → R D} : chnK (.ok (.bl true)) e w' k ρ = bd (k ρ) fun u => w' e u := rfl
theorem chn_f {w' : D → D → R D} : chnK (.ok (.bl false)) e w' k ρ = .ok (.bl false) := rfl
def slcK (x : R D) (l h : R (Option Int)) : R D := bd x fun d => bd l fun l => bd h fun h => dCut d l h
theorem ap_slc {l h : En → R (Option Int)} : slc f l h ρ = slcK (f ρ) (l ρ) (h ρ) := rfl
theorem slc_ok {l h : Option Int} : slcK (.ok d) (.ok l) (.ok h) = dCut d l h := rfl
theorem ap_pnone : pNone ρ = .ok none := rfl
theorem ap_psome : pSome f ρ = bd (f ρ) asI := rfl
theorem cut_lst {l h : Option Int} : dCut (.lst ds) l h = .ok (.lst (cutD ds l h)) := rfl
theorem cut_str {z : Str} {l h : Option Int} : dCut (.str z) l h = grd (small z.length) (.ok (.str (cutS z l h))) := rfl
theorem cut_scr {ns : List Int} {l h : Option Int} : dCut (.scr ns) l h = .ok (.lst ((cutD ns l h).map .int)) := rfl
def loopK (x : R (List D)) (g : D → En → Option En) (gb : En → R Fl) (ρ : En) : R Fl := bd x fun ds => loopD g gb ds ρ
theorem ap_for {fi : En → R (List D)} {gg : D → En → Option En} {gb : En → R Fl} : sFor fi gg gb ρ = loopK (fi ρ) gg gb ρ := rfl
theorem loop_ok {gg : D → En → Option En} {gb : En → R Fl} : loopK (.ok ds) gg gb ρ = loopD gg gb ds ρ := rfl
def lp2 (x : R Fl) (g : D → En → Option En) (gb : En → R Fl) (ds : List D) : R Fl := bd x fun r => match r with
  | .next ρ' => loopD g gb ds ρ'
  | .cont ρ' => loopD g gb ds ρ'
  | .brk ρ' => .ok (.next ρ')
  | .ret o d => .ok (.ret o d)
def lp1 (x : Option En) (g : D → En → Option En) (gb : En → R Fl) (ds : List D) : R Fl := match x with
  | none => .bad
  | some ρ1 => lp2 (gb ρ1) g gb ds
theorem ap_loop0 {gg : D → En → Option En} {gb : En → R Fl} : loopD gg gb [] ρ = .ok (.next ρ) := rfl
theorem ap_loop1 {gg : D → En → Option En} {gb : En → R Fl} : loopD gg gb (d :: ds) ρ = lp1 (gg d ρ) gg gb ds := rfl
theorem lp1_ok {gg : D → En → Option En} {gb : En → R Fl} : lp1 (some ρ) gg gb ds = lp2 (gb ρ) gg gb ds := rfl
theorem lp2_next {gg : D → En → Option En} {gb : En → R Fl} : lp2 (.ok (.next ρ)) gg gb ds = loopD gg gb ds ρ := rfl
theorem lp2_cont {gg : D → En → Option En} {gb : En → R Fl} : lp2 (.ok (.cont ρ)) gg gb ds = loopD gg gb ds ρ := rfl
theorem lp2_brk {gg : D → En → Option En} {gb : En → R Fl} : lp2 (.ok (.brk ρ)) gg gb ds = .ok (.next ρ) := rfl
theorem lp2_ret {gg : D → En → Option En} {gb : En → R Fl} : lp2 (.ok (.ret o d)) gg gb ds = .ok (.ret o d) := rfl
theorem ap_itr : itr f ρ = bd (f ρ) itD := rfl
theorem ap_irg {w : List D → R (List D)} : irg fs w ρ = bd (fs ρ) w := rfl
theorem itD_lst : itD (.lst ds) = .ok ds := rfl
theorem itD_tup : itD (.tup ds) = .ok ds := rfl
theorem itD_scr {ns : List Int} : itD (.scr ns) = .ok (ns.map .int) := rfl
theorem itD_str {z : Str} : itD (.str z) = .ok (signs z) := rfl
theorem rng1_ap {n : Int} : rng1 [.int n] = grd (DL.inR n) (.ok ((List.range n.toNat).map fun (i : Nat) => D.int (0 + (i : Int)))) := rfl
theorem rng2_ap {m n : Int} : rng2 [.int m, .int n] = grd (DL.inR m && DL.inR n) (.ok ((List.range (n - m).toNat).map fun (i : Nat) => D.int (m + (i : Int)))) := rfl
def lcK (x : R (List D)) (own : List Nat) (g : D → En → Option En) (t : En → R Bool) (f : En → R D) (ρ : En) : R D := bd x fun ds => grd (decide (ds.length < sizeLine)) (bd (lcGo g t f (wipeR ρ own) ds) fun zs => .ok (.lst zs))
theorem ap_lc {own : List Nat} {fi : En → R (List D)} {gg : D → En → Option En} : lcD own fi gg ft f ρ = lcK (fi ρ) own gg ft f ρ := rfl
theorem lc_is {own : List Nat} {gg : D → En → Option En} {zs : List D} (hl : ds.length ≤ 1000000) (h : lcGo gg ft f (wipeR ρ own) ds = .ok zs) : lcK (.ok ds) own gg ft f ρ = .ok (.lst zs) := by
  unfold lcK
  rw [bd_ok, lt_size hl, grd_t, h]
  rfl
theorem wipe_nil : wipeR ρ [] = ρ := rfl
theorem wipe_cons {is : List Nat} : wipeR ρ (i :: is) = (wipeR ρ is).set i none := rfl
theorem lcS_t {gg : D → En → Option En} {ρ1 : En} {z : D} (hg : gg d ρ = some ρ1) (ht : ft ρ1 = .ok true) (hf : f ρ1 = .ok z) : lcStep gg ft f ρ d = .ok (some z) := by
  unfold lcStep
  rw [hg]
  dsimp only
  rw [ht]
  dsimp only
  rw [hf]
theorem lcS_f {gg : D → En → Option En} {ρ1 : En} (hg : gg d ρ = some ρ1) (ht : ft ρ1 = .ok false) : lcStep gg ft f ρ d = .ok none := by
  unfold lcStep
  rw [hg]
  dsimp only
  rw [ht]
def appK (x : Option Slot) (y : R D) (i : Nat) (ρ : En) : R Fl := match x with
  | some (some (true, .lst ds)) => bd y fun z => grd (decide (ds.length < sizeLine)) (.ok (.next (ρ.set i (some (true, .lst (ds ++ [z]))))))
  | _ => .bad
theorem ap_app : sAppend i f ρ = appK ρ[i]? (f ρ) i ρ := rfl
theorem app_ok (h : ds.length ≤ 1000000) : appK (some (some (true, .lst ds))) (.ok d) i ρ = .ok (.next (ρ.set i (some (true, .lst (ds ++ [d]))))) := by
  show bd (.ok d) (fun z => grd (decide (ds.length < sizeLine)) (R.ok (Fl.next (ρ.set i (some (true, .lst (ds ++ [z]))))))) = _
  rw [bd_ok, lt_size h]
  rfl
def extK (x : Option Slot) (y : R D) (i : Nat) (ρ : En) : R Fl := match x with
  | some (some (true, .lst ds)) => bd y fun z => match z with | .lst es => grd (small (ds.length + es.length)) (.ok (.next (ρ.set i (some (true, .lst (ds ++ es)))))) | _ => .bad
  | _ => .bad
theorem ap_ext : sExtend i f ρ = extK ρ[i]? (f ρ) i ρ := rfl
def own0K (x : Option Slot) (w : List D → List D) (i : Nat) (ρ : En) : R Fl := match x with
  | some (some (true, .lst ds)) => .ok (.next (ρ.set i (some (true, .lst (w ds)))))
  | _ => .bad
theorem ap_own0 {w : List D → List D} : sOwn0 i w ρ = own0K ρ[i]? w i ρ := rfl
theorem own0_ok {w : List D → List D} : own0K (some (some (true, .lst ds))) w i ρ = .ok (.next (ρ.set i (some (true, .lst (w ds))))) := rfl
def putK' (x : Option Slot) (y z : R D) (i : Nat) (ρ : En) : R Fl := match x with
  | some (some (true, d)) => bd y fun v => bd z fun q => bd (putA d q v) fun d' => .ok (.next (ρ.set i (some (true, d'))))
  | _ => .bad
theorem ap_put : sPut i f g ρ = putK' ρ[i]? (f ρ) (g ρ) i ρ := rfl
def put2K (x : R D) (i : Nat) (ρ : En) : R Fl := bd x fun d' => .ok (.next (ρ.set i (some (true, d'))))
theorem put_ok {z : D} : putK' (some (some (true, z))) (.ok d) (.ok e) i ρ = put2K (putA z e d) i ρ := rfl
theorem put2_ok : put2K (.ok d) i ρ = .ok (.next (ρ.set i (some (true, d)))) := rfl
theorem itZipL_lst : itZipL [.lst ds, .lst es] = .ok (zipD ds es) := rfl
def insK (x : Option Slot) (y z : R D) (i : Nat) (ρ : En) : R Fl := match x with
  | some (some (true, .lst ds)) => bd y fun q => bd z fun z => match q with
    | .int j => grd (decide (ds.length < sizeLine) && decide (0 ≤ j) && decide (j < 2 ^ 63)) (.ok (.next (ρ.set i (some (true, .lst (ds.take j.toNat ++ [z] ++ ds.drop j.toNat))))))
    | _ => .bad
  | _ => .bad
theorem ap_ins : sInsert i g f ρ = insK ρ[i]? (g ρ) (f ρ) i ρ := rfl
theorem intB_bl {b : Bool} : dIntB [.bl b] = .ok (.int (if b then 1 else 0)) := rfl
theorem intB_int {n : Int} : dIntB [.int n] = .ok (.int n) := rfl
theorem ap_nrmS {is : List Nat} : sNrm is s ρ = s (nrm ρ is) := rfl
theorem nrm_nil : nrm ρ [] = ρ := rfl
def nrmK (x : Option Slot) (i : Nat) (is : List Nat) (ρ : En) : En := match x with
  | some (some (true, .rows rs)) => nrm (ρ.set i (some (true, .lst rs))) is
  | some (some (false, .rows rs)) => nrm (ρ.set i (some (false, .lst rs))) is
  | _ => nrm ρ is
theorem nrm_cons {is : List Nat} : nrm ρ (i :: is) = nrmK ρ[i]? i is ρ := rfl
theorem nrm_rows {is : List Nat} : nrmK (some (some (b, .rows ds))) i is ρ = nrm (ρ.set i (some (b, .lst ds))) is := by cases b <;> rfl
theorem nrm_lst {is : List Nat} : nrmK (some (some (b, .lst ds))) i is ρ = nrm ρ is := by cases b <;> rfl
theorem isC_rows : isC (.rows ds) = true := rfl
theorem len_rows : dLen [.rows ds] = .ok (.int ds.length) := rfl
theorem unR_rows : unR (.rows ds) = .ok (.lst ds) := rfl
theorem unR_lst : unR (.lst ds) = .ok (.lst ds) := rfl
theorem isi_rows : isiD "list" (.rows ds) = .ok (.bl true) := rfl
theorem eq_rows {neg : Bool} : dEq neg (.rows ds) (.lst es) = dEq neg (.lst ds) (.lst es) := by
  show deepEq neg _ _ = deepEq neg _ _
  unfold deepEq
  rw [show py (.rows ds) = py (.lst ds) by unfold py; rfl]
def rowMK (x : Option Slot) (y z : R D) (w : List D → D → R (List D)) (i : Nat) (ρ : En) : R Fl := match x with
  | some (some (true, .rows rs)) => bd y fun q => match q with
    | .int j => match rowAt rs j with
      | some (m, xs) => bd z fun z => bd (w xs z) fun xs' => .ok (.next (ρ.set i (some (true, .rows (rs.set m (.lst xs'))))))
      | none => .bad
    | _ => .bad
  | _ => .bad
def rowM2 (x : Option (Nat × List D)) (rs : List D) (z : R D) (w : List D → D → R (List D)) (i : Nat) (ρ : En) : R Fl := match x with
  | some (m, xs) => bd z fun z => bd (w xs z) fun xs' => .ok (.next (ρ.set i (some (true, .rows (rs.set m (.lst xs'))))))
  | none => .bad
def rowM3 (x : R (List D)) (m : Nat) (rs : List D) (i : Nat) (ρ : En) : R Fl := bd x fun xs' => .ok (.next (ρ.set i (some (true, .rows (rs.set m (.lst xs'))))))
theorem ap_rowM {w : List D → D → R (List D)} : sRowM i g f w ρ = rowMK ρ[i]? (g ρ) (f ρ) w i ρ := rfl
theorem rowM_ok {w : List D → D → R (List D)} {j : Int} {z : R D} : rowMK (some (some (true, .rows ds))) (.ok (.int j)) z w i ρ = rowM2 (rowAt ds j) ds z w i ρ := rfl
theorem rowM2_ok {w : List D → D → R (List D)} {m : Nat} {xs rs : List D} : rowM2 (some (m, xs)) rs (.ok d) w i ρ = rowM3 (w xs d) m rs i ρ := rfl
theorem rowM3_ok {m : Nat} {xs rs : List D} : rowM3 (.ok xs) m rs i ρ = .ok (.next (ρ.set i (some (true, .rows (rs.set m (.lst xs)))))) := rfl
def row0K (x : Option Slot) (y : R D) (w : List D → List D) (i : Nat) (ρ : En) : R Fl := match x with
  | some (some (true, .rows rs)) => bd y fun q => match q with
    | .int j => match rowAt rs j with
      | some (m, xs) => .ok (.next (ρ.set i (some (true, .rows (rs.set m (.lst (w xs)))))))
      | none => .bad
    | _ => .bad
  | _ => .bad
def row02 (x : Option (Nat × List D)) (rs : List D) (w : List D → List D) (i : Nat) (ρ : En) : R Fl := match x with
  | some (m, xs) => .ok (.next (ρ.set i (some (true, .rows (rs.set m (.lst (w xs)))))))
  | none => .bad
theorem ap_row0 {w : List D → List D} : sRow0 i g w ρ = row0K ρ[i]? (g ρ) w i ρ := rfl
theorem row0_ok {w : List D → List D} {j : Int} : row0K (some (some (true, .rows ds))) (.ok (.int j)) w i ρ = row02 (rowAt ds j) ds w i ρ := rfl
theorem row02_ok {w : List D → List D} {m : Nat} {xs rs : List D} : row02 (some (m, xs)) rs w i ρ = .ok (.next (ρ.set i (some (true, .rows (rs.set m (.lst (w xs))))))) := rfl
def rowsAppK (x : Option Slot) (y : R D) (i : Nat) (ρ : En) : R Fl := match x with
  | some (some (true, .rows rs)) => bd y fun z => match z with
    | .lst xs => grd (decide (rs.length < sizeLine)) (.ok (.next (ρ.set i (some (true, .rows (rs ++ [.lst xs]))))))
    | _ => .bad
  | _ => .bad
theorem ap_rowsApp : sRowsApp i f ρ = rowsAppK ρ[i]? (f ρ) i ρ := rfl
def rowPutK (x : Option Slot) (y z : R D) (i : Nat) (ρ : En) : R Fl := match x with
  | some (some (true, .rows rs)) => bd y fun z' => bd z fun q => match z', q with
    | .lst xs, .int j => match L2.ixN rs.length j with
      | some m => .ok (.next (ρ.set i (some (true, .rows (rs.set m (.lst xs))))))
      | none => .bad
    | _, _ => .bad
  | _ => .bad
theorem ap_rowPut : sRowPut i f g ρ = rowPutK ρ[i]? (f ρ) (g ρ) i ρ := rfl
def rowPut2 (x : Option Nat) (rs xs : List D) (i : Nat) (ρ : En) : R Fl := match x with
  | some m => .ok (.next (ρ.set i (some (true, .rows (rs.set m (.lst xs))))))
  | none => .bad
theorem rowPut_ok {xs : List D} {j : Int} : rowPutK (some (some (true, .rows ds))) (.ok (.lst xs)) (.ok (.int j)) i ρ = rowPut2 (L2.ixN ds.length j) ds xs i ρ := rfl
theorem rowPut2_ok {rs xs : List D} {m : Nat} : rowPut2 (some m) rs xs i ρ = .ok (.next (ρ.set i (some (true, .rows (rs.set m (.lst xs)))))) := rfl
theorem ixN_of {n : Nat} {j : Int} (h0 : 0 ≤ j) (h : j < n) : L2.ixN n j = some j.toNat := by
  unfold L2.ixN
  rw [if_pos h0, if_pos (by omega)]
def consLK (x : R D) (y : R (List D)) : R (List D) := bd x fun d => match d with
  | .lst xs => bd y fun ds => .ok (.lst xs :: ds)
  | _ => .bad
theorem ap_consL : aConsL f fs ρ = consLK (f ρ) (fs ρ) := rfl
theorem consL_ok {xs : List D} : consLK (.ok (.lst xs)) (.ok ds) = .ok (.lst xs :: ds) := rfl
theorem mkRows_ap : mkRows ds = grd (small ds.length) (.ok (.rows ds)) := rfl
def lcRK (x : R (List D)) (own : List Nat) (g : D → En → Option En) (t : En → R Bool) (f : En → R D) (ρ : En) : R D := bd x fun ds => grd (decide (ds.length < sizeLine)) (bd (lcGoR g t f (wipeR ρ own) ds) fun zs => .ok (.rows zs))
theorem ap_lcR {own : List Nat} {fi : En → R (List D)} {gg : D → En → Option En} : lcR own fi gg ft f ρ = lcRK (fi ρ) own gg ft f ρ := rfl
theorem callE_of {den : Den} (h : den ds = .ok (o, d)) : callE den ds = .ok d := by unfold callE; rw [h]; rfl
theorem callO_of {den : Den} (h : den ds = .ok (o, d)) (hc : (o || !isC d) = true) : callO den ds = .ok d := by unfold callO; rw [h]; show grd (o || !isC d) (R.ok d) = _; rw [hc]; rfl
theorem callO_flat {den : Den} (h : den ds = .ok (o, d)) (hc : isC d = false) : callO den ds = .ok d := callO_of h (by rw [hc]; cases o <;> rfl)
theorem ap_bodyV {n N : Nat} {gg : List D → En → R Fl} (h : ds.length = n) : bodyV n N gg ds = endD (noE (gg ds (List.replicate (n + (N - n)) none))) := by unfold bodyV; rw [if_pos h]
theorem ap_body {n N : Nat} {gg : En → R Fl} (h : ds.length = n) : bodyN n N gg ds = endD (noE (gg (args N ds))) := by unfold bodyN; rw [if_pos h]
theorem end_ret : endD (noE (.ok (.ret o d))) = .ok (o, d) := rfl
theorem end_next : endD (noE (.ok (.next ρ))) = .ok (false, .non) := rfl
theorem args_ap {N : Nat} : args N ds = ds.map (fun d => some (false, d)) ++ List.replicate (N - ds.length) none := rfl
end
def get2K (x y z : R D) : R D := bd x fun d => grd (isDD d) (bd y fun q => bd z fun e => dGet2 d q e)
theorem ap_get2 {k : En → R D} : get2 f g k ρ = get2K (f ρ) (g ρ) (k ρ) := rfl
theorem get2_ok {q z : D} {kds : List (Key × D)} : get2K (.ok (.dK kds)) (.ok q) (.ok z) = dGet2 (.dK kds) q z := rfl
end DL
namespace DL
open PySem PySem.Spec PyProof.Rows L2
section
variable {X : Cx} {C : Cd} {e a b c tg : Expr} {es : List Expr} {f g k : En → R D} {fs : En → R (List D)} {pos p p2 q apos cpos : Pos} {K : Kx} {F H : Hp} {kk : Nat}
def dJoin (z : Str) : D → R D
  | .lst ds => match asStrs ds with
    | some ys => grd (decide ((ys.map fun y : Str => y.length).sum + ys.length * z.length ≤ 16777216)) (.ok (.str (Str.join z ys)))
    | none => .bad
  | _ => .bad
def jop (f g : En → R D) : En → R D := fun ρ => bd (f ρ) fun d => match d with
  | .str z => bd (g ρ) (dJoin z)
  | _ => .bad
end
theorem join_strs {z : Str} {ys : List Str} (h : (ys.map fun y : Str => y.length).sum + ys.length * z.length ≤ 16777216) : dJoin z (.lst (ys.map .str)) = .ok (.str (Str.join z ys)) := by
  show (match asStrs (ys.map D.str) with | some ys => grd (decide ((ys.map fun y : Str => y.length).sum + ys.length * z.length ≤ 16777216)) (R.ok (D.str (Str.join z ys))) | none => .bad) = _
  rw [asStrs_map]
  show grd (decide _) _ = _
  rw [decide_eq_true h]; rfl
theorem rng3_ap {i j c : Int} : rng3 [.int i, .int j, .int c] = grd (DL.inR i && DL.inR j && decide (0 < c) && decide (c < 1000000)) (.ok ((List.range ((j - i + c - 1) / c).toNat).map fun k : Nat => D.int (i + (k : Int) * c))) := rfl
theorem rng3_ok {i j c : Int} (h1 : -1000000000000 ≤ i) (h2 : i ≤ 1000000000000) (h3 : -1000000000000 ≤ j) (h4 : j ≤ 1000000000000) (h5 : 0 < c) (h6 : c < 1000000) : rng3 [.int i, .int j, .int c] = .ok ((List.range ((j - i + c - 1) / c).toNat).map fun k : Nat => D.int (i + (k : Int) * c)) := by
  rw [rng3_ap, inR_small h1 h2, inR_small h3 h4, decide_eq_true h5, decide_eq_true h6]; rfl
section
variable {X : Cx} {C : Cd} {e a b c tg : Expr} {es : List Expr} {f g k : En → R D} {fs : En → R (List D)} {pos p p2 q apos cpos : Pos} {K : Kx} {F H : Hp} {kk : Nat}
theorem iter_rangeC {B F : Hp} {lo c : Int} {n : Nat} : IterOk K (Itc lo c n) B F ((List.range n).map fun i => D.int (lo + (i : Nat) * c)) := fun i F2 H2 b f s => by
  refine ⟨fun hi => ?_, fun hi => ?_⟩
  · rw [List.length_map, List.length_range] at hi
    refine ⟨hi, fun x H3 y => ?_⟩
    obtain ⟨rfl, rfl⟩ := y
    refine ⟨F2, .int (lo + (i : Nat) * c), ?_, Ext.refl _ _, s, .int _⟩
    rw [List.getElem?_map, List.getElem?_range hi]
    rfl
  · rw [List.length_map, List.length_range] at hi
    exact Nat.le_of_eq hi.symm
theorem Views.three {K : Kx} {F H : Hp} {d e e' : D} {vs : List V} (w : Views K F H [d, e, e'] vs) : ∃ v u t, vs = [v, u, t] ∧ View K F H d v ∧ View K F H e u ∧ View K F H e' t := by
  cases w with
  | cons r t =>
    obtain ⟨u, z, rfl, q, q'⟩ := Views.two t
    exact ⟨_, u, z, rfl, r, q, q'⟩
theorem size_up {i j c : Int} (hc : 0 < c) : Builtin.Range.rangeSize i j c = ((((j - i + c - 1) / c).toNat : Nat) : Int) := by
  unfold Builtin.Range.rangeSize
  rw [if_pos hc]
  by_cases h : i < j
  · rw [if_pos h, show j - i + c - 1 = (j - i - 1) + c by omega, Int.add_ediv_of_dvd_right (Int.dvd_refl c), Int.ediv_self (by omega)]
    have := Int.ediv_nonneg (show 0 ≤ j - i - 1 by omega) (Int.le_of_lt hc)
    omega
  · rw [if_neg h]
    have : (j - i + c - 1) / c ≤ 0 := by
      have := Int.ediv_lt_of_lt_mul hc (show j - i + c - 1 < 1 * c by omega)
      omega
    omega
theorem size_le {i j c : Int} (hc : 0 < c) : ((((j - i + c - 1) / c).toNat : Nat) : Int) ≤ (j - i).toNat := by
  by_cases h : i < j
  · have : (j - i + c - 1) / c ≤ j - i := by
      have h1 : (j - i + c - 1) / c < j - i + 1 := Int.ediv_lt_of_lt_mul hc (by
        have := Int.mul_le_mul_of_nonneg_left (show (1 : Int) ≤ c by omega) (show 0 ≤ j - i by omega)
        rw [Int.add_mul, Int.one_mul]
        omega)
      omega
    omega
  · have : (j - i + c - 1) / c ≤ 0 := by
      have := Int.ediv_lt_of_lt_mul hc (show j - i + c - 1 < 1 * c by omega)
      omega
    omega
theorem rgC_up {i j c : Int} (h1 : -(2 ^ 62) ≤ i) (h2 : i < 2 ^ 62) (h3 : -(2 ^ 62) ≤ j) (h4 : j < 2 ^ 62) (h5 : 0 < c) (h6 : c < 1000000) : RgC i j c ((j - i + c - 1) / c).toNat := by
  refine ⟨by omega, by omega, ?_, size_up h5⟩
  unfold Builtin.Range.small
  rw [size_up h5]
  have := size_le (i := i) (j := j) h5
  simp only [Builtin.Range.rangeFitsLong, Bool.and_eq_true, Bool.or_eq_true, decide_eq_true_eq, beq_iff_eq, show c > 0 from h5, if_true]
  refine ⟨⟨⟨⟨⟨?_, ?_⟩, ?_, ?_⟩, ?_, ?_⟩, ?_, ?_⟩, ?_⟩ <;> omega
theorem i_range3 {fs : En → R (List D)} (hm : X.mg "range" = none) (ha : PA X [a, b, c] (tV C fs)) (hg : Gl X "range" := by rfl) (hs : starEach [a, b, c] X.env = (false, eval a X.env) :: starEach [b, c] X.env := by rfl) (hpl : (backTo pos (starEach [b, c] X.env)).any (·.1) = false := by rfl) :
    PI X tg (.Call (.Name "range" p) [a, b, c] [] pos) (tI C true (irg fs rng3)) := (pi_range3 hg hm ha hs hpl).mono fun σ H Q ⟨ρ, F, r, q⟩ => ⟨ρ, F, r, outV_of q fun ds vs F' H' o x s w => by
      unfold rng3 at o
      split at o
      · obtain ⟨z, o⟩ := grdI o
        rw [Bool.and_eq_true, Bool.and_eq_true, Bool.and_eq_true] at z
        obtain ⟨v, u, t, rfl, w1, w2, w3⟩ := Views.three w
        obtain rfl : v = V.int _ := w1
        obtain rfl : u = V.int _ := w2
        obtain rfl : t = V.int _ := w3
        obtain ⟨h1, h2⟩ := inR_of z.1.1.1
        obtain ⟨h3, h4⟩ := inR_of z.1.1.2
        exact ⟨_, _, _, _, rfl, rgC_up h1 h2 h3 h4 (of_decide_eq_true z.1.2) (of_decide_eq_true z.2), o _ F' H' (Ext.refl _ _) s iter_rangeC⟩
      · exact o.elim⟩
theorem d_join (hC : X.K = C.K.fr) (ha : PE X a (tR C f)) (hb : PE X b (tR C g)) (hs : starEach [b] X.env = [(false, eval b X.env)] := by rfl) (hbase : attributeBase a "join" X.env (eval a X.env) = eval a X.env := by rfl) (hline : (apos.endLine == pos.line) = true := by rfl) :
    PE X (.Call (.Attribute a "join" apos) [b] [] pos) (tO C (jop f g)) := (pe_join ha hb hs hbase hline).mono fun σ H Q ⟨ρ, F, rl, o⟩ => by
  unfold jop at o
  refine ⟨ρ, F, rl, o.fst fun d v F1 H1 _ o x1 s1 w1 => ?_⟩
  cases d with
  | str z =>
    obtain rfl : v = V.str _ := w1
    have o : Out C σ F H (fun F' H' => New C.K H F' H') (bd (g ρ) (dJoin z)) Q := o
    have o := Out.later o x1
    refine ⟨⟨z, rfl⟩, ρ, F1, rl.grow x1 s1, o.fst fun e y F2 H2 _ o x2 s2 w2 => ?_⟩
    have o := (Out.later o x2).newer (x1.h.trans x2.h)
    cases e with
    | lst ds =>
      obtain ⟨l, vs, rfl, h2, r2⟩ := w2
      have o' : Out C σ F2 H2 (fun F' H' => New C.K H2 F' H') (match asStrs ds with | some ys => grd (decide ((ys.map fun y : Str => y.length).sum + ys.length * z.length ≤ 16777216)) (.ok (.str (Str.join z ys))) | none => .bad) Q := o
      cases hy : asStrs ds with
      | none => rw [hy] at o'; exact o'.elim
      | some ys =>
        rw [hy] at o'
        obtain ⟨hz, o'⟩ := grd_out o'
        refine ⟨z, l, ys, rfl, rfl, .inl ?_, of_decide_eq_true hz, (TL.join_eq z ys).symm ▸ fin_flat o' s2 rfl⟩
        rw [hC, ← Reps.asStrs r2 hy]
        exact SqL.of h2
    | _ => exact False.elim o
  | _ => exact False.elim o
end
end DL
namespace DL
open PySem PySem.Spec PyProof.Rows L2
abbrev DenM := List D → R (D × List D)
section
variable {K : Kx} {F F' H H' H0 : Hp}
def minus (H : Hp) (S : List Addr) : Hp := fun b => if b ∈ S then none else H b
end
def ioDs (io : List Nat) (ds : List D) : List D := io.map fun i => (ds[i]?).getD .non
structure ArgsM (K : Kx) (F H : Hp) (n : Nat) (io : List Nat) (ds : List D) (vs : List V) : Prop where
  sub : Same F (minus H (feet H (ioAs io vs) (ioDs io ds)))
  len : ds.length = n
  at_ : ∀ i ∈ io, i < n ∧ vs[i]? = some (.ref (addrAt vs i))
  own : OwnAll K F H (fun _ => none) (ioAs io vs) (ioDs io ds)
  rest : ∀ i, i < n → i ∉ io → ∃ d v, ds[i]? = some d ∧ vs[i]? = some v ∧ View K F (minus H (feet H (ioAs io vs) (ioDs io ds))) d v
section
variable {X : Cx} {C : Cd} {e : Expr} {es : List Expr} {f : En → R D} {fs : En → R (List D)} {pos p : Pos} {kk n : Nat} {fa : Addr} {fd : FuncData} {ps : List Str} {x : Str} {cls : Str → Addr} {den : DenM} {CX : CXT} {E : XK} {ρ : En} {σ : L2.St} {F H : Hp} {io ios : List Nat} {ds : List D} {vs : List V}
inductive AK where
  | io (j : Nat) | own (j : Nat) | ln (j : Nat) | e | vw
  deriving DecidableEq
def ArgOk (C : Cd) (ρ : En) (σ : L2.St) (F : Hp) : AK → D → V → Prop
  | .io j, d, v => ρ[j]? = some (some (true, d)) ∧ σ[j]? = some (some v)
  | .own j, d, v => ∃ b, ρ[j]? = some (some (b, d)) ∧ σ[j]? = some (some v)
  | .ln j, d, v => C.ln j = some (d, v)
  | .e, d, v => Rep C.K F d v
  | .vw, d, v => View C.K C.F0 (jn C.H0 C.F0) d v
inductive ArgsOk (C : Cd) (ρ : En) (σ : L2.St) (F : Hp) : List AK → List D → List V → Prop
  | nil : ArgsOk C ρ σ F [] [] []
  | cons {k : AK} {d : D} {v : V} {ks : List AK} {ds : List D} {vs : List V} : ArgOk C ρ σ F k d v → ArgsOk C ρ σ F ks ds vs → ArgsOk C ρ σ F (k :: ks) (d :: ds) (v :: vs)
theorem ArgsOk.get : ∀ {ks : List AK} {ds : List D} {vs : List V} {i : Nat} {k : AK}, ArgsOk C ρ σ F ks ds vs → ks[i]? = some k → ∃ d v, ds[i]? = some d ∧ vs[i]? = some v ∧ ArgOk C ρ σ F k d v
  | _, _, _, _, _, .nil, h => by simp at h
  | _, _, _, 0, _, .cons r _, h => by cases h; exact ⟨_, _, rfl, rfl, r⟩
  | _, _, _, i + 1, _, .cons _ t, h => ArgsOk.get (i := i) t h
theorem ArgOk.mono {F' : Hp} {k : AK} {d : D} {v : V} (s : Same F F') (w : ArgOk C ρ σ F k d v) : ArgOk C ρ σ F' k d v := by
  cases k with
  | e => exact Rep.mono s w
  | _ => exact w
variable {c : En → R (D × En)}
end
end DL
namespace DL
open PySem PySem.Spec PyProof.Rows L2
section
variable {K : Kx} {A B A' B' F F' H H' : Hp}
structure Pass (A B : Hp) : Prop where
  l : ∀ a vs, A a = some (.lst vs) → B a = some (.lst vs)
  t : ∀ a vs, A a = some (.tup vs) → B a = some (.tup vs)
  rl : ∀ a vs, Rd A a (.lst vs) → Rd B a (.lst vs)
  k : ∀ a vs, Rd A a (.dK vs) → Rd B a (.dK vs)
  kt : ∀ a vs, Rd A a (.dT vs) → Rd B a (.dT vs)
  x : ∀ a φ, A a = some (.ext φ) → B a = some (.ext φ)
  i : ∀ a c dx fs, A a = some (.ins c dx fs) → B a = some (.ins c dx fs)
  w : ∀ a c, A a = some (.own c) → B a = some (.own c)
theorem Pass.seq (p : Pass A B) {a : Addr} {xs : List V} (h : SqL K A a xs) : SqL K B a xs := by
  rcases h with h | h
  · exact .inl (p.rl a xs h)
  · exact .inr h
mutual
theorem Rep.pass (p : Pass F F') : ∀ {d : D} {v : V}, Rep K F d v → Rep K F' d v
  | _, _, .non => .non
  | _, _, .bl b => .bl b
  | _, _, .int b => .int b
  | _, _, .str b => .str b
  | _, _, .lst s r => .lst (p.l _ _ s) (Reps.pass p r)
  | _, _, .scr s => .scr (p.seq s)
  | _, _, .tup s r => .tup (p.t _ _ s) (Reps.pass p r)
  | _, _, .dK s r => .dK (p.k _ _ s) (RepK.pass p r)
  | _, _, .dT s r => .dT (p.kt _ _ s) (RepT.pass p r)
  | _, _, .ref a => .ref a
  | _, _, .rows s r => .rows (p.l _ _ s) (Reps.pass p r)
  | _, _, .exn n s => .exn n (p.x _ _ s)
  | _, _, .deep d a => .deep d a
  | _, _, .obj h => .obj h
theorem Reps.pass (p : Pass F F') : ∀ {ds : List D} {vs : List V}, Reps K F ds vs → Reps K F' ds vs
  | _, _, .nil => .nil
  | _, _, .cons r t => .cons (Rep.pass p r) (Reps.pass p t)
theorem RepK.pass (p : Pass F F') : ∀ {ds : List (Key × D)} {vs : List (Key × V)}, RepK K F ds vs → RepK K F' ds vs
  | _, _, .nil => .nil
  | _, _, .cons r t => .cons (Rep.pass p r) (RepK.pass p t)
theorem RepT.pass (p : Pass F F') : ∀ {ds : List (List Key × D)} {vs : List (List Key × V)}, RepT K F ds vs → RepT K F' ds vs
  | _, _, .nil => .nil
  | _, _, .cons r t => .cons (Rep.pass p r) (RepT.pass p t)
end
theorem RowsAt.pass (pf : Pass F F') (ph : Pass H H') : ∀ {rs : List D} {vs : List V}, RowsAt K F H rs vs → RowsAt K F' H' rs vs
  | _, _, .nil => .nil
  | _, _, .cons q r t => .cons (ph.l _ _ q) (r.pass pf) (RowsAt.pass pf ph t)
theorem View.pass (pf : Pass F F') (ph : Pass H H') {d : D} {v : V} (r : View K F H d v) : View K F' H' d v := by
  cases d with
  | lst ds => obtain ⟨a, vs, e, q, r⟩ := r; exact ⟨a, vs, e, ph.l _ _ q, r.pass pf⟩
  | scr ns => obtain ⟨a, e, q⟩ := r; exact ⟨a, e, ph.seq q⟩
  | tup ds => obtain ⟨a, vs, e, q, r⟩ := r; exact ⟨a, vs, e, ph.t _ _ q, r.pass pf⟩
  | dK ds => obtain ⟨a, vs, e, q, r⟩ := r; exact ⟨a, vs, e, ph.k _ _ q, r.pass pf⟩
  | dT ds => obtain ⟨a, vs, e, q, r⟩ := r; exact ⟨a, vs, e, ph.kt _ _ q, r.pass pf⟩
  | rows ds =>
    obtain ⟨a, vs, e, q, r⟩ := r
    refine ⟨a, vs, e, ph.l _ _ q, ?_⟩
    rcases r with r | r
    · exact .inl (r.pass pf)
    · exact .inr (r.pass pf ph)
  | exn c => obtain ⟨a, C, e, n, q⟩ := r; exact ⟨a, C, e, n, ph.x _ _ q⟩
  | _ => exact r
mutual
theorem OwD.pass (pf : Pass F F') (ph : Pass H H') : ∀ {d : D} {v : V}, OwD K F H d v → OwD K F' H' d v
  | _, _, .set z r => .set z (r.pass pf)
  | _, _, .lst q t => .lst (ph.l _ _ q) (OwDs.pass pf ph t)
  | _, _, .tup z q t => .tup z (ph.t _ _ q) (OwDs.pass pf ph t)
  | _, _, .junk q l => .junk (ph.l _ _ q) l
theorem OwDs.pass (pf : Pass F F') (ph : Pass H H') : ∀ {ds : List D} {vs : List V}, OwDs K F H ds vs → OwDs K F' H' ds vs
  | _, _, .nil => .nil
  | _, _, .cons r t => .cons (OwD.pass pf ph r) (OwDs.pass pf ph t)
end
theorem Own.pass {a : Addr} {d : D} (pf : Pass F F') (ph : Pass H H') (e : H' a = H a) (o : Own K F H a d) : Own K F' H' a d := by
  cases d with
  | lst ds => obtain ⟨vs, q, r⟩ := o; exact ⟨vs, by rw [e]; exact q, r.pass pf⟩
  | dK ds => obtain ⟨vs, q, r⟩ := o; exact ⟨vs, by rw [e]; exact q, r.pass pf⟩
  | dT ds => obtain ⟨vs, q, r⟩ := o; exact ⟨vs, by rw [e]; exact q, r.pass pf⟩
  | rows ds => obtain ⟨vs, q, r⟩ := o; exact ⟨vs, by rw [e]; exact q, r.pass pf ph⟩
  | deep d => exact ⟨OwD.pass pf ph o.1, o.2⟩
  | _ => exact o.elim
def Lk (d : Addr) (x y : HO) (A B : Hp) : Prop := (∀ b, b ≠ d → B b = A b) ∧ ((A d = none ∧ B d = none) ∨ (A d = some x ∧ B d = some y))
theorem Lk.at {d : Addr} {x y : HO} (h : Lk d x y A B) (e : A d = some x) : B d = some y := by
  rcases h.2 with ⟨z, _⟩ | ⟨_, z⟩
  · rw [z] at e; cases e
  · exact z
theorem Lk.same {d : Addr} {x y : HO} (h1 : Lk d x y A B) (h2 : Lk d x y A' B') (s : Same A A') : Same B B' := fun b u e => by
  by_cases hb : b = d
  · subst hb
    rcases h1.2 with ⟨_, z⟩ | ⟨z, z'⟩
    · rw [z] at e; cases e
    · rw [z'] at e
      cases e
      exact h2.at (s _ _ z)
  · rw [h1.1 b hb] at e
    rw [h2.1 b hb]
    exact s _ _ e
def Cd.at (C : Cd) (F0 H0 : Hp) : Cd := ⟨C.K, F0, H0, C.XW, C.ln, C.io, C.wd⟩
theorem CellAt.pass {a : Addr} {c : Cell} (pf : Pass F F') (ph : Pass H H') (w : CellAt K F H a c) : CellAt K F' H' a c := by
  cases c with
  | ins c fs => obtain ⟨dx, vs, h1, h2, h3, h4⟩ := w; exact ⟨dx, vs, ph.i _ _ _ _ h1, ph.w _ _ h2, h3, h4.pass pf⟩
  | lst ds => obtain ⟨vs, h1, h2⟩ := w; exact ⟨vs, ph.l _ _ h1, h2.pass pf⟩
  | dK ds => obtain ⟨vs, h1, h2⟩ := w; exact ⟨vs, ph.k _ _ h1, h2.pass pf⟩
  | dT ds => obtain ⟨vs, h1, h2⟩ := w; exact ⟨vs, ph.kt _ _ h1, h2.pass pf⟩
theorem WV.pass {W : Wd} (pf : Pass F F') (ph : Pass H H') (w : WV K F H W) : WV K F' H' W := fun k c e => by
  obtain ⟨a, h1, h2⟩ := w k c e
  exact ⟨a, h1, h2.pass pf ph⟩
theorem Lk.ext {d : Addr} {x y : HO} {F0 H0 F1 H1 F0' H0' F1' H1' : Hp} (lF0 : Lk d x y F0 F0') (e : Ext F0 H0 F1 H1) (h0 : H0 d = some x) (lH0 : Lk d x y H0 H0') (lF : Lk d x y F1 F1') (lH : Lk d x y H1 H1') : Ext F0' H0' F1' H1' := by
  refine ⟨lF0.same lF e.f, lH0.same lH e.h, fun a u z => ?_⟩
  by_cases hb : a = d
  · subst hb
    rcases lF.2 with ⟨_, w⟩ | ⟨w, w'⟩
    · rw [w] at z; cases z
    · rw [w'] at z
      cases z
      rcases e.n _ _ w with q | q
      · exact .inl (lF0.at q)
      · rw [h0] at q; cases q
  · rw [lF.1 a hb] at z
    rcases e.n _ _ z with q | q
    · exact .inl (by rw [lF0.1 a hb]; exact q)
    · exact .inr (by rw [lH0.1 a hb]; exact q)
end
section
variable {X : Cx} {C : Cd} {e tg : Expr} {f : En → R D} {pos : Pos} {K : Kx}
end
end DL
namespace DL
open PySem PySem.Spec PyProof.Rows L2
inductive Mix (K : Kx) (F H : Hp) : List Bool → List D → List V → Prop
  | nil : Mix K F H [] [] []
  | r {d : D} {v : V} {ks : List Bool} {ds : List D} {vs : List V} : View K F H d v → Mix K F H ks ds vs → Mix K F H (false :: ks) (d :: ds) (v :: vs)
  | e {d : D} {v : V} {ks : List Bool} {ds : List D} {vs : List V} : Rep K F d v → Mix K F H ks ds vs → Mix K F H (true :: ks) (d :: ds) (v :: vs)
theorem Mix.get {K : Kx} {F H : Hp} : ∀ {ks : List Bool} {ds : List D} {vs : List V} {i : Nat}, Mix K F H ks ds vs → ks[i]? = some true → ∃ d v, ds[i]? = some d ∧ vs[i]? = some v ∧ Rep K F d v
  | _, _, _, _, .nil, h => by simp at h
  | _, _, _, 0, .r _ _, h => by simp at h
  | _, _, _, 0, .e w _, _ => ⟨_, _, rfl, rfl, w⟩
  | _, _, _, i + 1, .r _ t, h => Mix.get (i := i) t h
  | _, _, _, i + 1, .e _ t, h => Mix.get (i := i) t h
section
variable {X : Cx} {C : Cd} {e a : Expr} {es : List Expr} {f : En → R D} {fs : En → R (List D)} {pos p apos cpos : Pos} {kk n : Nat} {fa : Addr} {fd : FuncData} {ps : List Str} {x : Str} {cls : Str → Addr} {den : Den} {CX : CXT} {E : XK} {ev : List Nat} {ks : List Bool}
def OutX (C : Cd) (ks : List Bool) (σ : L2.St) (F H : Hp) (x : R (List D)) (Q : List V → Hp → Prop) : Prop := match x with
  | .ok d => ∀ v F' H', Ext F H F' H' → Same F' H' → Mix C.K F' H' ks d v → Q v H'
  | .err c => ∀ F' H', Ext F H F' H' → Same F' H' → C.XW c σ H'
  | .bad => False
theorem OutX.later {σ : L2.St} {F H F1 H1 : Hp} {x : R (List D)} {Q : List V → Hp → Prop} (o : OutX C ks σ F H x Q) (e : Ext F H F1 H1) : OutX C ks σ F1 H1 x Q := by
  cases x with
  | ok d => exact fun v F' H' x s w => o v F' H' (e.trans x) s w
  | err c => exact fun F' H' x s => o F' H' (e.trans x) s
  | bad => exact o
end
end DL
namespace DL
open PySem PySem.Spec PyProof.Rows L2
section
variable {X : Cx} {C : Cd} {a b : Expr} {f g : En → R D} {apos cpos : Pos} {kk : Nat}
end
section
variable {prog : Program} {w : World} {A : Around} {E : Value → Shared → Prop} {s : Shared}
end
section
variable {X : Cx} {C : Cd} {a b : Expr} {f g : En → R D} {pos p kpos : Pos} {K : Kx} {F H : Hp}
end
end DL
namespace DL
open PySem PySem.Spec PyProof.Rows L2
section
variable {X : Cx} {C : Cd} {a : Expr} {f : En → R D} {t : TE} {pos p p2 kpos : Pos} {K : Kx} {F H : Hp} {kk : Nat}
end
end DL
namespace DL
open PySem PySem.Spec PyProof.Rows L2
section
variable {X : Cx} {C : Cd} {e a b c tg : Expr} {f g k : En → R D} {pos p p1 apos cpos : Pos} {kk : Nat} {es : List Expr} {fs : En → R (List D)}
def ofL (l : List Nat) : Str := ⟨l.toArray⟩
def splitL (x y : Str) : List Str := (TL.spl (TL.tl y) 0 [] (TL.tl x)).map ofL
def dSplit (x : Str) : D → R D
  | .str y => grd (decide (0 < y.length) && y.cps.all (· < 256) && decide (x.length + 2 ≤ sizeLine)) (.ok (.lst ((splitL x y).map .str)))
  | _ => .bad
def txop (f g : En → R D) (w : Str → D → R D) : En → R D := fun ρ => bd (f ρ) fun d => match d with
  | .str z => bd (g ρ) (w z)
  | _ => .bad
theorem splitL_eq {x y : Str} (h1 : 0 < y.length) (h2 : y.cps.all (· < 256) = true) : Txt.split x y = splitL x y := by
  refine TL.map_tl_inj ?_
  have hy : TL.tl y ≠ [] := fun e => by rw [TL.len_tl, e] at h1; exact absurd h1 (Nat.lt_irrefl 0)
  rw [TL.split_spl x y hy (TL.kind_ok h2)]
  unfold splitL
  rw [List.map_map]
  have : (TL.tl ∘ ofL) = id := rfl
  rw [this, List.map_id]
theorem d_split (ha : PE X a (tR C f)) (hb : PE X b (tR C g)) (hs : starEach [b] X.env = [(false, eval b X.env)] := by rfl) (hbase : attributeBase a "split" X.env (eval a X.env) = eval a X.env := by rfl) (hline : (apos.endLine == pos.line) = true := by rfl) :
    PE X (.Call (.Attribute a "split" apos) [b] [] pos) (tO C (txop f g dSplit)) := (pe_split ha hb hs hbase hline).mono fun σ H Q ⟨ρ, F, rl, o⟩ => by
  unfold txop at o
  refine ⟨ρ, F, rl, o.fst fun d v F1 H1 _ o x1 s1 w1 => ?_⟩
  cases d with
  | str x =>
    obtain rfl : v = V.str _ := w1
    have o : Out C σ F H (fun F' H' => New C.K H F' H') (bd (g ρ) (dSplit x)) Q := o
    have o := Out.later o x1
    refine ⟨⟨x, rfl⟩, ρ, F1, rl.grow x1 s1, o.fst fun e y F2 H2 _ o x2 s2 w2 => ?_⟩
    have o := (Out.later o x2).newer (x1.h.trans x2.h)
    cases e with
    | str z =>
      obtain rfl : y = V.str _ := w2
      obtain ⟨hz, o⟩ := grd_out (c := decide (0 < z.length) && z.cps.all (· < 256) && decide (x.length + 2 ≤ sizeLine)) o
      rw [Bool.and_eq_true, Bool.and_eq_true] at hz
      have h1 := of_decide_eq_true hz.1.1
      refine ⟨x, z, rfl, rfl, ?_, of_decide_eq_true hz.2, fun q hq => ?_⟩
      · rw [beq_eq_false_iff_ne]; omega
      · rw [splitL_eq h1 hz.1.2]
        exact fin_lst o s2 (Same.refl _) (Reps.of_strs _) hq
    | _ => exact o.elim
  | _ => exact False.elim o
def isDig (l : List Nat) : Bool := !l.isEmpty && l.all fun c => decide (48 ≤ c) && decide (c ≤ 57)
def dIntT : List D → R D
  | [.str x] => grd (isDig (TL.tl x) && decide (x.length ≤ 640)) (.ok (.int ((NumText.digitsVal (TL.tl x) : Nat) : Int)))
  | ds => dIntB ds
theorem isDig_ok {l : List Nat} (h : isDig l = true) : l ≠ [] ∧ NumText.AllDigits l := by
  unfold isDig at h
  rw [Bool.and_eq_true, List.all_eq_true] at h
  refine ⟨fun e => by rw [e] at h; exact absurd h.1 Bool.false_ne_true, fun c hc => ?_⟩
  have := h.2 c hc
  rw [Bool.and_eq_true] at this
  exact ⟨of_decide_eq_true this.1, of_decide_eq_true this.2⟩
theorem intT_ok : OpL C (fun xs H Q => (∃ x n, xs = [.str x] ∧ intText? x = some n ∧ x.length ≤ 640 ∧ Q (.int n) H) ∨ ((∃ i, xs = [.int i] ∧ Q (.int i) H) ∨ ∃ k, xs = [.bl k] ∧ Q (.int (if k then 1 else 0)) H)) dIntT := by
  intro σ F H Q ds vs o s w
  unfold dIntT at o
  split at o
  · rename_i x
    obtain ⟨v, rfl, h⟩ := w.one
    cases h
    obtain ⟨hz, o⟩ := grd_out o
    rw [Bool.and_eq_true] at hz
    obtain ⟨h1, h2⟩ := isDig_ok hz.1
    have h3 := of_decide_eq_true hz.2
    exact .inl ⟨x, _, rfl, intText_digits h2 h1 (by omega), h3, fin_flat o s rfl⟩
  · exact .inr (intB_ok σ F H Q ds vs o s w)
theorem call_intT : CallR X (.type "int") (fun xs H Q => (∃ x n, xs = [.str x] ∧ intText? x = some n ∧ x.length ≤ 640 ∧ Q (.int n) H) ∨ ((∃ i, xs = [.int i] ∧ Q (.int i) H) ∨ ∃ k, xs = [.bl k] ∧ Q (.int (if k then 1 else 0)) H)) := CallR.or call_int_str call_int1
theorem d_intT (hm : X.mg "int" = none) (ha : PA X (e :: es) (tV C fs)) (hg : Gl X "int" := by rfl)
    (he : starEach (e :: es) X.env = (false, eval e X.env) :: starEach es X.env := by rfl) (hpl : (backTo pos (starEach es X.env)).any (·.1) = false := by rfl) : PE X (.Call (.Name "int" p) (e :: es) [] pos) (tO C (nop fs dIntT)) :=
  d_callTy call_intT intT_ok hm (by decide +kernel) ha hg (by decide) (by decide) he hpl
end
section
variable {f g : En → R D} {ρ : En} {x y : Str} {e : D} {w : Str → D → R D}
def txK (a b : R D) (w : Str → D → R D) : R D := bd a fun d => match d with
  | .str z => bd b (w z)
  | _ => .bad
theorem ap_txop : txop f g w ρ = txK (f ρ) (g ρ) w := rfl
theorem tx_ok : txK (.ok (.str x)) (.ok e) w = w x e := rfl
theorem ap_jopS : jop f g ρ = txK (f ρ) (g ρ) dJoin := rfl
theorem split_ok (h1 : 0 < y.length) (h2 : y.cps.all (· < 256) = true) (h3 : x.length ≤ 16000000) : dSplit x (.str y) = .ok (.lst ((splitL x y).map .str)) := by
  show grd (decide (0 < y.length) && y.cps.all (· < 256) && decide (x.length + 2 ≤ sizeLine)) _ = _
  rw [decide_eq_true h1, h2, decide_eq_true (show x.length + 2 ≤ sizeLine by rw [sizeLine_eq]; omega)]
  rfl
theorem ofL_tl (x : Str) : ofL (TL.tl x) = x := TL.ext_tl rfl
theorem split_join {s : Nat} {S : List Nat} (ey : TL.tl y = s :: S) {parts : List Str} (hne : parts ≠ []) (hp : ∀ p ∈ parts, s ∉ TL.tl p) : splitL (Str.join y parts) y = parts := by
  unfold splitL
  rw [TL.tl_join, ey, TL.spl_join (fun e => hne (List.map_eq_nil_iff.mp e)) fun p h => by
    obtain ⟨z, hz, rfl⟩ := List.mem_map.mp h
    exact hp z hz]
  rw [List.map_map]
  have : (ofL ∘ TL.tl) = id := funext ofL_tl
  rw [this, List.map_id]
theorem intT_str (h1 : isDig (TL.tl x) = true) (h2 : x.length ≤ 640) : dIntT [.str x] = .ok (.int ((NumText.digitsVal (TL.tl x) : Nat) : Int)) := by
  show grd (isDig (TL.tl x) && decide (x.length ≤ 640)) _ = _
  rw [h1, decide_eq_true h2]
  rfl
end
end DL
namespace DL
open PySem PySem.Spec PyProof.Rows L2
abbrev veB : List Value := [.type "ValueError", .type "Exception", .type "BaseException", .type "object"]
structure ExcT (K : PySem.W.Frag) (mg : Str → Option Value) (c : Str) : Prop where
  n : PySem.W.nsIn K mainGlobals c = some (some (.ref (clsOf K c)))
  g : mg c = some (.ref (clsOf K c))
  x : PySem.W.excIn K (clsOf K c) veB "ValueError.__new__" = true
  k : PySem.W.keepIn K (.ref (clsOf K c)) = true
  s : PySem.W.subIn K (.ref (clsOf K c)) (.type "BaseException") = some true
  t : PySem.W.typeIn K (.ref (clsOf K c)) = some (.type "type")
theorem clsOf_eq {K : PySem.W.Frag} {c : Str} {C : Addr} (h : PySem.W.nsIn K mainGlobals c = some (some (.ref C))) : clsOf K c = C := by unfold clsOf; rw [h]
theorem ExcT.of {K : PySem.W.Frag} {mg : Str → Option Value} {c : Str} {C : Addr} (n : PySem.W.nsIn K mainGlobals c = some (some (.ref C))) (g : mg c = some (.ref C)) (x : PySem.W.excIn K C veB "ValueError.__new__" = true) (k : PySem.W.keepIn K (.ref C) = true)
    (s : PySem.W.subIn K (.ref C) (.type "BaseException") = some true) (t : PySem.W.typeIn K (.ref C) = some (.type "type")) : ExcT K mg c := by
  have e := clsOf_eq n
  subst e
  exact ⟨n, g, x, k, s, t⟩
theorem passN {X : Cx} : Passes CX0 X (fun _ _ _ => True) := fun _ _ _ _ _ _ _ h => False.elim h
section
variable {X : Cx} {C : Cd} {W : WX} {e a b : Expr} {f g : En → R D} {fs : En → R (List D)} {es : List Expr} {pos p p1 p2 : Pos} {kk : Nat} {fa : Addr} {fd : FuncData} {ps : List Str} {x : Str} {cls : Str → Addr} {n : Nat} {den : Den}
def sRaise (c : Str) : En → R Fl := fun _ => .err c
theorem s_raise {c m : Str} {j : Nat} (hc : X.calm = true) (tk : Takes X W) (T : ExcT X.K X.mg c) (hW : ∀ σ H, C.XW c σ H → W (.ref (clsOf X.K c)) none σ H) (hg : Gl X c := by rfl) (hdb : (c == ("__debug__" : Str)) = false := by decide) :
    PS X (.Raise (some (.Call (.Name c p) [.Constant (.str m) j p2] [] p1)) none pos) (tS C (sRaise c)) :=
  (ps_raise hc tk (pmk_own F.excBase_ValueError T.x T.g T.k (raises_own T.s T.t) hg hdb)).mono fun D σ H ⟨ρ, F, r, q⟩ => hW σ H (q ρ σ F H r)
theorem callES_ok (hXW : ∀ c σ H, C.XW c σ H → W (.ref (cls c)) none σ H) (hn : ∀ ds, den ds ≠ .bad → ds.length = n) : ∀ σ H Q, tE C (fun ρ => bd (fs ρ) (callE den)) σ H Q → tCallS (spD C.K.fr cls n den) (WE W) (tA C fs) σ H Q := by
  rintro σ H Q ⟨ρ, F, r, q⟩
  refine out_args r q fun ds vs F' H' hd q x s rp => ?_
  unfold callE at q
  have hnb : den ds ≠ .bad := fun z => by rw [z] at q; exact q
  refine ⟨by rw [rp.length]; exact hn ds hnb, C.K.as, F', ds, s, rp, ?_⟩
  cases hden : den ds with
  | bad => exact hnb hden
  | err c => rw [hden] at q; exact fun F2 H2 x2 s2 => hXW c σ H2 (q F2 H2 x2 s2)
  | ok z =>
    rw [hden] at q
    obtain ⟨o, d⟩ := z
    intro v F2 H2 x2 s2 w
    cases o with
    | false => exact q v F2 H2 x2 s2 (by simpa using w)
    | true =>
      have w' : New C.K H' F2 H2 d v := by simpa using w
      obtain ⟨F3, x3, _, s3, w3⟩ := w'.rep s2 x2
      exact q v F3 H2 x3 s3 w3
theorem d_callEX (Fo : FnOk X.prog X.w X.K X.mg X.base (L2.CX X.prog X.w) kk fa fd ps (spD C.K.fr cls n den)) (hn : ∀ ds, den ds ≠ .bad → ds.length = n) (hr : Room kk X.A) (hm : X.mg x = some (.ref fa)) (hk : PySem.W.keepIn X.K (.ref fa) = true) (hb : Binds X.K fd ps []) (tk : Takes X W) (hXW : ∀ c σ H, C.XW c σ H → W (.ref (cls c)) none σ H)
    (ha : PA X (e :: es) (tA C fs)) (hg : Gl X x := by rfl) (hdb : (x == ("__debug__" : Str)) = false := by decide) (he : starEach (e :: es) X.env = (false, eval e X.env) :: starEach es X.env := by rfl) (hpl : (backTo pos (starEach es X.env)).any (·.1) = false := by rfl) :
    PE X (.Call (.Name x p) (e :: es) [] pos) (tE C (nop fs (callE den))) := (pe_callS Fo hr hg hm hk hb (passAt tk) ha hdb he hpl).mono (callES_ok hXW hn)
end
theorem ok_defX {P : Program} {w : World} {K : PySem.W.Frag} {mg : Str → Option Value} {base : Heap} {x qual : Str} {fs : Stmt} {fa : Addr} {fd : FuncData} {N ps : List Str} {k : Nat} {cls : Str → Addr} {g : En → R Fl} (Fn : Fun K x qual fs fa fd) (S : FnScope N ps (defScope fs))
    (hb : ∀ (cdv : Value) (A : Around) (outer : List Env) (s : Shared) (H : Hp) (E : XK) (F0 : Hp) (as : List Addr), Room k (A.deeper (envOfC qual (defScope fs) s.heap.objs.size fa cdv)) → Takes (cxOf (L2.CX P w) P w K mg base N qual (defScope fs) fa cdv A outer s H E) (fun c d _ H => E c d H) →
      PSs (cxOf (L2.CX P w) P w K mg base N qual (defScope fs) fa cdv A outer s H E) (defBody fs) (tS ⟨⟨K, as⟩, F0, H, fun c _ H' => E (.ref (cls c)) none H', fun _ => none, [], []⟩ g)) :
    FnOk P w K mg base (L2.CX P w) (k + 1) fa fd ps (spD K cls ps.length (bodyD ps.length N.length g)) := by
  refine Fn.okX S (fun vs H Q E h => h.1) (fun cdv A outer s H vs Q E hr h => ?_)
  obtain ⟨hl, as, F, ds, sf, r, q⟩ := h
  refine ⟨_, hb cdv A outer s H E F as hr (takes_of rfl rfl rfl rfl), args N.length ds, F, args_rel sf r, ?_⟩
  unfold bodyD at q
  rw [if_pos (by rw [← r.length]; exact hl)] at q
  cases hgg : g (args N.length ds) with
  | bad => rw [hgg] at q; exact q.elim
  | err c => rw [hgg] at q; exact fun ρ σ F' H' r' => q F' H' r'.ext r'.sub
  | ok fl =>
    rw [hgg] at q
    cases fl with
    | next ρ' => exact fun σ' F' H' s' r' => q .non F' H' r'.ext r'.sub .non
    | ret o d => exact fun v F' H' x s' w => q v F' H' x s' (RetV.of rfl w)
    | brk ρ' => exact q.elim
    | cont ρ' => exact q.elim
def Cd.wx (C : Cd) (W : WX) : Cd := { C with XW := fun c σ H => W (.ref (clsOf C.K c)) none σ H }
theorem Rel.wx {C : Cd} {W : WX} {ρ : En} {σ : L2.St} {F H : Hp} (r : Rel C ρ σ F H) : Rel (C.wx W) ρ σ F H := ⟨r.ext, r.sub, r.len, r.slot, r.ownF, r.apartF, r.lend, r.wok⟩
def catchD (tbl : List (Str × Nat)) (hs : List (En → R Fl)) (c : Str) (ρ : En) : R Fl := match tbl.lookup c with
  | some i => match hs[i]? with
    | some h => h ρ
    | none => .err c
  | none => .bad
def sTryE (f : En → R D) (k : D → En → R Fl) (tbl : List (Str × Nat)) (hs : List (En → R Fl)) : En → R Fl := fun ρ => match f ρ with
  | .ok d => k d ρ
  | .err c => catchD tbl hs c ρ
  | .bad => .bad
inductive HdsD (X : Cx) (C : Cd) : List ExceptHandler → List (Value × (Addr → Value → Option Addr → TS)) → List (En → R Fl) → Prop
  | nil : HdsD X C [] [] []
  | cons {x : Str} {c : Addr} {h : En → R Fl} {b₀ : Stmt} {suite : List Stmt} {np pos' : Pos} {hds : List ExceptHandler} {l : List (Value × (Addr → Value → Option Addr → TS))} {hs : List (En → R Fl)} (hc : Names X x (.ref c))
      (hsu : ∀ (a : Addr) (pn : List (Addr × Obj)), PSs (X.suite a pn) (b₀ :: suite) (tS C h)) (r : HdsD X C hds l hs) :
      HdsD X C (.ExceptHandler (some (.Name x np)) none (b₀ :: suite) pos' :: hds) ((.ref c, fun _ _ _ => tS C h) :: l) (h :: hs)
theorem HdsD.ok {X : Cx} {C : Cd} {hds : List ExceptHandler} {l : List (Value × (Addr → Value → Option Addr → TS))} {hs : List (En → R Fl)} (h : HdsD X C hds l hs) : HdsOk X hds l := by
  induction h with
  | nil => exact .nil
  | cons hc hsu _ ih => exact .cons hc (fun a oe cls d pn _ _ => hsu a ((a, oe) :: pn)) ih
def takenBy (K : PySem.W.Frag) (c : Str) : List (Value × (Addr → Value → Option Addr → TS)) → Nat → Prop
  | [], _ => True
  | (v, _) :: _, 0 => PySem.W.exmOne K (.ref (clsOf K c)) v = some true
  | (v, _) :: l, i + 1 => PySem.W.exmOne K (.ref (clsOf K c)) v = some false ∧ takenBy K c l i
theorem many_ok {X : Cx} {C : Cd} {Wout : WX} (hK : X.K = C.K.fr) (hout : ∀ c σ H, C.XW c σ H → Wout (.ref (clsOf C.K c)) none σ H) {hds : List ExceptHandler} {l : List (Value × (Addr → Value → Option Addr → TS))} {hs : List (En → R Fl)} (hd : HdsD X C hds l hs) :
    ∀ (i : Nat) {c : Str} {T : Ends} {σ : L2.St} {F H : Hp} {ρ : En}, Rel C ρ σ F H → takenBy C.K c l i → Post C T F (match hs[i]? with | some h => h ρ | none => .err c) → wMany X.K Wout T l (.ref (clsOf C.K c)) none σ H := by
  induction hd with
  | nil => exact fun i c T σ F H ρ r _ q => hout c σ H (q ρ σ F H r)
  | @cons x cc h b₀ suite np pos' hds l hs hc hsu _ ih =>
    intro i c T σ F H ρ r tb q
    rw [hK]
    cases i with
    | zero => exact ⟨true, tb, fun _ a _ => ⟨ρ, F, r, q⟩, fun z => by cases z⟩
    | succ i =>
      refine ⟨false, tb.1, (fun z => by cases z), fun _ => ?_⟩
      have := ih i r tb.2 q
      rw [hK] at this
      exact this
section
variable {X : Cx} {C : Cd} {e : Expr} {f : En → R D} {pos pos1 : Pos} {h₀ : ExceptHandler} {hds : List ExceptHandler} {l : List (Value × (Addr → Value → Option Addr → TS))} {hs : List (En → R Fl)} {tbl : List (Str × Nat)} {Wout : WX}
theorem try_out {W : WX} {T : Ends} {σ : L2.St} {F H : Hp} {ρ : En} {P : Hp → Hp → D → V → Prop} {k : D → En → R Fl} {Q : VK} (r : Rel C ρ σ F H) (q : Post C T F (sTryE f k tbl hs ρ))
    (hok : ∀ d v F' H', Post C T F' (k d ρ) → Ext F H F' H' → Same F' H' → Rel C ρ σ F' H' → P F' H' d v → Q v H')
    (herr : ∀ c i F' H', tbl.lookup c = some i → Rel C ρ σ F' H' → Post C T F' (match hs[i]? with | some h => h ρ | none => .err c) → W (.ref (clsOf C.K c)) none σ H') : Out (C.wx W) σ F H P (f ρ) Q := by
  unfold sTryE at q
  cases hf : f ρ with
  | bad => rw [hf] at q; exact q.elim
  | ok d => rw [hf] at q; exact fun v F' H' x s w => hok d v F' H' (Post.up q x.f) x s (r.grow x s) w
  | err c =>
    rw [hf] at q
    have q : Post C T F (catchD tbl hs c ρ) := q
    unfold catchD at q
    cases ht : tbl.lookup c with
    | none => rw [ht] at q; exact q.elim
    | some i =>
      rw [ht] at q
      exact fun F' H' x s => herr c i F' H' ht (r.grow x s) (Post.up q x.f)
theorem s_tryDrop (hst : X.stack = X.env :: X.outer) (hfr : X.env.frame = some X.env.locals) (tk : Takes X Wout) (hK : X.K = C.K.fr) (hout : ∀ c σ H, C.XW c σ H → Wout (.ref (clsOf C.K c)) none σ H)
    (he : ∀ (W : WX) (pn : List (Addr × Obj)) (xe : Value → Shared → Prop), Takes (X.tr pn xe) W → PE (X.tr pn xe) e (tR (C.wx W) f)) (hd : HdsD X C (h₀ :: hds) l hs) (htb : ∀ c i, tbl.lookup c = some i → takenBy C.K c l i)
    (hs1 : swapsWith e none pos1.line X.env = pure false := by rfl) : PS X (.Try [.Expr e pos1] (h₀ :: hds) [] [] pos) (tS C (sTryE f (fun _ ρ => .ok (.next ρ)) tbl hs)) :=
  (ps_try_many (tb := fun W T σ H => tR (C.wx W) f σ H fun _ H' => T.nx σ H') hst hfr tk (fun W pn xe tk' _ => pss_one ((ps_expr (he W pn xe tk') hs1).mono fun T σ H h => h)) hd.ok).mono fun T σ H ⟨ρ, F, r, q⟩ =>
    ⟨ρ, F, r.wx, try_out r q (fun d v F' H' q x s r' _ => q σ F' H' (Same.refl _) r') fun c i F' H' ht r' q' => many_ok hK hout hd i r' (htb c i ht) q'⟩
end
end DL
namespace DL
open PySem PySem.Spec PyProof.Rows L2
section
variable {X : Cx} {pins : List (Addr × Obj)} {σ : L2.St} {H : Hp} {s : Shared}
theorem Inv_track {a : Addr} {φ : Heap → Prop} (I : Inv X pins σ H s) (hn : H a = none) (h0 : X.s_0.heap.get? a = none) (nL : a ≠ X.env.locals) (nC : ∀ y c, X.env.cells.lookup y = some c → c ≠ a) (nP : ∀ q ∈ X.pn ++ pins, q.1 ≠ a)
    (new : ObjOk X.prog X.w (upd H a (.ext φ)) s.heap a (.ext φ)) : Inv X pins σ (upd H a (.ext φ)) s where
  ok := I.ok
  os := I.os
  bare := I.bare
  base := {
    keep := I.base.keep
    slot := I.base.slot
    free := fun b o e n hx => by
      rw [upd_ne (fun (z : b = a) => by rw [z, h0] at e; cases e)]
      exact I.base.free b o e n hx
    there := I.base.there
    tups := fun b xs e => by
      have q := I.base.tups b xs e
      rw [upd_ne (ne_of_none q hn)]; exact q
    frzs := fun b o u e => by
      have q := I.base.frzs b o u e
      rw [upd_ne (ne_of_none q hn)]; exact q
    tbls := fun b tb e => by
      obtain ⟨more, q⟩ := I.base.tbls b tb e
      exact ⟨more, by rw [upd_ne (ne_of_none q hn)]; exact q⟩ }
  loc := I.loc
  cell := I.cell
  free := by rw [upd_ne (Ne.symm nL)]; exact I.free
  freeC := fun y c e => by rw [upd_ne (nC y c e)]; exact I.freeC y c e
  pin := fun q hq => by
    obtain ⟨g1, g2, g3⟩ := I.pin q hq
    exact ⟨g1, by rw [upd_ne (nP q hq)]; exact g2, g3⟩
  hok := fun b u e => by
    by_cases hb : b = a
    · subst hb
      rw [upd_same] at e
      cases e
      exact new
    · rw [upd_ne hb] at e
      exact (I.hok b u e).stay (fun _ _ _ q => q) (fun c q => by rw [upd_ne (ne_of_none q hn)]; exact q) fun c xs q => by rw [upd_ne (ne_of_none q hn)]; exact q
  len := I.len
theorem Inv_into (I : Inv X pins σ H s) (a : Addr) : Inv (X.suite a (X.pn ++ pins)) [] σ H s :=
  ⟨I.ok.suite _ _, I.os, I.bare, I.base, I.loc, I.cell, I.free, I.freeC, fun q hq => I.pin q (by rw [List.append_nil] at hq; exact hq), I.hok, I.len⟩
theorem Inv_outof {a : Addr} {qs : List (Addr × Obj)} (I : Inv (X.suite a (X.pn ++ pins)) qs σ H s) (ok : X.Ok) : Inv X pins σ H s :=
  ⟨ok, I.os, I.bare, I.base, I.loc, I.cell, I.free, I.freeC, fun q hq => I.pin q (List.mem_append_left _ hq), I.hok, I.len⟩
end
def wKept (K : PySem.W.Frag) (c : Value) (i : Nat) (ts : Addr → Addr → TS) (Wout : WX) (D : Ends) : WX := fun cls d σ H =>
  ∃ b, PySem.W.exmOne K cls c = some b ∧ (b = true → ∃ C, cls = .ref C ∧ d = none ∧ ∀ a, H a = none → ts C a { nx := fun σ' H' => D.nx (σ'.set i none) H', rt := D.rt, bk := fun σ' H' => D.bk (σ'.set i none) H', ct := fun σ' H' => D.ct (σ'.set i none) H' } (σ.set i (some (.ref a))) (upd H a (exK C a))) ∧ (b = false → Wout cls d σ H)
section
variable {X : Cx} {x n : Str} {c : Value} {i : Nat} {body suite : List Stmt} {b₀ : Stmt} {np pos pos' : Pos} {tb : WX → TS} {ts : Addr → Addr → TS} {Wout : WX}
theorem ps_try_kept (hst : X.stack = X.env :: X.outer) (hfm : X.env.frame = some X.env.locals) (hN : X.N.Nodup) (hi : X.N[i]? = some n) (hlo : X.env.kindOf n = some .local) (hc : Names X x c) (hex : X.ex = []) (tk : Takes X Wout)
    (hb : ∀ (W : WX) (pn : List (Addr × Obj)) (xe : Value → Shared → Prop), Takes (X.tr pn xe) W → PassesOwn (model X.prog X.w) X.A X.env xe → PSs (X.tr pn xe) body (tb W))
    (hsu : ∀ (C a : Addr) (pn : List (Addr × Obj)), PSs (X.suite a pn) (b₀ :: suite) (ts C a)) :
    PS X (.Try body [.ExceptHandler (some (.Name x np)) (some n) (b₀ :: suite) pos'] [] [] pos) (fun D σ H => tb (wKept X.K c i ts Wout D) D σ H) := by
  refine ⟨fun pins s σ H D I hw => ?_⟩
  have okX := I.ok
  have frm : X.A.frames = some (X.env :: X.outer) := by rw [okX.frames, hst]
  refine wpAny_Try_except ?_
  refine wpAny_mono ((hb (wKept X.K c i ts Wout D) (X.pn ++ pins) (fun u t1 => wpAny (model X.prog X.w) X.A (noteFrame u X.env) (fun _ t2 => wpAny (model X.prog X.w) X.A (setFlight u none)
    (fun _ t3 => wpAny (model X.prog X.w) X.A (handleBy u X.env [.ExceptHandler (some (.Name x np)) (some n) (b₀ :: suite) pos']) (SP X pins D) X.xe t3) X.xe t2) X.xe t1) (fun u t fly => ?caught) PassesOwn.looking).run [] s σ H D (I.toTry _) hw) (fun fl t after => ?thru) (fun _ _ z => z)
  case thru =>
    cases fl with
    | next =>
      obtain ⟨σ1, H1, I1, q⟩ := after
      exact wpAny_execs_nil ⟨σ1, H1, I1.ofTry okX, q⟩
    | brk =>
      obtain ⟨σ1, H1, I1, q⟩ := after
      exact ⟨σ1, H1, I1.ofTry okX, q⟩
    | cont =>
      obtain ⟨σ1, H1, I1, q⟩ := after
      exact ⟨σ1, H1, I1.ofTry okX, q⟩
    | ret w =>
      obtain ⟨v, σ1, H1, I1, r, q⟩ := after
      exact ⟨v, σ1, H1, I1.ofTry okX, r, q⟩
  case caught =>
    obtain ⟨a, B, s1, pins1, σ1, H1, cls, dd, rfl, Ib, inB, upS, air, fresh, hos, hgens, b, hmatch, yes, no⟩ := fly
    have I1 : Inv X pins σ1 H1 s1 := Ib.ofTry okX
    have air' : Sky B (X.env :: X.outer) a (Zc cls dd) X.env.locals t.heap := by rw [← hst]; exact air
    have aB : B.get? a = none := by
      rcases air' with ⟨_, z, _⟩ | z | z
      · exact z
      · exact z.2.1
      · exact z.2.1
    show wpAny (model X.prog X.w) X.A (noteFrame (.ref a) X.env) _ _ _
    refine Sky.land Zc.steady frm hfm air' fun ha flyA upA => ?_
    have IA : Inv X pins σ1 H1 { t with heap := ha } := I1.landed inB flyA.1 (upS.trans upA) hos hgens
    have offFr : ∀ {h : Heap} {o : Obj} {vs : Array Value}, h.FunFrames B (X.env :: X.outer) → h.get? a = some o → o.data = .fields vs → a ∉ frs (X.env :: X.outer) := fun {h o vs} ff e e2 hm => by
      obtain ⟨_, o2, e3, no2⟩ := ff.mem hm
      rw [e] at e3
      cases e3
      exact no2 _ e2
    obtain ⟨oa, va, ea, za, da⟩ := flyA.there
    have aFr := offFr flyA.2.2.1 ea da
    have aL : a ≠ X.env.locals := fun z => aFr (List.mem_filterMap.mpr ⟨X.env, List.mem_cons_self, by rw [hfm, z]⟩)
    have aFs : a ∉ X.fs := fun hm => by
      obtain ⟨e, he, q⟩ := List.mem_filterMap.mp hm
      exact aFr (List.mem_filterMap.mpr ⟨e, List.mem_cons_of_mem _ he, q⟩)
    have a1 : s1.heap.get? a = none := by
      cases e : s1.heap.get? a with
      | none => rfl
      | some o =>
        have := inB a o e (by rw [hst]; exact aFr)
        rw [aB] at this
        cases this
    have a0 : X.s_0.heap.get? a = none := by
      cases e : X.s_0.heap.get? a with
      | none => rfl
      | some o =>
        obtain ⟨o2, e2⟩ := I1.base.there a o e (by rw [hex]; exact fun z => nomatch z)
        rw [a1] at e2
        cases e2
    have aC : ∀ y cc, X.env.cells.lookup y = some cc → cc ≠ a := fun y cc e z => by
      obtain ⟨_, o, e2, _⟩ := I1.cell y cc e
      rw [z, a1] at e2
      cases e2
    have aP : ∀ q ∈ X.pn ++ pins, q.1 ≠ a := fun q hq z => by
      have e2 := (I1.pin q hq).1
      rw [z, a1] at e2
      cases e2
    have SA := Inv_into IA a
    refine wpAny_handleBy_cons (codeAny_handlers_test ?_) (fun z => by cases z)
    have looksT : PySem.W.Looks (model X.prog X.w) ha (typeOf (.ref a)) cls := fun _ _ _ _ k q => wpAny_typeOf_ref (k _ _ ea) (by rw [za.1]; exact q)
    have looksM := PySem.W.exm_one (M := model X.prog X.w) IA.kIn looksT hmatch
    have named : ∀ {Q : Value → Shared → Prop} {E : Value → Shared → Prop}, Q c { t with heap := ha } → wpAny (model X.prog X.w) (X.A.mark (some (.ref a))) (eval (.Name x np) X.env) Q E { t with heap := ha } := fun {Q E} q => by
      obtain ⟨g1, g2, g3 | ⟨g3, g4, g5⟩⟩ := hc
      · exact ld_glob (X := X.suite a (X.pn ++ pins)) SA g1 g3 q g2
      · exact ld_blt (X := X.suite a (X.pn ++ pins)) SA g1 g3 g4 q g5 g2
    refine named (looksM.here ?_)
    cases b with
    | false =>
      show wpAny _ X.A (handleBy (.ref a) X.env []) _ _ _
      refine wpAny_handleBy_nil ?_
      obtain ⟨_, _, _, oe, vs, T, _, _, he, _, hd, h1, _⟩ := id flyA
      unfold PySem.passOn
      refine wpAny_bind (wpAny_field he hd h1 ?_)
      rw [if_neg (show ¬ ((Value.ref T == Value.none) = true) by simp)]
      have up2 : wpAny (model X.prog X.w) X.A (setFlight (.ref a) X.env.frame) (fun _ t4 => wpAny (model X.prog X.w) X.A (throw (.ref a) : Sem Flow) (SP X pins D) X.xe t4) X.xe { t with heap := ha } := by
        rw [hfm]
        exact HandSPX.setFlight_upZ flyA fun hb' held upB => wpAny_throw (tk _ _ ⟨a, B, s1, pins, σ1, H1, cls, dd, rfl, I1, inB, (upS.trans upA).trans upB, .inr (.inr (by rw [hst]; exact held)), fresh, hos, hgens, no rfl⟩)
      first
        | exact wpAny_bind (wpAny_pure (wpAny_bind up2))
        | exact wpAny_bind up2
    | true =>
      obtain ⟨C, rfl, rfl, yes2⟩ := yes rfl
      refine codeAny_handlers_suite_as (HandSPX.lands_againZ flyA fun hb' flyB upB => ?_)
      have IB : Inv X pins σ1 H1 { t with heap := hb' } := I1.landed inB flyB.1 ((upS.trans upA).trans upB) hos hgens
      obtain ⟨ob, vb, eb, zb, db⟩ := flyB.there
      have IT : Inv X pins σ1 (upd H1 a (exK C a)) { t with heap := hb' } := Inv_track IB fresh a0 aL aC aP ⟨⟨ob, eb, zb.1, zb.2, vb, db⟩, ⟨ob, eb⟩, fun _ _ ⟨o, e, r⟩ k => ⟨o, k o e, r⟩⟩
      refine store_ok (X := X.suite a (X.pn ++ pins)) (v := .ref a) (Inv_into IT a) hN hi (.inl hlo) rfl (fun t5 I5 => ?_) (.inr hlo)
      have out : ∀ {σ6 : L2.St} {H6 : Hp} {t6 : Shared} {Q : Shared → Prop}, Inv (X.suite a (X.pn ++ pins)) [] σ6 H6 t6 → (∀ t7, Inv X pins (σ6.set i none) H6 t7 → Q t7) → wpAny (model X.prog X.w) X.A (do bindName X.env n .none; unbindBehindTheSuite X.env n pos') (fun _ t7 => Q t7) X.xe t6 := fun I6 hq => gone_ok (Inv_outof I6 okX) hN hi hlo hq
      refine wpAny_mono ((hsu C a (X.pn ++ pins)).run [] t5 _ _ _ I5 (yes2 a fresh)) (fun fl t6 after => ?_) (fun _ _ z => False.elim z)
      cases fl with
      | next =>
        obtain ⟨σ6, H6, I6, q⟩ := after
        exact out I6 fun t7 I7 => ⟨_, _, I7, q⟩
      | brk =>
        obtain ⟨σ6, H6, I6, q⟩ := after
        exact out I6 fun t7 I7 => ⟨_, _, I7, q⟩
      | cont =>
        obtain ⟨σ6, H6, I6, q⟩ := after
        exact out I6 fun t7 I7 => ⟨_, _, I7, q⟩
      | ret w =>
        obtain ⟨v, σ6, H6, I6, r, q⟩ := after
        exact out I6 fun t7 I7 => ⟨_, _, _, I7, r, q⟩
end
def gone (i : Nat) : R Fl → R Fl
  | .ok (.next ρ) => .ok (.next (ρ.set i none))
  | .ok (.brk ρ) => .ok (.brk (ρ.set i none))
  | .ok (.cont ρ) => .ok (.cont (ρ.set i none))
  | r => r
def catchAs (i : Nat) (tbl : List (Str × Bool)) (h : En → R Fl) (c : Str) (ρ : En) : R Fl := match tbl.lookup c with
  | some true => gone i (h (ρ.set i (some (false, .exn c))))
  | some false => .err c
  | none => .bad
def sTryAs (i : Nat) (f : En → R D) (k : D → En → R Fl) (tbl : List (Str × Bool)) (h : En → R Fl) : En → R Fl := fun ρ => match f ρ with
  | .ok d => k d ρ
  | .err c => catchAs i tbl h c ρ
  | .bad => .bad
section
variable {X : Cx} {C : Cd} {e : Expr} {f : En → R D} {h : En → R Fl} {pos pos1 pos' np : Pos} {tbl : List (Str × Bool)} {Wout : WX} {i : Nat} {x n : Str} {dc : Addr} {b₀ : Stmt} {suite : List Stmt}
theorem Rel.caught {ρ : En} {σ : L2.St} {F H : Hp} {a : Addr} {c : Str} (r : Rel C ρ σ F H) (na : H a = none) (hn : PySem.W.nsIn C.K mainGlobals c = some (some (.ref (clsOf C.K c)))) (hl : C.ln i = none) :
    Rel C (ρ.set i (some (false, .exn c))) (σ.set i (some (.ref a))) (upd F a (exK (clsOf C.K c) a)) (upd H a (exK (clsOf C.K c) a)) := by
  have nf : F a = none := r.sub.free na
  have g : Ext F H (upd F a (exK (clsOf C.K c) a)) (upd H a (exK (clsOf C.K c) a)) := ⟨same_upd nf, same_upd na, fun b o e => by
    by_cases hb : b = a
    · rw [hb]; exact .inr na
    · rw [upd_ne hb] at e; exact .inl e⟩
  refine (r.grow g fun b o e => ?_).set (.exn hn upd_same) hl
  by_cases hb : b = a
  · rw [hb, upd_same] at e
    rw [hb, upd_same]; exact e
  · rw [upd_ne hb] at e
    rw [upd_ne hb]; exact r.sub b o e
theorem post_gone {T : Ends} {B : Hp} {z : R Fl} (hl : C.ln i = none) (q : Post C T B (gone i z)) : Post C { nx := fun σ' H' => T.nx (σ'.set i none) H', rt := T.rt, bk := fun σ' H' => T.bk (σ'.set i none) H', ct := fun σ' H' => T.ct (σ'.set i none) H' } B z := by
  cases z with
  | bad => exact q
  | err c => exact q
  | ok fl =>
    cases fl with
    | next ρ => exact fun σ F H s r => q _ F H s (r.forget i none hl)
    | brk ρ => exact fun σ F H s r => q _ F H s (r.forget i none hl)
    | cont ρ => exact fun σ F H s r => q _ F H s (r.forget i none hl)
    | ret o d => exact q
theorem tryAs_out {W : WX} {T : Ends} {σ : L2.St} {F H : Hp} {ρ : En} {P : Hp → Hp → D → V → Prop} {k : D → En → R Fl} {Q : VK} (r : Rel C ρ σ F H) (q : Post C T F (sTryAs i f k tbl h ρ))
    (hok : ∀ d v F' H', Post C T F' (k d ρ) → Ext F H F' H' → Same F' H' → Rel C ρ σ F' H' → P F' H' d v → Q v H')
    (herr : ∀ c F' H', Rel C ρ σ F' H' → Post C T F' (catchAs i tbl h c ρ) → W (.ref (clsOf C.K c)) none σ H') : Out (C.wx W) σ F H P (f ρ) Q := by
  unfold sTryAs at q
  cases hf : f ρ with
  | bad => rw [hf] at q; exact q.elim
  | ok d => rw [hf] at q; exact fun v F' H' x s w => hok d v F' H' (Post.up q x.f) x s (r.grow x s) w
  | err c => rw [hf] at q; exact fun F' H' x s => herr c F' H' (r.grow x s) (Post.up q x.f)
theorem kept_ok (hK : X.K = C.K.fr) (hout : ∀ c σ H, C.XW c σ H → Wout (.ref (clsOf C.K c)) none σ H) (htb : ∀ c b, tbl.lookup c = some b → PySem.W.nsIn C.K mainGlobals c = some (some (.ref (clsOf C.K c))) ∧ PySem.W.exmOne C.K (.ref (clsOf C.K c)) (.ref dc) = some b) (hl : C.ln i = none)
    {c : Str} {T : Ends} {σ : L2.St} {F H : Hp} {ρ : En} (r : Rel C ρ σ F H) (q : Post C T F (catchAs i tbl h c ρ)) : wKept X.K (.ref dc) i (fun _ _ => tS C h) Wout T (.ref (clsOf C.K c)) none σ H := by
  unfold catchAs at q
  cases ht : tbl.lookup c with
  | none => rw [ht] at q; exact q.elim
  | some b =>
    rw [ht] at q
    obtain ⟨h1, h2⟩ := htb c b ht
    rw [hK]
    refine ⟨b, h2, fun hb => ?_, fun hb => ?_⟩
    · subst hb
      refine ⟨_, rfl, rfl, fun a na => ⟨_, _, r.caught na h1 hl, post_gone hl (Post.up q (same_upd (r.sub.free na)))⟩⟩
    · subst hb
      exact hout c σ H (q ρ σ F H r)
theorem s_tryDropAs (hst : X.stack = X.env :: X.outer) (hfr : X.env.frame = some X.env.locals) (hex : X.ex = []) (hc : Names X x (.ref dc)) (tk : Takes X Wout) (hK : X.K = C.K.fr) (hout : ∀ c σ H, C.XW c σ H → Wout (.ref (clsOf C.K c)) none σ H)
    (he : ∀ (W : WX) (pn : List (Addr × Obj)) (xe : Value → Shared → Prop), Takes (X.tr pn xe) W → PE (X.tr pn xe) e (tR (C.wx W) f)) (hsu : ∀ (a : Addr) (pn : List (Addr × Obj)), PSs (X.suite a pn) (b₀ :: suite) (tS C h))
    (htb : ∀ c b, tbl.lookup c = some b → PySem.W.nsIn C.K mainGlobals c = some (some (.ref (clsOf C.K c))) ∧ PySem.W.exmOne C.K (.ref (clsOf C.K c)) (.ref dc) = some b) (hN : X.N.Nodup)
    (hi : X.N[i]? = some n := by rfl) (hlo : X.env.kindOf n = some .local := by rfl) (hs1 : swapsWith e none pos1.line X.env = pure false := by rfl) (hl : C.ln i = none := by rfl) :
    PS X (.Try [.Expr e pos1] [.ExceptHandler (some (.Name x np)) (some n) (b₀ :: suite) pos'] [] [] pos) (tS C (sTryAs i f (fun _ ρ => .ok (.next ρ)) tbl h)) :=
  (ps_try_kept (tb := fun W T σ H => tR (C.wx W) f σ H fun _ H' => T.nx σ H') (ts := fun _ _ => tS C h) hst hfr hN hi hlo hc hex tk (fun W pn xe tk' _ => pss_one ((ps_expr (he W pn xe tk') hs1).mono fun T σ H h => h)) (fun _ a pn => hsu a pn)).mono fun T σ H ⟨ρ, F, r, q⟩ =>
    ⟨ρ, F, r.wx, tryAs_out r q (fun d v F' H' q x s r' _ => q σ F' H' (Same.refl _) r') fun c F' H' r' q' => kept_ok hK hout htb hl r' q'⟩
end
def rIsK (K : PySem.W.Frag) : List V → Hp → VK → Prop := fun xs H Q => ∃ (c : V) (cv : Value) (b : Bool) (a C : Addr), xs = [.ref a, c] ∧ H a = some (exK C a) ∧ ExcC K C ∧ (∀ u, RelV c u → u = cv) ∧ PySem.W.kitOne K (.ref C) cv = some b ∧ Q (.bl b) H
theorem call_isK {X : Cx} : CallR X (.builtin "isinstance") (rIsK X.K) := by
  intro pins s σ H xs us Q I r hq
  obtain ⟨c, cv, b, a, C, rfl, ha, E, hcv, e, q⟩ := hq
  cases r with
  | cons r1 r2 =>
    cases r2 with
    | cons r3 r4 =>
      cases r4
      cases r1
      have z := hcv _ r3
      subst z
      obtain ⟨⟨oe, g1, g2, g3, vs, g4⟩, _⟩ := I.hok a _ ha
      have J : PySem.W.InstAt s.heap a oe C none := by
        obtain ⟨oc, od, oda, osl⟩ := oe
        dsimp only at g2 g3 g4
        subst g2 g3 g4
        exact ⟨g1, rfl, rfl, trivial⟩
      exact PySem.W.kia_one (PySem.W.handS_kitx_exc E.hg E.hk E.hs E.hd E.ha E.hn E.ht E.hm) I.kIn J e (fun z => nomatch z) fun tk => ⟨.bl b, H, I.kept (t' := tk) fun _ _ z => z, rfl, q⟩
def isED (tb : List (Str × Bool)) : D → R D
  | .exn c => match tb.lookup c with
    | some b => .ok (.bl b)
    | none => .bad
  | .non => .ok (.bl false)
  | _ => .bad
section
variable {X : Cx} {C : Cd} {a b : Expr} {f : En → R D} {pos p : Pos}
theorem d_isE {cV : V} {cv : Value} {tb : List (Str × Bool)} (hC : X.K = C.K.fr) (ha : PE X a (tR C f)) (hb : PE X b (tC cV)) (hcl : ClsV cV cv) (htb : ∀ c bb, tb.lookup c = some bb → ExcC C.K (clsOf C.K c) ∧ PySem.W.kitOne C.K (.ref (clsOf C.K c)) cv = some bb) (hnon : PySem.W.kitOne C.K (.type "NoneType") cv = some false) (hm : X.mg "isinstance" = none) (hg : Gl X "isinstance" := by rfl)
    (hs2 : starEach [b] X.env = (false, eval b X.env) :: starEach [] X.env := by rfl)
    (he : starEach [a, b] X.env = (false, eval a X.env) :: starEach [b] X.env := by rfl) (hpl : (backTo pos (starEach [b] X.env)).any (·.1) = false := by rfl) :
    PE X (.Call (.Name "isinstance" p) [a, b] [] pos) (tO C (uop f (isED tb))) :=
  (pe_callB (CallR.or call_isi call_isK) hg hm (by decide +kernel) (pa_cons ha (pa_cons hb pa_nil hs2) he) (by decide) (by decide) he hpl).mono (by
    rintro σ H Q ⟨ρ, F, rl, q⟩
    refine ⟨ρ, F, rl, q.fst fun d v F1 H1 _ q x1 s1 w1 => ?_⟩
    have q := Out.later q x1
    rw [hC]
    cases d with
    | non =>
      obtain rfl : v = V.non := w1
      exact .inl ⟨.non, cV, .type "NoneType", cv, false, rfl, hcl, .base .non, hnon, fin_flat q s1 rfl⟩
    | exn c =>
      obtain ⟨a, CC, rfl, hn, hH⟩ := w1
      have ec := clsOf_eq hn
      unfold isED at q
      cases ht : tb.lookup c with
      | none => simp only [ht] at q; exact q.elim
      | some bb =>
        simp only [ht] at q
        obtain ⟨t1, t2⟩ := htb c bb ht
        rw [ec] at t1 t2
        exact .inr ⟨cV, cv, bb, a, CC, rfl, hH, t1, fun u r => hcl.eq r, t2, fin_flat q s1 rfl⟩
    | _ => exact q.elim)
end
theorem lk_nil {β : Type} {P : Str → β → Prop} : ∀ c i, ([] : List (Str × β)).lookup c = some i → P c i := fun _ _ h => by cases h
theorem lk_cons {β : Type} {P : Str → β → Prop} {r : Str} {j : β} {t : List (Str × β)} (h : P r j) (ht : ∀ c i, t.lookup c = some i → P c i) : ∀ c i, ((r, j) :: t).lookup c = some i → P c i := fun c i e => by
  rw [List.lookup_cons] at e
  cases hc : (c == r) with
  | true =>
    rw [hc] at e
    cases e
    rw [beq_iff_eq.mp hc]; exact h
  | false => rw [hc] at e; exact ht c i e
theorem exm_at {K : PySem.W.Frag} {r x : Str} {a b : Addr} {t : Bool} (h1 : PySem.W.nsIn K mainGlobals r = some (some (.ref a))) (h2 : PySem.W.nsIn K mainGlobals x = some (some (.ref b))) (h : PySem.W.exmOne K (.ref a) (.ref b) = some t) : PySem.W.exmOne K (.ref (clsOf K r)) (.ref (clsOf K x)) = some t := by
  rw [clsOf_eq h1, clsOf_eq h2]; exact h
theorem kit_at {K : PySem.W.Frag} {r x : Str} {a b : Addr} {t : Bool} (h1 : PySem.W.nsIn K mainGlobals r = some (some (.ref a))) (h2 : PySem.W.nsIn K mainGlobals x = some (some (.ref b))) (h : PySem.W.kitOne K (.ref a) (.ref b) = some t) : PySem.W.kitOne K (.ref (clsOf K r)) (.ref (clsOf K x)) = some t := by
  rw [clsOf_eq h1, clsOf_eq h2]; exact h
theorem kitB_at {K : PySem.W.Frag} {r : Str} {a : Addr} {n : String} {t : Bool} (h1 : PySem.W.nsIn K mainGlobals r = some (some (.ref a))) (h : PySem.W.kitOne K (.ref a) (.type n) = some t) : PySem.W.kitOne K (.ref (clsOf K r)) (.type n) = some t := by
  rw [clsOf_eq h1]; exact h
theorem kitN_at {K : PySem.W.Frag} {x : Str} {b : Addr} {t : Bool} (h2 : PySem.W.nsIn K mainGlobals x = some (some (.ref b))) (h : PySem.W.kitOne K (.type "NoneType") (.ref b) = some t) : PySem.W.kitOne K (.type "NoneType") (.ref (clsOf K x)) = some t := by
  rw [clsOf_eq h2]; exact h
theorem excC_at {K : PySem.W.Frag} {r : Str} {D : Addr} (h1 : PySem.W.nsIn K mainGlobals r = some (some (.ref D)))
    (hg : PySem.W.findIn K (.ref D) "__getattribute__" = some (some (.builtin "BaseException.__getattribute__"))) (hk : PySem.W.findIn K (.ref D) "__getattr__" = some none) (hs : PySem.W.subIn K (.ref D) (.type "BaseException") = some true) (hd : PySem.W.hasDictIn K D = true)
    (ha : PySem.W.findIn K (.ref D) "__class__" = some (some (.builtin "object.__class__"))) (hn : PySem.W.specialIn K (.builtin "object.__class__") "__get__" = some (some (.builtin "getset_descriptor.__get__"))) (ht : PySem.W.takesIn K (.builtin "object.__class__") = some true) (hm : PySem.W.mroIn K D (.type "object") = some true) : ExcC K (clsOf K r) := by
  rw [clsOf_eq h1]; exact ⟨hg, hk, hs, hd, ha, hn, ht, hm⟩
theorem names_own {X : Cx} {x : Str} (E : ExcT X.K X.mg x) (hg : Gl X x := by rfl) (hd : (x == ("__debug__" : Str)) = false := by decide) : Names X x (.ref (clsOf X.K x)) := ⟨hg, hd, .inl E.g⟩
section
variable {ρ : En} {f : En → R D} {k : D → En → R Fl} {tbl : List (Str × Nat)} {tb : List (Str × Bool)} {hs : List (En → R Fl)} {h : En → R Fl} {i n N : Nat} {d : D} {ds : List D} {c : Str} {g : En → R Fl}
def tryK (x : R D) (k : D → En → R Fl) (tbl : List (Str × Nat)) (hs : List (En → R Fl)) (ρ : En) : R Fl := match x with
  | .ok d => k d ρ
  | .err c => catchD tbl hs c ρ
  | .bad => .bad
theorem ap_try : sTryE f k tbl hs ρ = tryK (f ρ) k tbl hs ρ := rfl
theorem try_ok : tryK (.ok d) k tbl hs ρ = k d ρ := rfl
theorem try_err : tryK (.err c) k tbl hs ρ = catchD tbl hs c ρ := rfl
def tryAsK (x : R D) (i : Nat) (k : D → En → R Fl) (tbl : List (Str × Bool)) (h : En → R Fl) (ρ : En) : R Fl := match x with
  | .ok d => k d ρ
  | .err c => catchAs i tbl h c ρ
  | .bad => .bad
theorem ap_tryAs : sTryAs i f k tb h ρ = tryAsK (f ρ) i k tb h ρ := rfl
theorem tryAs_ok : tryAsK (.ok d) i k tb h ρ = k d ρ := rfl
theorem tryAs_err : tryAsK (.err c) i k tb h ρ = catchAs i tb h c ρ := rfl
theorem gone_next : gone i (.ok (.next ρ)) = .ok (.next (ρ.set i none)) := rfl
theorem ap_raise : sRaise c ρ = .err c := rfl
theorem ap_bodyD (h : ds.length = n) : bodyD n N g ds = endD (g (args N ds)) := by unfold bodyD; rw [if_pos h]
theorem end_err : endD (.err c) = .err c := rfl
end
end DL
namespace DL
open PySem PySem.Spec PyProof.Rows L2
section
variable {X : Cx} {C : Cd} {e : Expr} {pos p : Pos} {ρ : En} {σ : L2.St} {F H : Hp} {i j : Nat} {d : D} {v : V} {ds : List D} {x : Str} {dd : D} {vv : V}
end
end DL
namespace DL
open PySem PySem.Spec PyProof.Rows L2
section
variable {X : Cx} {C : Cd} {e o : Expr} {pos p apos cpos : Pos} {σ : L2.St} {F H : Hp} {i j : Nat} {x : Str}
end
end DL
namespace DL
open PySem PySem.Spec PyProof.Rows L2
structure TupC (K : PySem.W.Frag) (mg : Str → Option Value) (x : Str) (a : Addr) (ss : List Str) : Prop where
  g : mg x = some (.ref a)
  t : ∀ H, SqT K H a (ss.map V.str)
theorem TupC.of {K : PySem.W.Frag} {mg : Str → Option Value} {x : Str} {a : Addr} {ss : List Str} {o : Obj} {its : Array Value} {n : Nat} (g : mg x = some (.ref a)) (l : K.lookup a = some o) (c : o.cls = .type "tuple") (d : o.data = .seq its n) (hs : its.size ≤ sizeLine) (v : Vals (ss.map V.str) its.toList) : TupC K mg x a ss :=
  ⟨g, fun H => .inr ⟨o, its, n, l, c, d, hs, v⟩⟩
def TupO (o : Obj) (ss : List Str) : Prop := o.cls = .type "tuple" ∧ ∃ its n, o.data = .seq its n ∧ its.size ≤ sizeLine ∧ Vals (ss.map V.str) its.toList
theorem TupC.mk' {K : PySem.W.Frag} {mg : Str → Option Value} {x : Str} {a : Addr} {ss : List Str} {o : Obj} (g : mg x = some (.ref a)) (l : K.lookup a = some o) (h : TupO o ss) : ∃ a, TupC K mg x a ss := by
  obtain ⟨c, its, n, d, hs, v⟩ := h
  exact ⟨a, .of g l c d hs v⟩
theorem vs_nil : Vals (([] : List Str).map V.str) [] := .nil
theorem vs_cons {s : Str} {t : Tok} {ss : List Str} {us : List Value} (h : Vals (ss.map V.str) us) : Vals ((s :: ss).map V.str) (.str s t :: us) := .cons ⟨t, rfl⟩ h
def dInK (ss : List Str) (neg : Bool) : D → R D
  | .str x => .ok (.bl (xorB neg (decide (x ∈ ss))))
  | _ => .bad
theorem inV_strs (x : Str) : ∀ ss : List Str, inV (.str x) (ss.map V.str) = decide (x ∈ ss)
  | [] => rfl
  | s :: ss => by
    have ih := inV_strs x ss
    unfold inV at ih ⊢
    rw [List.map_cons, List.any_cons, ih]
    show ((s == x) || decide (x ∈ ss)) = _
    rw [Bool.eq_iff_iff, Bool.or_eq_true, beq_iff_eq, decide_eq_true_eq, decide_eq_true_eq, List.mem_cons]
    exact ⟨fun h => h.imp Eq.symm id, fun h => h.imp Eq.symm id⟩
section
variable {X : Cx} {C : Cd} {a : Expr} {f : En → R D} {pos p : Pos} {x : Str} {ad : Addr} {ss : List Str}
theorem dt_inK (hC : X.K = C.K.fr) (ha : PE X a (tR C f)) (hK : TupC X.K X.mg x ad ss) (hg : Gl X x := by rfl) (hdb : (x == ("__debug__" : Str)) = false := by decide) (hm : behindInMarks .In (.Name x p) = false := by rfl) : PT X (.Compare a [.In] [.Name x p] pos) (tT C (tst (uop f (dInK ss false)))) :=
  (pt_cmpR op_in_seq ha (pe_glob (v := .ref ad) (u := .ref ad) hg hK.g rfl hdb) hm).mono fun σ H Q h => by
    obtain ⟨ρ, F, r, q⟩ := t_to_o h
    refine ⟨ρ, F, r, q.fst fun d v F1 H1 _ q x1 s1 w1 => ?_⟩
    have q := Out.later q x1
    cases d with
    | str z =>
      obtain rfl : v = V.str z := w1
      refine ⟨ad, ss.map V.str, rfl, .inr (hK.t H1), rfl, ?_, ?_⟩
      · rw [List.all_map]; exact List.all_eq_true.mpr fun _ _ => rfl
      · rw [inV_strs]
        exact fin_flat q s1 rfl
    | _ => exact q.elim
end
end DL
namespace DL
open PySem PySem.Spec PyProof.Rows L2
section
variable {K : Kx} {F F' H H' : Hp}
mutual
/-- each place of a tree holds a part with lists -/
theorem OwD.node (s : Same F' H') : ∀ {d : D} {v : V}, Rep K F' d v → dat1 d = true → ∀ b ∈ rch H' d v, ∃ d1, tO1 d1 = false ∧ dat1 d1 = true ∧ Rep K F' d1 (.ref b)
  | _, _, .lst (a := a) (vs := vs) (ds := ds) q t, z, b, hb => by
    simp only [rch, s _ _ q] at hb
    rcases List.mem_cons.mp hb with rfl | hb
    · exact ⟨.lst ds, rfl, z, .lst q t⟩
    · exact OwDs.node s t z b hb
  | _, _, .tup (a := a) (vs := vs) (ds := ds) q t, z, b, hb => by
    simp only [rch, s _ _ q] at hb
    split at hb
    · exact nomatch hb
    · rename_i h
      rcases List.mem_cons.mp hb with rfl | hb
      · exact ⟨.tup ds, Bool.eq_false_iff.mpr h, z, .tup q t⟩
      · exact OwDs.node s t z b hb
  | _, _, .non, _, b, hb => by simp only [rch] at hb; exact nomatch hb
  | _, _, .bl _, _, b, hb => by simp only [rch] at hb; exact nomatch hb
  | _, _, .int _, _, b, hb => by simp only [rch] at hb; exact nomatch hb
  | _, _, .str _, _, b, hb => by simp only [rch] at hb; exact nomatch hb
  | _, _, .scr _, z, _, _ => nomatch z
  | _, _, .dK _ _, z, _, _ => nomatch z
  | _, _, .dT _ _, z, _, _ => nomatch z
  | _, _, .ref _, z, _, _ => nomatch z
  | _, _, .rows _ _, z, _, _ => nomatch z
  | _, _, .exn _ _, z, _, _ => nomatch z
  | _, _, .deep _ _, z, _, _ => nomatch z
  | _, _, .obj _, z, _, _ => nomatch z
theorem OwDs.node (s : Same F' H') : ∀ {ds : List D} {vs : List V}, Reps K F' ds vs → dats ds = true → ∀ b ∈ rchs H' ds vs, ∃ d1, tO1 d1 = false ∧ dat1 d1 = true ∧ Rep K F' d1 (.ref b)
  | _, _, .nil, _, b, hb => by simp only [rchs] at hb; exact nomatch hb
  | _, _, .cons r t, z, b, hb => by
    have z := Bool.and_eq_true_iff.mp z
    simp only [rchs] at hb
    rcases List.mem_append.mp hb with hb | hb
    · exact OwD.node s r z.1 b hb
    · exact OwDs.node s t z.2 b hb
end
mutual
/-- one place holds a list within, or none -/
theorem Rep.same : ∀ {d : D} {v : V}, Rep K F d v → tO1 d = true → ∀ {d' : D}, Rep K F d' v → dat1 d' = true → tO1 d' = true
  | _, _, .non, _, _, r, z => by cases r; rfl
  | _, _, .bl b, _, _, r, z => by cases r; rfl
  | _, _, .int b, _, _, r, z => by cases r; rfl
  | _, _, .str b, _, _, r, z => by cases r; rfl
  | _, _, .tup q t, y, d', r, z => by
    cases r with
    | tup q' t' =>
      rw [q] at q'
      cases q'
      exact Reps.same t y t' z
    | lst q' t' => rw [q] at q'; cases q'
    | rows q' t' => exact nomatch z
    | scr q' => exact nomatch z
    | dK q' t' => exact nomatch z
    | dT q' t' => exact nomatch z
    | ref => exact nomatch z
    | exn q' t' => exact nomatch z
    | deep _ _ => exact nomatch z
    | obj _ => exact nomatch z
  | _, _, .lst _ _, z, _, _, _ => nomatch z
  | _, _, .scr _, z, _, _, _ => nomatch z
  | _, _, .dK _ _, z, _, _, _ => nomatch z
  | _, _, .dT _ _, z, _, _, _ => nomatch z
  | _, _, .ref _, z, _, _, _ => nomatch z
  | _, _, .rows _ _, z, _, _, _ => nomatch z
  | _, _, .exn _ _, z, _, _, _ => nomatch z
  | _, _, .deep _ _, z, _, _, _ => nomatch z
  | _, _, .obj _, z, _, _, _ => nomatch z
theorem Reps.same : ∀ {ds : List D} {vs : List V}, Reps K F ds vs → tOs ds = true → ∀ {ds' : List D}, Reps K F ds' vs → dats ds' = true → tOs ds' = true
  | _, _, .nil, _, _, r, _ => by cases r; rfl
  | _, _, .cons q t, y, _, r, z => by
    cases r with
    | cons q' t' =>
      have y := Bool.and_eq_true_iff.mp y
      have z := Bool.and_eq_true_iff.mp z
      exact Bool.and_eq_true_iff.mpr ⟨Rep.same q y.1 q' z.1, Reps.same t y.2 t' z.2⟩
end
def unF (A B : Hp) : Hp := fun a => match A a with | some o => some o | none => B a
theorem unF_l {A B : Hp} : Same A (unF A B) := fun a o h => by show (match A a with | some o => some o | none => B a) = _; rw [h]
theorem unF_h {A B : Hp} (h1 : Same A H) (h2 : Same B H) : Same (unF A B) H := fun a o h => by
  have h : (match A a with | some o => some o | none => B a) = some o := h
  split at h
  · rename_i e; cases h; exact h1 _ _ e
  · exact h2 _ _ h
theorem unF_r {A B : Hp} (h1 : Same A H) (h2 : Same B H) : Same B (unF A B) := fun a o h => by
  show (match A a with | some o => some o | none => B a) = _
  split
  · rename_i e
    have := h1 _ _ e
    rw [h2 _ _ h] at this
    exact this.symm
  · exact h
theorem unF_of {A B : Hp} {a : Addr} {o : HO} (h : unF A B a = some o) : A a = some o ∨ B a = some o := by
  have h : (match A a with | some o => some o | none => B a) = some o := h
  split at h
  · rename_i e; cases h; exact .inl e
  · exact .inr h
def TupF (K : Kx) (A : Hp) : Prop := ∀ a o, A a = some o → ∃ d0, tO1 d0 = true ∧ Rep K A d0 (.ref a)
theorem TupF.none : TupF K (fun _ => none) := fun _ _ h => nomatch h
theorem TupF.un {A B : Hp} (h1 : Same A H) (h2 : Same B H) (a : TupF K A) (b : TupF K B) : TupF K (unF A B) := fun c o h => by
  rcases unF_of h with h | h
  · obtain ⟨d0, z, r⟩ := a c o h
    exact ⟨d0, z, r.mono unF_l⟩
  · obtain ⟨d0, z, r⟩ := b c o h
    exact ⟨d0, z, r.mono (unF_r h1 h2)⟩
mutual
/-- a tree of tuples, settled: a part of the settled heap that holds tuples alone -/
theorem Rep.tpart : ∀ {d : D} {v : V}, Rep K F d v → tO1 d = true → ∃ A, Same A F ∧ TupF K A ∧ Rep K A d v
  | _, _, .non, _ => ⟨fun _ => none, (fun _ _ h => nomatch h), TupF.none, .non⟩
  | _, _, .bl b, _ => ⟨fun _ => none, (fun _ _ h => nomatch h), TupF.none, .bl b⟩
  | _, _, .int b, _ => ⟨fun _ => none, (fun _ _ h => nomatch h), TupF.none, .int b⟩
  | _, _, .str b, _ => ⟨fun _ => none, (fun _ _ h => nomatch h), TupF.none, .str b⟩
  | _, _, .tup (a := a) (vs := vs) (ds := ds) q t, z => by
    obtain ⟨A, h1, h2, h3⟩ := Reps.tpart t z
    have hB : Same (fun b => if b = a then some (.tup vs) else none : Hp) F := fun b o h => by
      have h : (if b = a then some (HO.tup vs) else none) = some o := h
      by_cases e : b = a
      · subst e; rw [if_pos rfl] at h; rw [q]; exact h
      · rw [if_neg e] at h; cases h
    have hr : Rep K (unF A (fun b => if b = a then some (.tup vs) else none)) (.tup ds) (.ref a) := .tup (unF_r h1 hB _ _ (if_pos rfl)) (h3.mono unF_l)
    refine ⟨_, unF_h h1 hB, fun b o h => ?_, hr⟩
    rcases unF_of h with h | h
    · obtain ⟨d0, y, r⟩ := h2 _ _ h
      exact ⟨d0, y, r.mono unF_l⟩
    · have h : (if b = a then some (HO.tup vs) else none) = some o := h
      by_cases e : b = a
      · subst e
        exact ⟨.tup ds, z, hr⟩
      · rw [if_neg e] at h; cases h
  | _, _, .lst _ _, z => nomatch z
  | _, _, .scr _, z => nomatch z
  | _, _, .dK _ _, z => nomatch z
  | _, _, .dT _ _, z => nomatch z
  | _, _, .ref _, z => nomatch z
  | _, _, .rows _ _, z => nomatch z
  | _, _, .exn _ _, z => nomatch z
  | _, _, .deep _ _, z => nomatch z
  | _, _, .obj _, z => nomatch z
theorem Reps.tpart : ∀ {ds : List D} {vs : List V}, Reps K F ds vs → tOs ds = true → ∃ A, Same A F ∧ TupF K A ∧ Reps K A ds vs
  | _, _, .nil, _ => ⟨fun _ => none, (fun _ _ h => nomatch h), TupF.none, .nil⟩
  | _, _, .cons r t, z => by
    have z := Bool.and_eq_true_iff.mp z
    obtain ⟨A, h1, h2, h3⟩ := Rep.tpart r z.1
    obtain ⟨B, g1, g2, g3⟩ := Reps.tpart t z.2
    exact ⟨unF A B, unF_h h1 g1, h2.un h1 g1 g2, .cons (h3.mono unF_l) (g3.mono (unF_r h1 g1))⟩
end
mutual
/-- what holds no list is settled anew beside the rest -/
theorem OwD.mix (s1 : Same F H') (s2 : Same F' H') : ∀ {d : D} {v : V}, Rep K F' d v → dat1 d = true → (∃ A, Same A F' ∧ TupF K A ∧ OwD K A H' d v)
  | _, _, .non, _ => ⟨fun _ => none, (fun _ _ h => nomatch h), TupF.none, .set rfl .non⟩
  | _, _, .bl b, _ => ⟨fun _ => none, (fun _ _ h => nomatch h), TupF.none, .set rfl (.bl b)⟩
  | _, _, .int b, _ => ⟨fun _ => none, (fun _ _ h => nomatch h), TupF.none, .set rfl (.int b)⟩
  | _, _, .str b, _ => ⟨fun _ => none, (fun _ _ h => nomatch h), TupF.none, .set rfl (.str b)⟩
  | _, _, .lst (ds := ds) q t, z => by
    obtain ⟨A, a1, a2, a3⟩ := OwDs.mix s1 s2 t z
    exact ⟨A, a1, a2, .lst (s2 _ _ q) a3⟩
  | _, _, .tup (ds := ds) q t, z => by
    cases h : tOs ds with
    | true =>
      obtain ⟨B, b1, b2, b3⟩ := Rep.tpart (.tup q t) (show tO1 (.tup ds) = true from h)
      exact ⟨B, b1, b2, .set h b3⟩
    | false =>
      obtain ⟨A, a1, a2, a3⟩ := OwDs.mix s1 s2 t z
      exact ⟨A, a1, a2, .tup h (s2 _ _ q) a3⟩
  | _, _, .scr _, z => nomatch z
  | _, _, .dK _ _, z => nomatch z
  | _, _, .dT _ _, z => nomatch z
  | _, _, .ref _, z => nomatch z
  | _, _, .rows _ _, z => nomatch z
  | _, _, .exn _ _, z => nomatch z
  | _, _, .deep _ _, z => nomatch z
  | _, _, .obj _, z => nomatch z
theorem OwDs.mix (s1 : Same F H') (s2 : Same F' H') : ∀ {ds : List D} {vs : List V}, Reps K F' ds vs → dats ds = true → (∃ A, Same A F' ∧ TupF K A ∧ OwDs K A H' ds vs)
  | _, _, .nil, _ => ⟨fun _ => none, (fun _ _ h => nomatch h), TupF.none, .nil⟩
  | _, _, .cons r t, z => by
    have z := Bool.and_eq_true_iff.mp z
    obtain ⟨A, a1, a2, a3⟩ := OwD.mix s1 s2 r z.1
    obtain ⟨B, b1, b2, b3⟩ := OwDs.mix s1 s2 t z.2
    exact ⟨unF A B, unF_h a1 b1, a2.un a1 b1 b2, .cons (OwD.mono unF_l (Same.refl _) a3) (OwDs.mono (unF_r a1 b1) (Same.refl _) b3)⟩
end
def rowT : D → Bool
  | .lst xs => tOs xs
  | _ => false
def argOk : D → Bool
  | .lst ds => tOs ds
  | .rows rs => rs.all rowT
  | d => tO1 d
theorem rows_part (s : Same F H) : ∀ {rs : List D} {vs : List V}, rs.all rowT = true → (Reps K F rs vs ∨ RowsAt K F H rs vs) → ∃ A, Same A F ∧ TupF K A ∧ RowsAt K A H rs vs
  | [], _, _, w => by
    rcases w with w | w <;> cases w <;> exact ⟨fun _ => none, (fun _ _ h => nomatch h), TupF.none, .nil⟩
  | r :: rs, _, z, w => by
    have z := Bool.and_eq_true_iff.mp (by rw [List.all_cons] at z; exact z)
    have step : ∀ {b : Addr} {us vs : List V} {xs : List D}, r = .lst xs → H b = some (.lst us) → Reps K F xs us → (Reps K F rs vs ∨ RowsAt K F H rs vs) → ∃ A, Same A F ∧ TupF K A ∧ RowsAt K A H (r :: rs) (.ref b :: vs) := fun {b us vs xs} e q t w' => by
      subst e
      obtain ⟨A, a1, a2, a3⟩ := Reps.tpart t (show tOs xs = true from z.1)
      obtain ⟨B, b1, b2, b3⟩ := rows_part s z.2 w'
      exact ⟨unF A B, unF_h a1 b1, a2.un a1 b1 b2, .cons q (a3.mono unF_l) (RowsAt.mono (unF_r a1 b1) b3 fun _ _ _ h => h)⟩
    rcases w with w | w
    · cases w with
      | cons q t =>
        cases q with
        | lst q' t' => exact step rfl (s _ _ q') t' (.inl t)
        | _ => exact nomatch z.1
    · cases w with
      | cons q t u => exact step rfl q t (.inr u)
theorem View.part (s : Same F H) {d : D} {v : V} (w : View K F H d v) (z : argOk d = true) : ∃ A, Same A F ∧ TupF K A ∧ View K A H d v := by
  cases d with
  | non => exact ⟨fun _ => none, (fun _ _ h => nomatch h), TupF.none, w⟩
  | bl b => exact ⟨fun _ => none, (fun _ _ h => nomatch h), TupF.none, w⟩
  | int b => exact ⟨fun _ => none, (fun _ _ h => nomatch h), TupF.none, w⟩
  | str b => exact ⟨fun _ => none, (fun _ _ h => nomatch h), TupF.none, w⟩
  | lst ds =>
    obtain ⟨a, vs, e, q, t⟩ := w
    obtain ⟨A, a1, a2, a3⟩ := Reps.tpart t z
    exact ⟨A, a1, a2, a, vs, e, q, a3⟩
  | tup ds =>
    obtain ⟨a, vs, e, q, t⟩ := w
    obtain ⟨A, a1, a2, a3⟩ := Reps.tpart t (show tOs ds = true from z)
    exact ⟨A, a1, a2, a, vs, e, q, a3⟩
  | rows rs =>
    obtain ⟨a, vs, e, q, t⟩ := w
    obtain ⟨A, a1, a2, a3⟩ := rows_part s z t
    exact ⟨A, a1, a2, a, vs, e, q, .inr a3⟩
  | _ => exact nomatch z
theorem Views.part (s : Same F H) : ∀ {ds : List D} {vs : List V}, Views K F H ds vs → ds.all argOk = true → ∃ A, Same A F ∧ TupF K A ∧ Views K A H ds vs
  | _, _, .nil, _ => ⟨fun _ => none, (fun _ _ h => nomatch h), TupF.none, .nil⟩
  | _, _, .cons w t, z => by
    have z := Bool.and_eq_true_iff.mp (by rw [List.all_cons] at z; exact z)
    obtain ⟨A, a1, a2, a3⟩ := w.part s z.1
    obtain ⟨B, b1, b2, b3⟩ := Views.part s t z.2
    refine ⟨unF A B, unF_h a1 b1, a2.un a1 b1 b2, .cons (a3.mono unF_l (Same.refl _)) ?_⟩
    have go : ∀ {ds : List D} {vs : List V}, Views K B H ds vs → Views K (unF A B) H ds vs := fun {ds vs} h => by
      induction h with
      | nil => exact .nil
      | cons w t ih => exact .cons (w.mono (unF_r a1 b1) (Same.refl _)) ih
    exact go b3
end
section
variable {X : Cx} {C : Cd} {e a : Expr} {es : List Expr} {fs : En → R (List D)} {f : En → R D} {pos p p1 apos cpos : Pos} {kk n : Nat} {fa : Addr} {fd : FuncData} {ps : List Str} {x : Str} {cls : Str → Addr} {den : Den} {CX : CXT} {E : XK} {ρ : En} {σ : L2.St} {F H : Hp}
end
mutual
def jkB : D → Nat
  | .lst ds => ds.length
  | .junk n => n
  | .tup ds => jkBs ds
  | _ => 0
def jkBs : List D → Nat
  | [] => 0
  | d :: ds => max (jkB d) (jkBs ds)
end
mutual
def jkD (N : Nat) : D → D
  | .lst _ => .junk N
  | .junk _ => .junk N
  | .tup ds => .tup (jkDs N ds)
  | d => d
def jkDs (N : Nat) : List D → List D
  | [] => []
  | d :: ds => jkD N d :: jkDs N ds
end
mutual
theorem jkD_id {N : Nat} : ∀ {d : D}, tO1 d = true → jkD N d = d
  | .tup ds, h => by
    simp only [jkD]
    rw [jkDs_id (show tOs ds = true from h)]
  | .non, _ => by simp only [jkD]
  | .bl _, _ => by simp only [jkD]
  | .int _, _ => by simp only [jkD]
  | .str _, _ => by simp only [jkD]
theorem jkDs_id {N : Nat} : ∀ {ds : List D}, tOs ds = true → jkDs N ds = ds
  | [], _ => by simp only [jkDs]
  | d :: ds, h => by
    have h := Bool.and_eq_true_iff.mp h
    simp only [jkDs]
    rw [jkD_id h.1, jkDs_id h.2]
end
theorem rch_flat {H : Hp} {d : D} {v : V} (h : tO1 d = true) : rch H d v = [] := by
  cases d with
  | tup ds =>
    have h : tOs ds = true := h
    cases v <;> simp only [rch, h, if_true]
  | lst ds => exact nomatch h
  | junk n => exact nomatch h
  | _ => cases v <;> simp only [rch]
theorem OwDs.length {K : Kx} {F H : Hp} : ∀ {ds : List D} {vs : List V}, OwDs K F H ds vs → vs.length = ds.length
  | _, _, .nil => rfl
  | _, _, .cons _ t => congrArg (· + 1) (OwDs.length t)
section
variable {K : Kx} {F H H' : Hp} {c : Addr} {us us' : List V} {N : Nat}
mutual
theorem OwD.jk (hH : ∀ b, b ≠ c → H' b = H b) (hc : H c = some (.lst us)) (hc' : H' c = some (.lst us')) (hl : us'.length ≤ us.length + 1) : ∀ {d : D} {v : V}, OwD K F H d v → jkB d + 1 ≤ N →
    OwD K F H' (jkD N d) v ∧ (∀ b ∈ rch H' (jkD N d) v, b ∈ rch H d v) ∧ tO1 (jkD N d) = tO1 d
  | d, v, .set z r, _ => by
    rw [jkD_id z]
    exact ⟨.set z r, (fun b hb => by rw [rch_flat z] at hb; exact nomatch hb), rfl⟩
  | _, _, .lst (a := a) (vs := vs) (ds := ds) q t, hN => by
    simp only [jkB] at hN
    simp only [jkD]
    refine ⟨?_, fun b hb => ?_, rfl⟩
    · by_cases e : a = c
      · subst e
        rw [q] at hc
        cases hc
        exact .junk hc' (by have := t.length; omega)
      · exact .junk ((hH a e).trans q) (by have := t.length; omega)
    · simp only [rch] at hb ⊢
      rw [List.mem_singleton.mp hb]
      exact List.mem_cons_self
  | _, _, .junk (a := a) (vs := vs) (n := n) q l, hN => by
    simp only [jkB] at hN
    simp only [jkD]
    refine ⟨?_, fun b hb => ?_, rfl⟩
    · by_cases e : a = c
      · subst e
        rw [q] at hc
        cases hc
        exact .junk hc' (by omega)
      · exact .junk ((hH a e).trans q) (by omega)
    · simp only [rch] at hb ⊢
      exact hb
  | _, _, .tup (a := a) (vs := vs) (ds := ds) z q t, hN => by
    simp only [jkB] at hN
    have ha : H' a = H a := hH a fun e => by subst e; rw [q] at hc; cases hc
    obtain ⟨t1, t2, t3⟩ := OwDs.jk hH hc hc' hl t hN
    have z' : tOs (jkDs N ds) = false := t3.trans z
    refine ⟨?_, fun b hb => ?_, ?_⟩
    · simp only [jkD]
      exact .tup z' (ha.trans q) t1
    · simp only [jkD, rch, z', z, Bool.false_eq_true, if_false, ha, q] at hb ⊢
      rcases List.mem_cons.mp hb with rfl | hb
      · exact List.mem_cons_self
      · exact List.mem_cons_of_mem _ (t2 b hb)
    · simp only [jkD]
      exact t3
theorem OwDs.jk (hH : ∀ b, b ≠ c → H' b = H b) (hc : H c = some (.lst us)) (hc' : H' c = some (.lst us')) (hl : us'.length ≤ us.length + 1) : ∀ {ds : List D} {vs : List V}, OwDs K F H ds vs → jkBs ds + 1 ≤ N →
    OwDs K F H' (jkDs N ds) vs ∧ (∀ b ∈ rchs H' (jkDs N ds) vs, b ∈ rchs H ds vs) ∧ tOs (jkDs N ds) = tOs ds
  | _, _, .nil, _ => by
    simp only [jkDs]
    exact ⟨.nil, (fun b hb => by simp only [rchs] at hb; exact nomatch hb), trivial⟩
  | _, _, .cons (d := d) (ds := ds) r t, hN => by
    simp only [jkBs] at hN
    obtain ⟨r1, r2, r3⟩ := OwD.jk hH hc hc' hl r (by omega)
    obtain ⟨t1, t2, t3⟩ := OwDs.jk hH hc hc' hl t (by omega)
    simp only [jkDs]
    refine ⟨.cons r1 t1, fun b hb => ?_, ?_⟩
    · simp only [rchs] at hb ⊢
      rcases List.mem_append.mp hb with hb | hb
      · exact List.mem_append_left _ (r2 b hb)
      · exact List.mem_append_right _ (t2 b hb)
    · show (tO1 (jkD N d) && tOs (jkDs N ds)) = (tO1 d && tOs ds)
      rw [r3, t3]
end
end
section
variable {X : Cx} {C : Cd} {e a o : Expr} {es : List Expr} {f : En → R D} {pos p p1 p2 apos cpos : Pos} {ρ : En} {σ : L2.St} {F H : Hp} {i : Nat} {ks : List Nat}
theorem Rel.jk {d : D} {l c : Addr} {us us' : List V} (r : Rel C ρ σ F H) (h : ρ[i]? = some (some (true, .deep d))) (q : σ[i]? = some (some (.ref l))) (hm : c ∈ rch H d (.ref l)) (hc : H c = some (.lst us)) (hl : us'.length ≤ us.length + 1) :
    Rel C (ρ.set i (some (true, .deep (jkD (jkB d + 1) d)))) σ F (upd H c (.lst us')) := by
  obtain ⟨a', q', n, nd, o⟩ := r.ownF i _ h
  rw [q] at q'
  cases q'
  obtain ⟨o1, o2, o3⟩ := OwD.jk (H' := upd H c (.lst us')) (N := jkB d + 1) (fun b hb => upd_ne hb) hc upd_same hl o.1 (Nat.le_refl _)
  have sub : ∀ b ∈ foot (upd H c (.lst us')) l (.deep (jkD (jkB d + 1) d)), b ∈ foot H l (.deep d) := fun b hb => by
    rcases deep_mem hb with rfl | hb
    · exact foot_head
    · exact mem_deep (o2 b hb)
  refine r.writeF h q (fun b hb => ?_) ⟨o1, o3.trans o.2⟩ (fun b hb => n b (sub b hb)) deep_nodup fun b hb => .inl (sub b hb)
  have : b = c := by
    by_cases z : b = c
    · exact z
    · exact absurd (upd_ne z) hb
  subst this
  exact ⟨.inl (mem_deep hm), n b (mem_deep hm)⟩
theorem OwDs.get {K : Kx} : ∀ {ds : List D} {vs : List V} {k : Nat} {d : D}, OwDs K F H ds vs → ds[k]? = some d → ∃ v, vs[k]? = some v ∧ OwD K F H d v ∧ ∀ b ∈ rch H d v, b ∈ rchs H ds vs
  | _, _, 0, _, .cons r t, h => by cases h; exact ⟨_, rfl, r, fun b hb => by simp only [rchs]; exact List.mem_append_left _ hb⟩
  | _, _, k + 1, _, .cons r t, h => by
    obtain ⟨v, h1, h2, h3⟩ := OwDs.get (k := k) t h
    exact ⟨v, h1, h2, fun b hb => by simp only [rchs]; exact List.mem_append_right _ (h3 b hb)⟩
end
section
variable {ρ ρ' : En} {i n : Nat} {d d0 : D} {den : Den} {ds : List D} {o : Bool} {ks : List Nat}
end
end DL
namespace DL
open PySem PySem.Spec PyProof.Rows L2
section
variable {M : Model} {A : Around} {E : Value → Shared → Prop} {s : Shared} {Z : Obj → Prop} {base : Heap} {env : Env} {outer l : List Env} {L C e : Addr}
theorem looks_onF {fl : Value} {Q : Unit → Shared → Prop} (hZ : HandSPX.Steady Z) (hfr : A.frames = some (env :: outer)) (hf : env.frame = some L) (hkb : base.StaysIn s.heap) (hen : base.get? e = none) (hl : s.heap.FunFrames base (env :: outer)) (ht : HandSPX.TracedZ s.heap base e Z fl) (hne : (fl == rawInt L) = false)
    (hQ : ∀ h', HandSPX.HeldZ base (env :: outer) e Z L h' → s.heap.UpToSlots h' → Q () { s with heap := h' }) : wpAny M A (noteFrame (.ref e) env) Q E s := by
  obtain ⟨oe, vs, T, oT, ts, he, hz, hd, h1, hnT, hTe, hT, hdT, h3⟩ := ht
  unfold noteFrame
  simp only [hf]
  refine wpAny_bind (wpAny_field he hd h1 ?_)
  rw [if_pos (show (Value.ref T != Value.none) = true from by simp)]
  refine wpAny_bind (wpAny_field hT hdT h3 ?_)
  rw [if_neg (show ¬ ((fl == rawInt L) = true) from by rw [hne]; exact Bool.false_ne_true)]
  refine wpAny_bind (wpAny_setField hT hdT (Array.getElem?_eq_some_iff.mp h3).1 ?_)
  have other : ∀ b, b ≠ T → (s.heap.update T (Obj.mapFields (·.setIfInBounds 3 Value.none))).get? b = s.heap.get? b := fun b hb => Heap.get?_update_other _ _ (Ne.symm hb)
  have noRecord : ∀ b o, s.heap.get? b = some o → (∀ vs, o.data ≠ .fields vs) → b ≠ T := fun b o hb hnf q => by
    rw [q, hT] at hb; injection hb with hb; subst hb; exact hnf ts hdT
  refine HandSPX.wpAny_entryZ hZ hfr (hl.of_keeps fun b o hb hnf => ⟨o, (other b (noRecord b o hb hnf)).trans hb, rfl⟩) hf ((other e (Ne.symm hTe)).trans he)
    (fun b o hbo => (other b fun q => by rw [q, hnT] at hbo; cases hbo).trans (hkb b o hbo)) hen hd (Array.getElem?_eq_some_iff.mp h1).1 hz fun h' hN => ?_
  obtain ⟨x1, x2, x3, x4⟩ := hN
  exact hQ h' ⟨x1, hen, x2, x3⟩ fun b o hb hnf => x4 b o ((other b (noRecord b o hb hnf)).trans hb) hnf
theorem raw_ne (h : C ≠ L) : (rawInt C == rawInt L) = false := by
  rw [Bool.eq_false_iff]
  intro z
  unfold rawInt at z
  simp only [beq_iff_eq] at z
  injection z with z
  exact h (by first | exact z | exact Int.ofNat_inj.mp z | omega | (simp at z; exact z))
end
section
variable {X : Cx} {W : WX}
theorem fly_out {pins : List (Addr × Obj)} {σ : L2.St} {H3 : Hp} {s3 : Shared} {scope : Scope} {ce : Env} {fp : List Addr} {pn : List (Addr × Obj)} {xe : Value → Shared → Prop} {u : Value} {s' : Shared}
    (I3 : Inv X pins σ H3 s3) (hst : X.stack = X.env :: X.outer) (hfm : X.env.frame = some X.env.locals) (tk : Takes X W) (cL : ce.locals = s3.heap.objs.size) (cF : ce.frame = X.env.frame)
    (hch : ∀ b ∈ fp, (b ∈ X.ex ∨ X.s_0.heap.objs.size ≤ b) ∧ b ≠ X.env.locals ∧ (∀ x c, X.env.cells.lookup x = some c → c ≠ b) ∧ ∀ p ∈ X.pn ++ pins, p.1 ≠ b)
    (fly : XE ((X.blk s3 H3 scope ce fp).tr pn xe) (fun cls d _ H' => W cls d σ H') u s') :
    notedBy (model X.prog X.w) X.A ce (CompFails (model X.prog X.w) X.A X.xe ce) u s' := by
  obtain ⟨a, B, sI, pins1, σ1, H1, cls, dd, rfl, Ib, inB, upS, air, fresh, hos, hgens, hw⟩ := fly
  have okX := I3.ok
  have frm : X.A.frames = some (X.env :: X.outer) := by rw [okX.frames, hst]
  have inB : ∀ b o, sI.heap.get? b = some o → b ∉ frs X.stack → B.get? b = some o := inB
  have air : Sky B X.stack a (Zc cls dd) ce.locals s'.heap := air
  rw [hst] at air
  have cne : ce.locals ≠ X.env.locals := by
    rw [cL]
    exact Nat.ne_of_gt I3.lt
  show wpAny (model X.prog X.w) X.A (noteFrame (.ref a) ce) _ _ _
  rw [noteFrame_env _ cF]
  have fin : ∀ h1, HandSPX.HeldZ B (X.env :: X.outer) a (Zc cls dd) X.env.locals h1 → s'.heap.UpToSlots h1 → CompFails (model X.prog X.w) X.A X.xe ce (.ref a) { s' with heap := h1 } := by
    intro h1 hh up1
    obtain ⟨m, hn, _⟩ := Ib.loc
    have hn : sI.heap.Ns ce.locals m := hn
    have up : sI.heap.UpToSlots h1 := upS.trans up1
    have hn1 : h1.Ns ce.locals m := hn.upToSlots fun b o hb hnf => up b o hb hnf
    refine ⟨m, hn1, fun h2 m2 hn2 hs2 => ?_⟩
    obtain ⟨B', g1, g2⟩ := restrict B fun b => decide (b ≠ ce.locals)
    have gB : ∀ b o, B'.get? b = some o → b ≠ ce.locals ∧ B.get? b = some o := fun b o e => by
      by_cases hb : b = ce.locals
      · rw [g2 b (by simp [hb])] at e; cases e
      · exact ⟨hb, by rw [← g1 b (by simp [hb])]; exact e⟩
    have gN : ∀ b, B.get? b = none → B'.get? b = none := fun b e => by
      cases q : B'.get? b with
      | none => rfl
      | some o => rw [(gB b o q).2] at e; cases e
    obtain ⟨k1, k2, k3, k4⟩ := hh
    have noC : ∀ {b o vs}, h1.get? b = some o → o.data = .fields vs → b ≠ ce.locals := fun {b o vs} hb hd z => by
      obtain ⟨oL, es, ep, hoL, hdL, r⟩ := hn1
      rw [z, hoL] at hb
      cases hb
      rw [hdL] at hd
      cases hd
    have hh2 : HandSPX.HeldZ B' (X.env :: X.outer) a (Zc cls dd) X.env.locals h2 := by
      refine ⟨fun b o hb => (hs2.2 b (gB b o hb).1).trans (k1 b o (gB b o hb).2), gN a k2, ?_, ?_⟩
      · have ff : h2.FunFrames B (X.env :: X.outer) := Heap.FunFrames.sameBut hs2 hn2 k3
        exact funFrames_none ff fun b hb => gN b (k3.mem hb).1
      · obtain ⟨oe, vs, T, oT, ts, he, hz, hd, e1, hnT, hTe, hT, hdT, e3⟩ := k4
        exact ⟨oe, vs, T, oT, ts, (hs2.2 a (noC he hd)).trans he, hz, hd, e1, gN T hnT, hTe, (hs2.2 T (noC hT hdT)).trans hT, hdT, e3⟩
    have hh2' := hh2
    obtain ⟨_, _, _, oe, vs, T, oT, ts, he, hz, hd, e1, hnT, hTe, hT, hdT, e3⟩ := hh2
    unfold PySem.passOn
    refine wpAny_bind (wpAny_field he hd e1 ?_)
    rw [if_neg (show ¬ ((Value.ref T == Value.none) = true) from by simp)]
    rw [cF, hfm]
    refine wpAny_bind (HandSPX.setFlight_onZ hh2' fun h3 hh3 up3 => ?_)
    refine wpAny_throw ?_
    refine tk _ _ ?_
    -- the def's state without the block
    obtain ⟨G, q1, q2⟩ := restrict sI.heap fun b => decide (b ≠ ce.locals)
    have gG : ∀ b o, G.get? b = some o → b ≠ ce.locals ∧ sI.heap.get? b = some o := fun b o e => by
      by_cases hb : b = ce.locals
      · rw [q2 b (by simp [hb])] at e; cases e
      · exact ⟨hb, by rw [← q1 b (by simp [hb])]; exact e⟩
    have Gg : ∀ b o, b ≠ ce.locals → sI.heap.get? b = some o → G.get? b = some o := fun b o hb e => by rw [q1 b (by simp [hb])]; exact e
    have s3C : ∀ b o, s3.heap.get? b = some o → b ≠ ce.locals := fun b o e z => by
      have := Heap.lt_size e
      rw [z, cL] at this
      exact absurd this (Nat.lt_irrefl _)
    have H1C : H1 ce.locals = none := Ib.free
    have un : Un (frs X.stack) fp H3 H1 s3.heap sI.heap := Ib.base
    have hokI : HOk X.prog X.w H1 sI.heap := Ib.hok
    have I' : Inv X pins σ H1 { sI with heap := G } := by
      refine I3.call' (ch := fp) (show sI.os = s3.os from Ib.os) ⟨fun b o e n hb hx => Gg b o (s3C b o e) (un.keep b o e n hb hx), fun b o e n hb hx => ?_, un.free, fun b o e hx => ?_, un.tups, un.frzs, un.tbls⟩ ?_ Ib.bare hch
      · obtain ⟨sl, q⟩ := un.slot b o e n hb hx
        exact ⟨sl, Gg b _ (s3C b o e) q⟩
      · obtain ⟨o', q⟩ := un.there b o e hx
        exact ⟨o', Gg b _ (s3C b o e) q⟩
      · intro b o q
        refine (hokI b o q).stay (fun c v hc r => Gg c v (fun z => ?_) r) (fun _ r => r) fun _ _ r => r
        rcases hc with hc | hc
        · rw [← hc, z, H1C] at q; cases q
        · rw [z, H1C] at hc; cases hc
    refine ⟨a, B', { sI with heap := G }, pins, σ, H1, cls, dd, rfl, I', fun b o e hb => ?_, fun b o hb hnf => ?_, ?_, fresh, hos, hgens, hw⟩
    · obtain ⟨hbC, e'⟩ := gG b o e
      rw [g1 b (by simp [hbC])]
      exact inB b o e' hb
    · obtain ⟨hbC, e'⟩ := gG b o hb
      obtain ⟨sl, e2⟩ := up b o e' hnf
      have e2' : h2.get? b = some { o with slots := sl } := (hs2.2 b hbC).trans e2
      obtain ⟨sl', e3'⟩ := up3 b _ e2' hnf
      exact ⟨sl', e3'⟩
    · rw [hst]
      exact .inr (.inr hh3)
  rcases air with ⟨hB, hn, hl, oe, vs, he, hz, hd, h1⟩ | fl | hh
  · exact HandSPX.look_newZ Zc.steady frm hl hfm he hB hn hd h1 hz fin
  · exact HandSPX.looks_onZ Zc.steady frm hfm fl fin
  · exact looks_onF Zc.steady frm hfm hh.1 hh.2.1 hh.2.2.1 hh.2.2.2 (raw_ne cne) fin
def tLcX (wi : TI) (g : TG) (tt : TT) (te : WX → TE) (vs : List Nat) (W : WX) : TE := fun σ H Q => tLc wi g tt (te fun cls d _ H' => W cls d σ H') vs σ H Q
theorem pe_lcX {elt tg iter : Expr} {ifs : List Expr} {scope : Scope} {own : List (Str × Nat)} {pos : Pos} {wi : TI} {g : TG} {tt : TT} {te : WX → TE} (hc : X.calm = true) (hN : X.N.Nodup) (hst : X.stack = X.env :: X.outer) (hfm : X.env.frame = some X.env.locals) (tk : Takes X W) (hi : PI X tg iter wi) (ok : BlkOk X.N X.env.scope scope own)
    (hg : ∀ (s : Shared) (H : Hp) (C : Addr) (cl : List (Str × Addr)) (fp : List Addr), PG (X.blk s H scope (compEnvC scope cl C X.env) fp) tg g) (ht : ∀ (s : Shared) (H : Hp) (C : Addr) (cl : List (Str × Addr)) (fp : List Addr), PTs (X.blk s H scope (compEnvC scope cl C X.env) fp) ifs tt)
    (he : ∀ (Wb : WX) (s : Shared) (H : Hp) (C : Addr) (cl : List (Str × Addr)) (fp : List Addr) (pn : List (Addr × Obj)) (xe : Value → Shared → Prop), Takes ((X.blk s H scope (compEnvC scope cl C X.env) fp).tr pn xe) Wb → PE ((X.blk s H scope (compEnvC scope cl C X.env) fp).tr pn xe) elt (te Wb)) (hs : ∀ x, foldedSetIterable iter X.env x = pure x := by intro _; rfl) :
    PE X (.ListComp elt [⟨tg, iter, ifs, 0⟩] scope pos) (tLcX wi g tt te (own.map (·.2)) W) := by
  refine ⟨fun pins s σ H Q I h => ?_⟩
  rw [eval_ListComp]
  have hfree : ∀ y ∈ scope.names, y.2 = .free → ∃ c, X.env.cells.lookup y.1 = some c := fun y hy e => by
    rcases ok.free y hy e with k | k
    · exact I.ok.has _ (.inl k)
    · exact I.ok.has _ (.inr k)
  have h : tLc wi g tt (te fun cls d _ H' => W cls d σ H') (own.map (·.2)) σ H Q := h
  refine comprehension_at (use := none) rfl hs (closure_ok hfree) ok.kind (fun y hy e => by rw [ok.uniq y hy, e])
    (thn (hi.run pins s σ H _ I h) fun xv s1 hx => thn hx fun itv s2 h2 => ?_)
  obtain ⟨it, fp, tn, J, H2, e, I2, T, st2, f2, q⟩ := h2
  subst e
  refine wpAny_newObj_type (newEnv_comp ?_) (by show 0 ≤ sizeLine; decide)
  generalize hD : s2.heap.objs.size = D
  have hDn : H2 D = none := I2.hok.fresh (Nat.le_of_eq hD)
  obtain ⟨Wm, ⟨m0, w0⟩, turn⟩ := q D hDn
  generalize hs3 : ({ s2 with heap := s2.heap.push { cls := .type "list", data := .seq ([] : List Value).toArray } } : Shared) = s3
  have I3 : Inv X pins σ (upd H2 D (.lst [])) s3 := by
    rw [← hs3]
    refine I2.laid (t' := s2.toks) (fun b o e => Heap.get?_push_of_some _ e) (Nat.le_of_eq hD) ⟨Nat.zero_le _, [], 0, .nil, ?_⟩
    rw [← hD]
    exact Heap.get?_push_size _ rfl
  have h3 : s3.heap = s2.heap.push { cls := .type "list", data := .seq ([] : List Value).toArray } := by rw [← hs3]
  have sz : ∀ b ∈ fp, b < s2.heap.objs.size := fun b hb => by
    obtain ⟨o, e, _⟩ := T.obj _ _ st2 b hb
    exact Heap.lt_size e
  have f3 : ∀ b ∈ fp, FpOk X pins (upd H2 D (.lst [])) b ∧ b < s3.heap.objs.size := fun b hb => by
    have hlt := sz b hb
    refine ⟨⟨?_, (f2 b hb).2⟩, by rw [h3, Heap.size_push]; exact Nat.lt_succ_of_lt hlt⟩
    rw [upd_ne (by rw [← hD]; exact Nat.ne_of_lt hlt)]
    exact (f2 b hb).1
  have st3 : tn 0 s3.heap := T.keep _ _ _ st2 fun b _ o e => by rw [h3]; exact Heap.get?_push_of_some _ e
  have I4 := block_start I3 ok hN f3
  have pg := hg s3 (upd H2 D (.lst [])) s3.heap.objs.size (cellsFrom (s3.heap.objs.size + 1) scope.names (cloFrom X.env.cells scope.names [])) fp
  have pt := ht s3 (upd H2 D (.lst [])) s3.heap.objs.size (cellsFrom (s3.heap.objs.size + 1) scope.names (cloFrom X.env.cells scope.names [])) fp
  have pe := fun Wb => he Wb s3 (upd H2 D (.lst [])) s3.heap.objs.size (cellsFrom (s3.heap.objs.size + 1) scope.names (cloFrom X.env.cells scope.names [])) fp
  show codeAny _ _ (.compStart (.ListComp elt [⟨tg, iter, ifs, 0⟩] scope pos) 0 (.ref it) (.ref D) (compEnvC scope (cellsFrom (s3.heap.objs.size + 1) scope.names (cloFrom X.env.cells scope.names [])) s3.heap.objs.size X.env)) (compEnds (model X.prog X.w) X.A X.xe none _ (.ref D) (compEnvC scope (cellsFrom (s3.heap.objs.size + 1) scope.names (cloFrom X.env.cells scope.names [])) s3.heap.objs.size X.env)) { s3 with heap := pushCells (s3.heap.push { cls := .type "dict", data := .dict #[] }) scope.names }
  have nfp : ∀ b ∈ fp, (upd H2 D (.lst [])) b = none := fun b hb => (f3 b hb).1.1
  have cF0 : (compEnvC scope (cellsFrom (s3.heap.objs.size + 1) scope.names (cloFrom X.env.cells scope.names [])) s3.heap.objs.size X.env).frame = X.env.frame := rfl
  generalize hce : compEnvC scope (cellsFrom (s3.heap.objs.size + 1) scope.names (cloFrom X.env.cells scope.names [])) s3.heap.objs.size X.env = ce at I4 pg pt pe cF0 ⊢
  have cL : ce.locals = s3.heap.objs.size := by subst hce; rfl
  generalize hH3 : upd H2 D (.lst []) = H3 at I3 I4 pg pt pe w0 nfp f3
  generalize hs4 : ({ s3 with heap := pushCells (s3.heap.push { cls := .type "dict", data := .dict #[] }) scope.names } : Shared) = s4 at I4 ⊢
  have st4 : tn 0 s4.heap := T.keep _ _ _ st3 fun b _ o e => by rw [← hs4]; exact pushCells_keeps _ _ _ _ (Heap.get?_push_of_some _ e)
  have stat : ∀ {σ' : L2.St} {H' : Hp} {s' : Shared}, Inv (X.blk s3 H3 scope ce fp) [] σ' H' s' → (∀ b ∈ fp, H' b = none) → ∀ b ∈ fp, FpOk (X.blk s3 H3 scope ce fp) [] H' b := fun {σ' H' s'} I' hn b hb =>
    ⟨hn b hb, (I'.ok.exf b hb).1, I'.ok.exfs b hb, .inl hb, fun x c e => (I'.ok.exf b hb).2 x c e, fun p hp => absurd (show p ∈ ([] : List (Addr × Obj)) ++ [] from hp) (by simp)⟩
  have hchf : ∀ b ∈ fp, (b ∈ X.ex ∨ X.s_0.heap.objs.size ≤ b) ∧ b ≠ X.env.locals ∧ (∀ x c, X.env.cells.lookup x = some c → c ≠ b) ∧ ∀ p ∈ X.pn ++ pins, p.1 ≠ b := fun b hb => ⟨(f3 b hb).1.2.2.2.1, (f3 b hb).1.2.1, (f3 b hb).1.2.2.2.2.1, (f3 b hb).1.2.2.2.2.2⟩
  have loop : codeAny (model X.prog X.w) X.A (.compLoop (.ListComp elt [⟨tg, iter, ifs, 0⟩] scope pos) 0 (.ref it) (.ref D) ce) (compEnds (model X.prog X.w) X.A X.xe none (EP X pins σ Q) (.ref D) ce) s4 := by
    refine compLoop_any (fun n s' => ∃ i H', Inv (X.blk s3 H3 scope ce fp) [] (wipe σ (own.map (·.2))) H' s' ∧ tn i s'.heap ∧ (∀ b ∈ fp, H' b = none) ∧ Wm i n H') ?_ m0 ⟨0, H3, I4, st4, nfp, w0⟩
    rintro n s5 ⟨i, H5, I5, st5, n5, w5⟩
    rcases turn i n H5 w5 with ⟨stop, qq⟩ | ⟨go, Nx, hNx, step⟩
    · have td := T.done (X.blk s3 H3 scope ce fp) rfl rfl rfl hc i [] s5 _ H5 (fun _ _ => False) I5 (stat I5 n5) st5 stop
      refine thnF td fun r s6 ⟨hr, I6⟩ => ?_
      subst hr
      have I7 : Inv X pins σ H5 s6 := I3.call' (ch := fp) I6.os I6.base I6.hok I6.bare hchf
      have nC : H5 s3.heap.objs.size = none := by
        have z : H5 ce.locals = none := I6.free
        rw [cL] at z
        exact z
      obtain ⟨m, hn, _⟩ := I6.loc
      have hn : s6.heap.Ns ce.locals m := hn
      have f := I3.fpOk (Nat.le_refl _) nC
      obtain ⟨f0, f1, f2', f3', f4, f5⟩ := f
      refine ⟨m, hn, fun h'' sb => ?_⟩
      rw [cL] at sb
      exact ⟨.ref D, H5, I7.turned (t' := s6.toks) (fun b o hb e => (sb.2 b hb).trans e) f0 f1 f3' f4 f5, rfl, qq⟩
    · have ti := T.item (X.blk s3 H3 scope ce fp) rfl rfl rfl hc i [] s5 _ H5 (fun _ _ => False) I5 (stat I5 n5) st5 go
      refine thnF ti fun r s6 ⟨u, hr, h6⟩ => ?_
      subst hr
      refine thnF h6 fun _ s7 ⟨x, H7, I7, r7, y7, st7, n7⟩ => ?_
      have I7' := I7.pinned (stat I7 n7) (T.obj _ _ st7)
      refine thnF (pg.run _ s7 _ H7 x u _ I7' r7 (step x H7 y7)) fun _ s8 ⟨σ8, H8, I8, hw8, q8⟩ => ?_
      refine thnF (pt.run _ s8 σ8 H8 _ I8 q8) fun b s9 ⟨H9, I9, q9⟩ => ?_
      have fin : ∀ {s' : Shared} {H' : Hp}, Inv (X.blk s3 H3 scope ce fp) ([] ++ pinsAt fp s7.heap) σ8 H' s' → Nx H' → ∃ m, m < n ∧ ∃ i H', Inv (X.blk s3 H3 scope ce fp) [] (wipe σ (own.map (·.2))) H' s' ∧ tn i s'.heap ∧ (∀ b ∈ fp, H' b = none) ∧ Wm i m H' := fun {s' H'} I' nx => by
        obtain ⟨m', hm, w'⟩ := hNx H' nx
        have pin' : ∀ b ∈ fp, ∀ o, s7.heap.get? b = some o → s'.heap.get? b = some o ∧ H' b = none := fun b hb o e =>
          let z := I'.pin (b, o) (List.mem_append_right _ (List.mem_append_right _ (mem_pinsAt hb e)))
          ⟨z.1, z.2.1⟩
        have hl : (wipe σ (own.map (·.2))).length = σ8.length := by rw [← hw8, wipe_length]
        refine ⟨m', hm, i + 1, H', (I'.unpinned (pins := [])).weak hl (fun j v e => ?_), T.keep _ _ _ st7 fun b hb o e => (pin' b hb o e).1, fun b hb => ?_, w'⟩
        · rw [← hw8] at e
          exact (wipe_some e).1
        · obtain ⟨o, e, _⟩ := T.obj _ _ st7 b hb
          exact (pin' b hb o e).2
      cases b with
      | false =>
        simp only [Bool.false_eq_true, if_false] at q9 ⊢
        exact fin I9 q9
      | true =>
        simp only [if_true] at q9 ⊢
        have okB := I9.ok
        have pe9 := pe (fun cls d _ H' => W cls d σ H') ((X.blk s3 H3 scope ce fp).pn ++ ([] ++ pinsAt fp s7.heap)) (notedBy (model X.prog X.w) X.A ce (CompFails (model X.prog X.w) X.A X.xe ce)) (fun u s' fl => fly_out I3 hst hfm tk cL cF0 hchf fl)
        refine wpAny_mono (pe9.run [] s9 σ8 H9 _ (I9.toTry _) q9) (fun z s10 ⟨yv, H10, I10, r10, acc, hD10, hz10, nx⟩ => ?_) fun _ _ e => e
        exact L2.app_ok (X := X.blk s3 H3 scope ce fp) (I10.ofTry okB) hD10 hz10 r10 fun s11 I11 => fin I11 nx
  exact codeAny_compStart_list loop (T.self X.A 0 _ _ _ st4 loop)
end
def Cd.wxb (C : Cd) (cls : Str → Addr) (Wb : WX) : Cd := { C with XW := fun c σ H => Wb (.ref (cls c)) none σ H }
section
variable {X : Cx} {C : Cd} {W : WX} {f : En → R D} {e elt tg iter : Expr} {pos : Pos}
theorem Rel.wxb {cls : Str → Addr} {Wb : WX} {ρ : En} {σ : L2.St} {F H : Hp} (r : Rel C ρ σ F H) : Rel (C.wxb cls Wb) ρ σ F H := ⟨r.ext, r.sub, r.len, r.slot, r.ownF, r.apartF, r.lend, r.wok⟩
theorem Rel.nox_wxb {cls : Str → Addr} {Wb : WX} {ρ : En} {σ : L2.St} {F H : Hp} (r : Rel C.nox ρ σ F H) : Rel (C.wxb cls Wb) ρ σ F H := ⟨r.ext, r.sub, r.len, r.slot, r.ownF, r.apartF, r.lend, r.wok⟩
def lcXGo (g : D → En → Option En) (f : En → R D) (ρ : En) : List D → R (List D)
  | [] => .ok []
  | d :: ds => match g d ρ with
    | none => .bad
    | some ρ1 => bd (f ρ1) fun z => bd (lcXGo g f ρ ds) fun zs => .ok (z :: zs)
def lcX (own : List Nat) (fi : En → R (List D)) (g : D → En → Option En) (f : En → R D) : En → R D := fun ρ => bd (fi ρ) fun ds =>
  grd (decide (ds.length < sizeLine)) (bd (lcXGo g f (wipeR ρ own) ds) fun zs => .ok (.lst zs))
theorem lc_okX {cls : Str → Addr} {st : Bool} {fi : En → R (List D)} {gg : D → En → Option En} {own : List Nat} (hln : (own.all fun v => (C.ln v).isNone) = true) (hout : ∀ c σ H, C.XW c σ H → W (.ref (cls c)) none σ H) : ∀ σ H Q, tO C (lcX own fi gg f) σ H Q → tLcX (tI C st fi) (tG C.nox own gg) (tT C.nox tYesD) (fun Wb => tE (C.wxb cls Wb) f) own W σ H Q := by
  rintro σ H Q ⟨ρ, F, r, q⟩
  refine ⟨ρ, F, r, ?_⟩
  unfold lcX at q
  cases hfi : fi ρ with
  | bad => rw [hfi] at q; exact q
  | err c => rw [hfi] at q; exact q
  | ok ds =>
    rw [hfi, bd_ok] at q
    intro J F1 H1 x1 s1 it
    replace it : IterOk C.K J H1 F1 ds := by
      cases st with
      | true => rw [if_pos rfl] at it; exact it.base (jn_in s1 (r.ext.h.trans x1.h))
      | false => rw [if_neg Bool.false_ne_true] at it; exact it
    obtain ⟨z, q⟩ := grd_out q
    have z := of_decide_eq_true z
    intro D hD
    have q := Out.later q x1
    have r1 := r.grow x1 s1
    have d0 : C.H0 D = none := r1.ext.h.free hD
    have fd : F1 D = none := s1.free hD
    have ap : ∀ H', Same H1 H' → ∀ (j : Nat) (e : DL.D) (b : Addr), ρ[j]? = some (some (true, e)) → σ[j]? = some (some (.ref b)) → D ∉ foot H' b e := fun H' s' j e b h1 h2 h3 => by
      obtain ⟨a, q1, _, _, o⟩ := r1.ownF j e h1
      rw [h2] at q1
      cases q1
      rw [foot_grow s' o] at h3
      obtain ⟨u, hu⟩ := o.foot D h3
      rw [hD] at hu
      cases hu
    -- what is wished of the rest
    let Want : List DL.D → List DL.D → Prop := fun zs rest => Out C σ F1 H1 (fun F' H' => New C.K H F' H') (bd (lcXGo gg f (wipeR ρ own) rest) fun ws => .ok (.lst (zs ++ ws))) Q
    have q0 : Want [] ds := q
    refine ⟨fun i m H => m = ds.length - i ∧ i ≤ ds.length ∧ ∃ F2 acc zs, Rel C ρ σ F2 H ∧ Ext F1 H1 F2 H ∧ F2 D = none ∧ H D = some (.lst acc) ∧ Reps C.K F2 zs acc ∧ zs.length ≤ i ∧ Want zs (ds.drop i),
      ⟨_, rfl, Nat.zero_le _, F1, [], [], r1.other fd d0 (ap H1 (Same.refl _)), Ext.heap (same_upd hD), fd, upd_same, .nil, Nat.zero_le _, q0⟩, ?_⟩
    rintro i m H2 ⟨rfl, hi, F2, acc, zs, r2, x2, f2, h2, rz, lz, hw⟩
    obtain ⟨it1, it2⟩ := it i F2 H2 x2.h x2.f r2.sub
    by_cases hlt : i < ds.length
    · obtain ⟨go, y⟩ := it1 hlt
      have e : ds.drop i = ds[i] :: ds.drop (i + 1) := List.drop_eq_getElem_cons hlt
      rw [e] at hw
      refine .inr ⟨go, fun H => ∃ F2 acc zs, Rel C ρ σ F2 H ∧ Ext F1 H1 F2 H ∧ F2 D = none ∧ H D = some (.lst acc) ∧ Reps C.K F2 zs acc ∧ zs.length ≤ i + 1 ∧ Want zs (ds.drop (i + 1)),
        fun H' p => ⟨_, by omega, rfl, hlt, p⟩, fun v H3 yy => ?_⟩
      obtain ⟨F3, d, hd, x3, s3, w3⟩ := y v H3 yy
      rw [List.getElem?_eq_getElem hlt] at hd
      cases hd
      have r3 := r2.grow x3 s3
      refine ⟨wipeR ρ own, F3, ds[i], (r3.nox).wipe own hln, w3, ?_⟩
      have hw : Out C σ F1 H1 (fun F' H' => New C.K H F' H') (bd (match gg ds[i] (wipeR ρ own) with | none => .bad | some ρ1 => bd (f ρ1) fun z => bd (lcXGo gg f (wipeR ρ own) (ds.drop (i + 1))) fun zs => .ok (z :: zs)) fun ws => .ok (.lst (zs ++ ws))) Q := hw
      cases hgg : gg ds[i] (wipeR ρ own) with
      | none => rw [hgg] at hw; exact hw.elim
      | some ρ1 =>
        rw [hgg] at hw
        intro σ4 e4 r4
        refine ⟨e4.trans (wipe_wipe own own σ fun _ h => h), ρ1, F3, r4, ?_⟩
        intro F5 H5 x5 s5
        have x35 := x3.trans x5
        have hD5 : H5 D = some (.lst acc) := x35.h _ _ h2
        have fD5 : F5 D = none := x35.keepN h2 f2
        rw [if_pos rfl]
        refine ⟨ρ1, F5, (r4.grow x5 s5).nox_wxb, ?_⟩
        dsimp only at hw
        have hw : Out C σ F1 H1 (fun F' H' => New C.K H F' H') (bd (bd (f ρ1) fun z => bd (lcXGo gg f (wipeR ρ own) (ds.drop (i + 1))) fun zs => .ok (z :: zs)) fun ws => .ok (.lst (zs ++ ws))) Q := hw
        cases hf : f ρ1 with
        | bad => rw [hf] at hw; exact hw.elim
        | err c =>
          rw [hf] at hw
          intro F6 H6 x6 s6
          have x26 := x35.trans x6
          exact hout c σ H6 (hw F6 H6 (x2.trans x26) s6)
        | ok zz =>
          rw [hf] at hw
          intro yv F6 H6 x6 s6 w6
          have x26 := x35.trans x6
          have hD6 : H6 D = some (.lst acc) := x26.h _ _ h2
          have fD6 : F6 D = none := x26.keepN h2 f2
          refine ⟨acc, hD6, by rw [rz.length]; omega, F6, acc ++ [yv], zs ++ [zz], ((r3.grow x5 s5).grow x6 s6).other fD6 d0 (ap H6 (x2.trans x26).h), ?_, fD6, upd_same, (rz.mono x26.f).append (.cons w6 .nil), by rw [List.length_append]; exact Nat.succ_le_succ lz, ?_⟩
          · have x16 := x2.trans x26
            exact ⟨x16.f, fun b u h => by rw [upd_ne (ne_of_none h hD)]; exact x16.h b u h, x16.n⟩
          · show Out C σ F1 H1 _ (bd (lcXGo gg f (wipeR ρ own) (ds.drop (i + 1))) fun ws => .ok (.lst ((zs ++ [zz]) ++ ws))) Q
            cases hgo : lcXGo gg f (wipeR ρ own) (ds.drop (i + 1)) with
            | bad => rw [hgo] at hw; exact hw.elim
            | err c => rw [hgo] at hw; exact hw
            | ok ws =>
              rw [hgo] at hw
              show Out C σ F1 H1 _ (.ok (.lst ((zs ++ [zz]) ++ ws))) Q
              rw [List.append_assoc]
              exact hw
    · have e : i = ds.length := by omega
      subst e
      rw [List.drop_length] at hw
      have hw : Out C σ F1 H1 (fun F' H' => New C.K H F' H') (.ok (.lst (zs ++ []))) Q := hw
      rw [List.append_nil] at hw
      refine .inl ⟨it2 rfl, hw (.ref D) F2 H2 x2 r2.sub ⟨D, rfl, x1.h.free hD, f2, acc, h2, rz⟩⟩
theorem d_lcX {cls : Str → Addr} {st : Bool} {scope : Scope} {own : List (Str × Nat)} {fi : En → R (List D)} {gg : D → En → Option En} (hc : X.calm = true) (hN : X.N.Nodup) (hst : X.stack = X.env :: X.outer) (hfm : X.env.frame = some X.env.locals) (tk : Takes X W) (hout : ∀ c σ H, C.XW c σ H → W (.ref (cls c)) none σ H) (hi : PI X tg iter (tI C st fi)) (ok : BlkOk X.N X.env.scope scope own)
    (hg : ∀ (s : Shared) (H : Hp) (A : Addr) (cl : List (Str × Addr)) (fp : List Addr), PG (X.blk s H scope (compEnvC scope cl A X.env) fp) tg (tG C.nox (own.map (·.2)) gg))
    (he : ∀ (Wb : WX) (s : Shared) (H : Hp) (A : Addr) (cl : List (Str × Addr)) (fp : List Addr) (pn : List (Addr × Obj)) (xe : Value → Shared → Prop), Takes ((X.blk s H scope (compEnvC scope cl A X.env) fp).tr pn xe) Wb → PE ((X.blk s H scope (compEnvC scope cl A X.env) fp).tr pn xe) elt (tE (C.wxb cls Wb) f)) (hs : ∀ x, foldedSetIterable iter X.env x = pure x := by intro _; rfl) (hw : ((own.map (·.2)).all fun v => (C.ln v).isNone) = true := by rfl) :
    PE X (.ListComp elt [⟨tg, iter, [], 0⟩] scope pos) (tO C (lcX (own.map (·.2)) fi gg f)) :=
  (pe_lcX (W := W) hc hN hst hfm tk hi ok hg (fun _ _ _ _ _ => ts_nil) he hs).mono (lc_okX hw hout)
end
def lcXK (x : R (List D)) (own : List Nat) (g : D → En → Option En) (f : En → R D) (ρ : En) : R D := bd x fun ds => grd (decide (ds.length < sizeLine)) (bd (lcXGo g f (wipeR ρ own) ds) fun zs => .ok (.lst zs))
theorem ap_lcX {own : List Nat} {fi : En → R (List D)} {g : D → En → Option En} {f : En → R D} {ρ : En} : lcX own fi g f ρ = lcXK (fi ρ) own g f ρ := rfl
theorem lcX_ok {α : Type} {i : Nat} {f : En → R D} {ρ : En} (F G : α → D) : ∀ (xs : List α), (∀ a ∈ xs, f ((wipeR ρ [i]).set i (some (false, F a))) = .ok (G a)) → lcXGo (gSet i) f (wipeR ρ [i]) (xs.map F) = .ok (xs.map G)
  | [], _ => rfl
  | a :: xs, h => by
    rw [List.map_cons]
    unfold lcXGo
    show bd (f ((wipeR ρ [i]).set i (some (false, F a)))) _ = _
    rw [h a List.mem_cons_self, bd_ok, lcX_ok F G xs fun b hb => h b (List.mem_cons_of_mem _ hb)]
    rfl
theorem lcX_err {α : Type} {i : Nat} {f : En → R D} {ρ : En} {c : Str} (F G : α → D) (p : α → Bool) : ∀ (xs : List α), (∀ a ∈ xs, p a = true → f ((wipeR ρ [i]).set i (some (false, F a))) = .ok (G a)) → (∀ a ∈ xs, p a = false → f ((wipeR ρ [i]).set i (some (false, F a))) = .err c) → xs.all p = false → lcXGo (gSet i) f (wipeR ρ [i]) (xs.map F) = .err c
  | [], _, _, h => by cases h
  | a :: xs, h, h2, h3 => by
    rw [List.map_cons]
    unfold lcXGo
    show bd (f ((wipeR ρ [i]).set i (some (false, F a)))) _ = _
    cases hp : p a with
    | false => rw [h2 a List.mem_cons_self hp]; rfl
    | true =>
      rw [List.all_cons, hp, Bool.true_and] at h3
      rw [h a List.mem_cons_self hp, bd_ok, lcX_err F G p xs (fun b hb => h b (List.mem_cons_of_mem _ hb)) (fun b hb => h2 b (List.mem_cons_of_mem _ hb)) h3]
      rfl
theorem lcXK_of {own : List Nat} {g : D → En → Option En} {f : En → R D} {ρ : En} {ds zs : List D} (hl : ds.length ≤ 1000000) (h : lcXGo g f (wipeR ρ own) ds = .ok zs) : lcXK (.ok ds) own g f ρ = .ok (.lst zs) := by
  unfold lcXK
  rw [bd_ok, show decide (ds.length < sizeLine) = true from decide_eq_true (Nat.lt_of_le_of_lt hl (by decide)), grd_t, h]
  rfl
theorem lcXK_err {own : List Nat} {g : D → En → Option En} {f : En → R D} {ρ : En} {ds : List D} {c : Str} (hl : ds.length ≤ 1000000) (h : lcXGo g f (wipeR ρ own) ds = .err c) : lcXK (.ok ds) own g f ρ = .err c := by
  unfold lcXK
  rw [bd_ok, show decide (ds.length < sizeLine) = true from decide_eq_true (Nat.lt_of_le_of_lt hl (by decide)), grd_t, h]
  rfl
end DL
namespace DL
open PySem PySem.Spec PyProof.Rows L2
def keysT (ss : List Str) : Key → Bool
  | .inr x => decide (x ∈ ss)
  | .inl _ => false
def uT (ns : List Str) : List Str := ns.foldl (fun l n => if n ∈ l then l else l ++ [n]) []
theorem uT_snoc (l : List Str) (x : Str) : uT (l ++ [x]) = if x ∈ uT l then uT l else uT l ++ [x] := by
  unfold uT
  rw [List.foldl_append]; rfl
theorem uT_go : ∀ (l acc : List Str), (l.foldl (fun l n => if n ∈ l then l else l ++ [n]) acc).length ≤ acc.length + l.length
  | [], acc => Nat.le_refl _
  | x :: l, acc => by
    rw [List.foldl_cons]
    have := uT_go l (if x ∈ acc then acc else acc ++ [x])
    have h2 : (if x ∈ acc then acc else acc ++ [x]).length ≤ acc.length + 1 := by
      split
      · omega
      · rw [List.length_append, List.length_singleton]; exact Nat.le_refl _
    rw [List.length_cons]
    omega
theorem uT_len (l : List Str) : (uT l).length ≤ l.length := by
  have := uT_go l []
  rw [List.length_nil] at this
  unfold uT
  omega
theorem mem_uT : ∀ {n : Nat} {l : List Str} {x : Str}, l.length = n → (x ∈ uT l ↔ x ∈ l)
  | 0, l, x, h => by rw [List.length_eq_zero_iff.mp h]; exact Iff.rfl
  | n + 1, l, x, h => by
    have hne : l ≠ [] := fun z => by rw [z] at h; cases h
    have e := List.dropLast_concat_getLast hne
    have ih := mem_uT (n := n) (l := l.dropLast) (by rw [List.length_dropLast]; omega) (x := x)
    have ih2 := mem_uT (n := n) (l := l.dropLast) (by rw [List.length_dropLast]; omega) (x := l.getLast hne)
    rw [← e, uT_snoc, List.mem_append, List.mem_singleton]
    split
    · rename_i hm
      rw [ih]
      exact ⟨.inl, fun h => h.elim id fun z => z ▸ ih2.mp hm⟩
    · rw [List.mem_append, List.mem_singleton, ih]
theorem strs_len : ∀ {us : List Value} {ss : List Str}, StrsAre us ss → us.length = ss.length
  | _, _, .nil => rfl
  | _, _, .cons _ _ h => congrArg (· + 1) (strs_len h)
theorem strs_get : ∀ {us : List Value} {ss : List Str} {i : Nat} {v : Value}, StrsAre us ss → us[i]? = some v → ∃ k t, ss[i]? = some k ∧ v = .str k t
  | _, _, _, _, .nil, h => by simp at h
  | _, _, 0, _, .cons y t _, h => by cases h; exact ⟨y, t, rfl, rfl⟩
  | _, _, i + 1, _, .cons _ _ r, h => strs_get (i := i) r h
section
variable {P : Program} {w : World} {A : Around} {E : Value → Shared → Prop} {s : Shared}
theorem setOfAt {h h' : Heap} {a : Addr} {S : Key → Bool} {n : Nat} (R : h.SetOf (mixKind P w) a S n) (k : ∀ o, h.get? a = some o → h'.get? a = some o) : h'.SetOf (mixKind P w) a S n := by
  obtain ⟨o, es, ep, t, ho, r⟩ := R
  exact ⟨o, es, ep, t, k o ho, r⟩
theorem setT_new {h : Heap} {a : Addr} (e : h.get? a = some (set0 w)) : h.SetOf (mixKind P w) a (keysT []) (uT []).length := by
  have : keysT [] = fun _ => false := by funext k; cases k <;> rfl
  rw [this]
  exact ⟨_, #[], 0, _, e, ⟨rfl, rfl, rfl⟩, rfl, (fun e he => by simp at he), (fun k => by simp), (by decide), (by rfl), rfl⟩
theorem set_update_strs {I : Addr} {fp wr : List Addr} {G : Array GenState → Array GenState → Prop} {n : Nat} {Pv : Nat → Value → Prop} {St : Nat → Shared → Prop} {R : Result → Shared → Prop}
    (W : WalksS P w A.in1 I fp wr G n Pv St) (S : Addr) (hSf : S ∉ fp) (ns : List Str) (hn : n = ns.length) (hb : ns.length + 1 < scanBound) (hval : ∀ i v, Pv i v → ∃ k t, ns[i]? = some k ∧ v = .str k t) :
    ∀ (k i : Nat) (s : Shared), n - i = k → i ≤ n → St i s → (s.heap.SetOf (mixKind P w) S (keysT (ns.take i)) (uT (ns.take i)).length) →
      (∀ s' c, Moved (S :: wr) G s s' → c = (uT ns).length → s'.heap.SetOf (mixKind P w) S (keysT ns) c → R (.ok (.ret .none)) s') →
      codeAny (model P w) A (.builtin "set.update.loop" ⟨[.ref S, .ref I], []⟩) R s := by
  have hSw : S ∉ wr := fun h => hSf (W.sub _ h)
  have hsub : ∀ b ∈ wr, b ∈ S :: wr := fun b hb => List.mem_cons_of_mem _ hb
  intro k
  induction k with
  | zero =>
    intro i s hk' hi hst hS hR
    have hin : i = n := by omega
    subst hin
    refine codeAny_builtin F.entry_set_update_loop ?_
    rw [Around.under_plainId F.plain_set_update_loop _]
    show wpAny _ A.in1 (pyNext (.ref I) >>= _) _ _ s
    refine wpAny_bind (W.done s _ _ hst fun s' hm => ?_)
    show wpAny _ A.in1 (ret Value.none) _ _ s'
    have e : ns.take i = ns := List.take_of_length_le (by omega)
    rw [e] at hS
    exact wpAny_pure (hR s' _ (hm.mono hsub) rfl (setOfAt hS fun o e => hm.heap S o hSw e))
  | succ k ih =>
    intro i s hk' hi hst hS hR
    have hlt : i < n := by omega
    refine codeAny_builtin F.entry_set_update_loop ?_
    rw [Around.under_plainId F.plain_set_update_loop _]
    show wpAny _ A.in1 (pyNext (.ref I) >>= _) _ _ s
    refine wpAny_bind (W.item i s _ _ hlt hst fun v s' hP hst' hm => ?_)
    obtain ⟨z, t, hz, rfl⟩ := hval i v hP
    have hS' : s'.heap.SetOf (mixKind P w) S (keysT (ns.take i)) (uT (ns.take i)).length := setOfAt hS fun o e => hm.heap S o hSw e
    show wpAny _ A.in1 (holding [Value.str z t] (setAdd S (.str z t)) >>= _) _ _ s'
    refine wpAny_bind (wpAny_holding ?_)
    unfold setAdd
    refine wpAny_holding ?_
    have hkey : (mixKind P w).is (.inr z) (.str z t) = true := mixKind_str P w z t
    refine wpAny_bind ((mixKind P w).pyHash hkey ?_)
    have hul : ∀ m, (uT (ns.take m)).length ≤ ns.length := fun m => by
      have h1 := uT_len (ns.take m)
      have h2 := List.length_take_le' m ns
      omega
    refine wpAny_setAddHashed_of (s := { s' with toks := s'.toks + 1 }) hkey rfl hS' (by have := hul i; omega) fun h' hsb hS2 => ?_
    have ht : ns.take (i + 1) = ns.take i ++ [z] := by rw [List.take_add_one, hz]; rfl
    have hS3 : h'.SetOf (mixKind P w) S (keysT (ns.take (i + 1))) (uT (ns.take (i + 1))).length := by
      have e1 : (fun k' => keysT (ns.take i) k' || decide (k' = (.inr z : Key))) = keysT (ns.take (i + 1)) := by
        funext k'
        rw [ht]
        cases k' with
        | inl m => rfl
        | inr x =>
          show (decide (x ∈ ns.take i) || decide ((Sum.inr x : Key) = .inr z)) = decide (x ∈ ns.take i ++ [z])
          rw [Bool.eq_iff_iff, Bool.or_eq_true, decide_eq_true_eq, decide_eq_true_eq, decide_eq_true_eq, List.mem_append, List.mem_singleton]
          exact ⟨fun h => h.imp id fun z => by injection z, fun h => h.imp id fun z => by rw [z]⟩
      have e2 : (if keysT (ns.take i) (.inr z) = true then (uT (ns.take i)).length else (uT (ns.take i)).length + 1) = (uT (ns.take (i + 1))).length := by
        rw [ht, uT_snoc]
        show (if decide (z ∈ ns.take i) = true then _ else _) = _
        by_cases hm : z ∈ ns.take i
        · rw [decide_eq_true hm, if_pos rfl, if_pos ((mem_uT rfl).mpr hm)]
        · rw [decide_eq_false hm, if_neg Bool.false_ne_true, if_neg fun h => hm ((mem_uT rfl).mp h), List.length_append, List.length_singleton]
      rw [← e1, ← e2]
      exact hS2
    refine wpAny_pure ⟨plainId_quiet F.plain_set_update_loop _, ih (i + 1) _ (by omega) hlt (W.frame _ s' _ _ hst' (Nat.le_succ _) fun b hb o e => ?_) hS3 fun s'' c2 hm'' hc'' hS'' => ?_⟩
    · rw [hsb.2 b (fun h : b = S => hSf (by rw [← h]; exact hb))]; exact e
    · refine hR s'' c2 (Moved.trans W.gtrans ((hm.mono hsub).then_heap (Nat.le_succ _) fun b o hb e => ?_) hm'') hc'' hS''
      rw [hsb.2 b (fun h : b = S => hb (by rw [h]; exact List.mem_cons_self))]; exact e
end
section
variable {P : Program} {w : World} {A : Around} {E : Value → Shared → Prop} {s : Shared}
set_option maxHeartbeats 3200000 in
theorem set_of_strs {l : Addr} {its : Array Value} (ns : List Str) {Q : Value → Shared → Prop} (calm : A.handled = none) (isl : s.heap.IsList l its) (ari : StrsAre its.toList ns) (few : ns.length + 1 < scanBound)
    (wish : ∀ (h' : Heap) (tk c : Nat), h'.SetOf (mixKind P w) s.heap.objs.size (keysT ns) c → c = (uT ns).length → (∀ b o, s.heap.get? b = some o → h'.get? b = some o) → Q (.ref s.heap.objs.size) { s with heap := h', toks := tk }) :
    wpAny (model P w) A (call (.type "set") [.ref l]) Q E s := by
  have sz : its.size = ns.length := by have q := strs_len ari; rwa [Array.length_toList] at q
  obtain ⟨_, _, q1⟩ := F.called_set.mro
  have q2 := F.called_set.made
  have q3 := F.called_set.sub
  refine wpAny_call (codeAny_of_tree ?_)
  show wpAny _ _ (callAny (.type "set") _) _ _ _
  refine wpAny_pure ⟨Code.quiet_builtin _ (by decide +kernel), codeAny_builtin F.entry_type_call ?_⟩
  rw [Around.under_plain (weight_type_call_type "set" [.ref l] []) rfl]
  have q4 := F.called_set.notType
  have q5 := F.called_set.canCreate
  have q6 := F.typeCall_set_1 (.ref l)
  repeat (any_goals (first | assumption | wp_step))
  refine codeAny_mono (code_set_led1 (.ref l) (E := E) (Q₁ := fun x t => x = .ref s.heap.objs.size ∧ t = { s with heap := s.heap.push (set0 w) }) ⟨rfl, rfl⟩) fun r t hr => ?_
  cases r with
  | error e => exact hr
  | ok fl =>
    cases fl with
    | ret x =>
      obtain ⟨rfl, rfl⟩ := hr
      have g0 : (s.heap.push (set0 w)).get? s.heap.objs.size = some (set0 w) := Heap.get?_push_size _ rfl
      have ty : Shared.TypeIs { s with heap := s.heap.push (set0 w) } (.ref s.heap.objs.size) "set" := ⟨_, g0, rfl⟩
      have q7 := F.called_set.init.lookup
      have q8 := F.called_set.init.bind (.ref s.heap.objs.size)
      repeat (any_goals (first | assumption | wp_step))
      refine codeAny_mono (codeAny_call_builtin (R := wants (fun r t => r = .none ∧ ∃ h' tk c, t = { s with heap := h', toks := tk } ∧ h'.SetOf (mixKind P w) s.heap.objs.size (keysT ns) c ∧ c = (uT ns).length ∧ (∀ b o, s.heap.get? b = some o → h'.get? b = some o)) E)
        F.called_set.init.plain F.entry_set_init (check_set_init_1 ty ?_)) fun r₂ t₂ hr₂ => ?_
      · obtain ⟨ol, e0, e1, nl, e2⟩ := isl
        obtain ⟨oc, od, oa, os⟩ := ol
        simp only at e1 e2
        subst e1; subst e2
        have e0' : (s.heap.push (set0 w)).get? l = some { cls := .type "list", dict := od, data := .seq its nl, slots := os } := Heap.get?_push_of_some _ e0
        have z1 := F.sub_list_set
        have z2 := F.sub_list_frozenset
        have z3 : (Value.type "list" == Value.type "dict") = false := by decide
        have lst : (s.heap.push (set0 w)).IsList l its := ⟨_, e0', rfl, nl, rfl⟩
        unfold Builtin.«set.__init__» noKeywords Builtin.Frozenset.updateFrom
        generalize hPI : pyIter = PI
        wp_walk
        subst hPI
        refine wpAny_pyIter_list lst ?_
        refine wpAny_bind (wpAny_runValue ?_)
        have lt : l < s.heap.objs.size := Heap.lt_size e0
        have cal3 : A.in1.in1.in1.handled = none := by simp [calm]
        have ne1 : l ≠ (s.heap.push (set0 w)).objs.size := by rw [Heap.size_push]; exact Nat.ne_of_lt (Nat.lt_succ_of_lt lt)
        have out : s.heap.objs.size ∉ [(s.heap.push (set0 w)).objs.size, l] := by
          rw [Heap.size_push]
          simp only [List.mem_cons, List.mem_singleton, List.not_mem_nil, or_false, not_or]
          exact ⟨Nat.ne_of_lt (Nat.lt_succ_self _), Nat.ne_of_gt lt⟩
        have val : ∀ (i : Nat) (v : Value), its[i]? = some v → ∃ k t, ns[i]? = some k ∧ v = .str k t := fun i v hv => strs_get ari (by rw [Array.getElem?_toList]; exact hv)
        refine set_update_strs ((Walks.list cal3 _ l ne1 its).toS) s.heap.objs.size out ns sz few val (its.size - 0) 0 _ (by omega) (Nat.zero_le _) ⟨⟨_, Heap.get?_push_size _ rfl, rfl, rfl⟩, (lst.push _)⟩
          (setT_new (Heap.get?_push_of_some _ g0)) ?_
        intro t' c' mv hc hS
        obtain ⟨h', g2, d', tk', os'⟩ := t'
        have u1 : g2 = s.gens := mv.gens
        have u2 : d' = s.drawn := mv.drawn
        have u3 : os' = s.os := mv.os
        subst u1; subst u2; subst u3
        show wpAny _ _ _ _ _ _
        refine wpAny_pure ?_
        show wpAny _ _ (ret Value.none) _ _ _
        refine wpAny_pure ⟨rfl, h', tk', c', rfl, hS, hc, fun b o e => ?_⟩
        have b0 : b < s.heap.objs.size := Heap.lt_size e
        refine mv.heap b o ?_ (Heap.get?_push_of_some _ (Heap.get?_push_of_some _ e))
        simp only [List.mem_cons, List.mem_singleton, List.not_mem_nil, or_false, not_or]
        exact ⟨Nat.ne_of_lt b0, by rw [Heap.size_push]; exact Nat.ne_of_lt (Nat.lt_succ_of_lt b0)⟩
      · cases r₂ with
        | error e => exact hr₂
        | ok fl₂ =>
          cases fl₂ with
          | ret r =>
            obtain ⟨rfl, h', tk, c', rfl, hS, hc, hk⟩ := hr₂
            repeat (any_goals (first | assumption | wp_step))
            exact wish _ _ _ hS hc hk
          | _ => exact hr₂.elim
    | _ => exact hr.elim
end
section
variable {X : Cx} {C : Cd} {e : Expr} {es : List Expr} {fs : En → R (List D)} {pos p p2 q : Pos}
def SetT (P : Program) (w : World) (a : Addr) (ss : List Str) : HO := .ext fun h => h.SetOf (mixKind P w) a (keysT ss) (uT ss).length
theorem setT_ok {w : World} {P : Program} {H : Hp} {h : Heap} {a : Addr} {ss : List Str} (R : h.SetOf (mixKind P w) a (keysT ss) (uT ss).length) : ObjOk P w H h a (SetT P w a ss) := by
  have ⟨o, _, _, _, ho, _⟩ := R
  exact ⟨R, ⟨o, ho⟩, fun h1 h2 p k => setOfAt p k⟩
def rSetT (P : Program) (K : PySem.W.Frag) (w : World) : List V → Hp → VK → Prop := fun xs H Q => ∃ (l : Addr) (ss : List Str), xs = [V.ref l] ∧ (SqL K H l (ss.map V.str)) ∧ ss.length ≤ 4000 ∧
  ∀ (p : Addr), H p = none → Q (.ref p) (upd H p (SetT P w p ss))
theorem strs_of : ∀ {ys : List Str} {us : List Value}, Vals (ys.map V.str) us → StrsAre us ys
  | [], _, .nil => .nil
  | y :: ys, _, .cons ⟨t, e⟩ h => by
    subst e
    exact .cons y t (strs_of h)
theorem cr_setT (hc : X.calm = true) : CallR X (.type "set") (rSetT X.prog X.K X.w) := by
  intro pins s σ H xs us Q I r h
  obtain ⟨l, ss, rfl, hq, hl, h⟩ := h
  obtain ⟨its, rv, pl, hz⟩ := I.list hq
  rw [Vals.ref1 r]
  refine set_of_strs ss (I.ok.hd hc) pl.isList (strs_of rv) (by unfold scanBound; omega) fun h' tk n hS hn hk => ?_
  have nf : H s.heap.objs.size = none := I.hok.fresh (Nat.le_refl _)
  subst hn
  exact ⟨.ref _, _, I.laid (a := s.heap.objs.size) (o := SetT X.prog X.w s.heap.objs.size ss) (t' := tk) hk (Nat.le_refl _) (setT_ok hS), rfl, h _ nf⟩
def rLenT (P : Program) (w : World) : List V → Hp → VK → Prop := fun vs H Q => ∃ (a : Addr) (ss : List Str), vs = [V.ref a] ∧ H a = some (SetT P w a ss) ∧ ss.length ≤ 4000 ∧ Q (.int (uT ss).length) H
theorem cr_lenT : CallR X (.builtin "len") (rLenT X.prog X.w) := by
  intro pins s σ H vs us Q I r h
  obtain ⟨a, ss, rfl, ha, hl, q⟩ := h
  have hS : s.heap.SetOf (mixKind X.prog X.w) a (keysT ss) (uT ss).length := (I.hok a _ ha).1
  rw [Vals.ref1 r]
  obtain ⟨o, es, ep, t, ho, hex, hd, _, _, hb, hf, hn⟩ := hS
  exact call_len_set ho hex hd hf (by rw [hn]; unfold scanBound at hb; omega) ⟨.int (uT ss).length, H, I.tok _, ⟨_, by rw [hn]⟩, q⟩
def lenT : List D → R D
  | [.lst ds] => match asStrs ds with
    | some ss => grd (decide (ss.length ≤ 4000)) (.ok (.int (uT ss).length))
    | none => .bad
  | _ => .bad
theorem lenT_ok {l : List Str} (h : l.length ≤ 4000) : lenT [.lst (l.map .str)] = .ok (.int (uT l).length) := by
  show (match asStrs (l.map .str) with | some ss => grd (decide (ss.length ≤ 4000)) (R.ok (D.int (uT ss).length)) | none => .bad) = _
  rw [asStrs_map]
  show grd (decide (l.length ≤ 4000)) _ = _
  rw [decide_eq_true h]; rfl
def setOfT : List D → R (List Str)
  | [.lst ds] => match asStrs ds with | some ss => grd (decide (ss.length ≤ 4000)) (.ok ss) | none => .bad
  | _ => .bad
theorem setOfT_ok {ds : List D} {ss : List Str} (h : setOfT ds = .ok ss) : ∃ es, ds = [.lst es] ∧ asStrs es = some ss ∧ ss.length ≤ 4000 := by
  match ds, h with
  | [.lst es], h =>
    have h' : (match asStrs es with | some ss => grd (decide (ss.length ≤ 4000)) (.ok ss) | none => .bad) = R.ok ss := h
    cases ha : asStrs es with
    | none => rw [ha] at h'; cases h'
    | some ms =>
      rw [ha] at h'
      cases hl : decide (ms.length ≤ 4000) with
      | false => simp only [hl, grd_f] at h'; cases h'
      | true =>
        simp only [hl, grd_t] at h'
        cases h'
        exact ⟨es, rfl, ha, of_decide_eq_true hl⟩
theorem setOfT_err {ds : List D} {c : Str} (h : setOfT ds = .err c) : False := by
  match ds, h with
  | [.lst es], h =>
    have h' : (match asStrs es with | some ss => grd (decide (ss.length ≤ 4000)) (.ok ss) | none => .bad) = R.err c := h
    cases ha : asStrs es with
    | none => rw [ha] at h'; cases h'
    | some ms =>
      rw [ha] at h'
      cases hl : decide (ms.length ≤ 4000) with
      | false => simp only [hl, grd_f] at h'; cases h'
      | true => simp only [hl, grd_t] at h'; cases h'
theorem lenT_eq {ds : List D} : lenT ds = bd (setOfT ds) fun ss => .ok (.int (uT ss).length) := by
  unfold lenT setOfT
  split
  · split
    · rename_i ss _
      cases hl : decide (ss.length ≤ 4000) <;> rfl
    · rfl
  · rfl
def tStT (C : Cd) (P : Program) (w : World) (fs : En → R (List D)) : TE := fun σ H Q => ∃ ρ F, Rel C ρ σ F H ∧ match bd (fs ρ) setOfT with
  | .ok ss => ∀ p F' H', Ext F H F' H' → Same F' H' → H' p = some (SetT P w p ss) → Q (.ref p) H'
  | .err c => ∀ F' H', Ext F H F' H' → Same F' H' → C.XW c σ H'
  | .bad => False
theorem d_setT (hc : X.calm = true) (hC : X.K = C.K.fr) (hm : X.mg "set" = none) (ha : PA X (e :: es) (tV C fs)) (hg : Gl X "set" := by rfl)
    (he : starEach (e :: es) X.env = (false, eval e X.env) :: starEach es X.env := by rfl) (hpl : (backTo pos (starEach es X.env)).any (·.1) = false := by rfl) : PE X (.Call (.Name "set" p) (e :: es) [] pos) (tStT C X.prog X.w fs) :=
  (pe_callTy (cr_setT hc) hg hm boot_set ha (by decide) (by decide) he hpl).mono (by
    rintro σ H Q ⟨ρ, F, rl, q⟩
    refine ⟨ρ, F, rl, ?_⟩
    cases hf : fs ρ with
    | bad => simp only [hf, bd_bad] at q
    | err c => simp only [hf, bd_err] at q; exact q
    | ok ds =>
      simp only [hf, bd_ok] at q
      intro v F1 H1 x1 s1 w1
      rw [hC]
      cases hs : setOfT ds with
      | bad => rw [hs] at q; exact q.elim
      | err c => exact (setOfT_err hs).elim
      | ok ns =>
        rw [hs] at q
        obtain ⟨es, rfl, hns, hl⟩ := setOfT_ok hs
        obtain ⟨v, rfl, l, vs, rfl, h1, r1⟩ := Views.one w1
        refine ⟨l, ns, rfl, by rw [← Reps.asStrs r1 hns]; exact SqL.of h1, hl, fun p hp => ?_⟩
        exact q p F1 _ (x1.trans (Ext.newH hp _)) (same_upd2 s1 (s1.free hp)) upd_same)
theorem d_lenSetT (hc : X.calm = true) (hC : X.K = C.K.fr) (hm : X.mg "len" = none) (hm2 : X.mg "set" = none) (ha : PA X (e :: es) (tV C fs)) (hg : Gl X "len" := by rfl) (hg2 : Gl X "set" := by rfl)
    (he2 : starEach (e :: es) X.env = (false, eval e X.env) :: starEach es X.env := by rfl) (hpl2 : (backTo q (starEach es X.env)).any (·.1) = false := by rfl)
    (he : starEach [.Call (.Name "set" p2) (e :: es) [] q] X.env = (false, eval (.Call (.Name "set" p2) (e :: es) [] q) X.env) :: starEach [] X.env := by rfl) (hpl : (backTo pos (starEach [] X.env)).any (·.1) = false := by rfl) :
    PE X (.Call (.Name "len" p) [.Call (.Name "set" p2) (e :: es) [] q] [] pos) (tO C (nop fs lenT)) :=
  (pe_callB cr_lenT hg hm boot_len (pa_cons (d_setT hc hC hm2 ha hg2 he2 hpl2) pa_nil he) (by decide) (by decide) he hpl).mono (by
    rintro σ H Q ⟨ρ, F, rl, o⟩
    refine ⟨ρ, F, rl, ?_⟩
    unfold nop at o
    cases hf : fs ρ with
    | bad => simp only [hf, bd_bad] at o; exact o.elim
    | err c => simp only [hf, bd_err] at o; exact o
    | ok ds =>
      simp only [hf, bd_ok] at o ⊢
      rw [lenT_eq] at o
      cases hs : setOfT ds with
      | bad => rw [hs] at o; exact o
      | err c => exact (setOfT_err hs).elim
      | ok ns =>
        rw [hs, bd_ok] at o
        intro pp F1 H1 x1 s1 hp
        obtain ⟨_, _, _, hl⟩ := setOfT_ok hs
        exact ⟨pp, ns, rfl, hp, hl, fin_flat (Out.later o x1) s1 rfl⟩)
end
end DL
namespace Fn
open PySem DL
def is_name_33f3_b1 : En → R Fl :=
  (sIf (tst (bop (rd 1) (cst (.str (Str.ofString "abcdefghijklmnopqrstuvwxyz"))) (dIn true))) (sRetO (cst (.bl false))) sSkip)
def is_name_33f3_g : En → R Fl :=
  (sSeq (sIf (bOr (bNot (tst (uop (rd 0) (isiD "str")))) (bNot (tst (eChain dLe dLe (cst (.int 1)) (nop (aCons (rd 0) aNil) dLen) (cst (.int 8)))))) (sRetO (cst (.bl false))) sSkip)
  (sSeq (sFor (itr (rdE 0)) (gSet 1) is_name_33f3_b1)
  (sRetO (cst (.bl true)))))
def is_name_33f3 : Den := bodyN 1 2 is_name_33f3_g
end Fn
namespace Fn
open PySem DL
def free_935b_b1 (ds : List D) : En → R Fl :=
  (sIf (bAnd (tst (bop (bop (rd 3) (cst (.int 1)) dIxA) (rdL ds 2) (dEq false))) (tst (bop (bop (rd 3) (cst (.int 0)) dIxA) (rdL ds 1) (dIn true)))) (sRetO (cst (.bl false))) sSkip)
def free_935b_g (ds : List D) : En → R Fl :=
  (sSeq (sFor (itr (rdL ds 0)) (gSet 3) (free_935b_b1 ds))
  (sRetO (cst (.bl true))))
def free_935b : Den := bodyV 3 4 free_935b_g
end Fn
namespace Fn
open PySem DL
def one_ahead_d424_b1 : En → R Fl :=
  (sIf (bAnd (tst (bop (bop (rd 3) (cst (.int 1)) dIxA) (rd 2) (dEq false))) (tst (bop (bop (rd 3) (cst (.int 0)) dIxA) (rd 1) (dIn false)))) (sRet (bop (rd 3) (cst (.int 0)) dIxA)) sSkip)
def one_ahead_d424_g : En → R Fl :=
  (sSeq (sFor (itr (rdE 0)) (gSet 3) one_ahead_d424_b1)
  (sRet (rdE 2)))
def one_ahead_d424 : Den := bodyN 3 4 one_ahead_d424_g
end Fn
namespace Fn
open PySem DL
def place_of_78d6_g : En → R Fl :=
  (sSeq (sIf (tst (bop (rd 0) (rd 1) (dIn true))) (sRaise (Str.ofString "NoText")) sSkip)
  (sRetO (idx (rd 1) (rd 0))))
def place_of_78d6 : Den := bodyD 2 2 place_of_78d6_g
end Fn
namespace Fn
open PySem DL
def law_cell_cb3a_g : En → R Fl :=
  (sSeq (sIf (tst (bop (rd 1) (nop (aCons (rd 0) aNil) dLen) dLt)) (sRet (bop (rd 0) (rd 1) dIxA)) sSkip)
  (sRetO (cst (.int 0))))
def law_cell_cb3a : Den := bodyN 2 2 law_cell_cb3a_g
end Fn
namespace Fn
open PySem DL
def law_entries_7bb9_b1 : En → R Fl :=
  (sSet 2 (bop (bop (bop (rd 2) (cst (.int 31)) dMul) (rd 3) dAdd) (cst (.int 2147483647)) dMod))
def law_entries_7bb9_b2 : En → R Fl :=
  (sSeq (sSet 2 (bop (bop (bop (bop (bop (rd 2) (rd 2) dMul) (bop (cst (.int 48271)) (rd 2) dMul) dAdd) (rd 5) dAdd) (cst (.int 7)) dAdd) (cst (.int 2147483647)) dMod))
  (sAppend 4 (rdE 2)))
def law_entries_7bb9_b3 : En → R Fl :=
  (sPut 4 (bop (rd 0) (rd 5) dIxA) (bop (bop (rd 5) (cst (.int 4)) dSub) (rd 1) dMod))
def law_entries_7bb9_g : En → R Fl :=
  (sSeq (sSet 2 (cst (.int 1)))
  (sSeq (sFor (itr (slc (rd 0) pNone (pSome (cst (.int 4))))) (gSet 3) law_entries_7bb9_b1)
  (sSeq (sSetO 4 (nop aNil mkLst))
  (sSeq (sFor (irg (aCons (rd 1) aNil) rng1) (gSet 5) law_entries_7bb9_b2)
  (sSeq (sFor (irg (aCons (cst (.int 4)) (aCons (nop (aCons (rd 0) aNil) dLen) aNil)) rng2) (gSet 5) law_entries_7bb9_b3)
  (sRetO (rdO 4)))))))
def law_entries_7bb9 : Den := bodyN 2 6 law_entries_7bb9_g
end Fn
namespace Fn
open PySem DL
def law_name_03ec_b1 : En → R Fl :=
  (sSeq (sIf (tst (bop (rd 8) (rd 5) (dEq false))) (sSet 7 (bop (rd 7) (bop (rd 3) (bop (bop (rd 6) (rd 1) dAdd) (cst (.int 26)) dMod) dIxA) dAdd)) (sSet 7 (bop (rd 7) (bop (rd 3) (bop (rd 6) (cst (.int 26)) dMod) dIxA) dAdd)))
  (sIf (tst (bop (bop (rd 0) (cst (.int 4)) dMod) (cst (.int 1)) dGt)) (sSet 6 (bop (rd 6) (cst (.int 26)) dDiv)) sSkip))
def law_name_03ec_g : En → R Fl :=
  (sSeq (sSet 3 (cst (.str (Str.ofString "abcdefghijklmnopqrstuvwxyz"))))
  (sSeq (sIf (bAnd (tst (bop (bop (rd 0) (cst (.int 4)) dMod) (cst (.int 1)) (dEq false))) (tst (eChain dLt dLt (cst (.int 0)) (nop (aCons (rd 2) aNil) dLen) (cst (.int 8))))) (sRetO (bop (rd 2) (bop (rd 3) (bop (bop (bop (rd 0) (cst (.int 4)) dDiv) (rd 1) dAdd) (cst (.int 26)) dMod) dIxA) dAdd)) sSkip)
  (sSeq (sIf (tst (bop (bop (rd 0) (cst (.int 16)) dMod) (cst (.int 6)) (dEq false))) (sSeq (sSet 9 (bop (nop (aCons (cst (.str (Str.ofString "steps"))) (aCons (cst (.str (Str.ofString "before"))) (aCons (cst (.str (Str.ofString "most"))) (aCons (cst (.str (Str.ofString "least"))) (aCons (cst (.str (Str.ofString "apart"))) (aCons (cst (.str (Str.ofString "same"))) aNil)))))) mkLst) (bop (bop (rd 0) (cst (.int 16)) dDiv) (cst (.int 6)) dMod) dIxA))
  (sRetO (bop (rd 9) (bop (rd 3) (bop (bop (bop (rd 0) (cst (.int 96)) dDiv) (rd 1) dAdd) (cst (.int 26)) dMod) dIxA) dAdd))) sSkip)
  (sSeq (sSet 4 (bop (cst (.int 1)) (bop (bop (rd 0) (cst (.int 4)) dDiv) (cst (.int 8)) dMod) dAdd))
  (sSeq (sSet 5 (bop (bop (rd 0) (cst (.int 32)) dDiv) (rd 4) dMod))
  (sSeq (sSet 6 (bop (bop (rd 0) (cst (.int 256)) dDiv) (bop (cst (.int 10)) (cst (.int 12)) dPow) dMod))
  (sSeq (sSet 7 (cst (.str (Str.ofString ""))))
  (sSeq (sFor (irg (aCons (rd 4) aNil) rng1) (gSet 8) law_name_03ec_b1)
  (sRet (rdE 7))))))))))
def law_name_03ec : Den := bodyN 3 10 law_name_03ec_g
end Fn
namespace Fn
open PySem DL
def law_part_16b1_e1 : En → R D :=
  (rdE 12)
def law_part_16b1_t2 : En → R Bool :=
  (bOr (tst (bop (rd 12) (rd 5) (dEq false))) (tst (bop (bop (bop (bop (rd 0) (cst (.int 1)) dIxA) (bop (rd 12) (cst (.int 3)) dAdd) dShr) (cst (.int 2)) dMod) (cst (.int 1)) (dEq false))))
def law_part_16b1_e3 : En → R D :=
  (bop (rd 1) (rd 12) dIxA)
def law_part_16b1_g : En → R Fl :=
  (sSeq (sSet 3 (nop (aCons (rd 1) aNil) dLen))
  (sSeq (sSet 4 (bop (bop (bop (rd 0) (cst (.int 0)) dIxA) (cst (.int 5)) dDiv) (rd 3) dMod))
  (sSeq (sSet 5 (bop (bop (rd 0) (cst (.int 1)) dIxA) (rd 3) dMod))
  (sSeq (sIf (bAnd (tst (bop (bop (bop (rd 0) (cst (.int 0)) dIxA) (cst (.int 5)) dMod) (cst (.int 0)) (dEq false))) (tst (bop (rd 4) (rd 5) (dEq true)))) (sSeq (sIf (tst (bop (bop (bop (rd 4) (rd 2) dMul) (cst (.int 7)) dMod) (bop (bop (rd 5) (rd 2) dMul) (cst (.int 7)) dMod) dGt)) (sUnp (nop (aCons (rdE 5) (aCons (rdE 4) aNil)) mkTup) (gSeqD 2 (gsCons (gSet 4) (gsCons (gSet 5) gsNil)))) sSkip)
  (sRetO (nop (aCons (bop (bop (bop (rd 1) (rd 4) dIxA) (cst (.str (Str.ofString " before "))) dAdd) (bop (rd 1) (rd 5) dIxA) dAdd) (aCons (nop (aCons (rdE 4) (aCons (rdE 5) aNil)) mkTup) (aCons (cst .non) aNil))) mkTup))) sSkip)
  (sSeq (sSet 6 (nop (aCons (nop (aCons (rdE 4) (aCons (rdE 5) aNil)) mkLst) aNil) dSorted))
  (sSeq (sIf (bAnd (tst (bop (bop (bop (rd 0) (cst (.int 0)) dIxA) (cst (.int 5)) dMod) (cst (.int 1)) (dEq false))) (tst (bop (rd 4) (rd 5) (dEq true)))) (sRetO (nop (aCons (bop (bop (bop (cst (.str (Str.ofString "apart "))) (bop (rd 1) (rd 4) dIxA) dAdd) (cst (.str (Str.ofString " "))) dAdd) (bop (rd 1) (rd 5) dIxA) dAdd) (aCons (cst .non) (aCons (nop (aCons (cst (.str (Str.ofString "least"))) (aCons (cst (.int 2)) (aCons (nop (aCons (rd 6) aNil) dTuple) aNil))) mkTup) aNil))) mkTup)) sSkip)
  (sSeq (sIf (bAnd (tst (bop (bop (bop (rd 0) (cst (.int 0)) dIxA) (cst (.int 5)) dMod) (cst (.int 2)) (dEq false))) (tst (bop (rd 4) (rd 5) (dEq true)))) (sRetO (nop (aCons (bop (bop (bop (cst (.str (Str.ofString "same "))) (bop (rd 1) (rd 4) dIxA) dAdd) (cst (.str (Str.ofString " "))) dAdd) (bop (rd 1) (rd 5) dIxA) dAdd) (aCons (cst .non) (aCons (nop (aCons (cst (.str (Str.ofString "most"))) (aCons (cst (.int 1)) (aCons (nop (aCons (rd 6) aNil) dTuple) aNil))) mkTup) aNil))) mkTup)) sSkip)
  (sSeq (sSet 6 (lcD [12] (irg (aCons (rd 3) aNil) rng1) (gSet 12) law_part_16b1_t2 law_part_16b1_e1))
  (sSeq (sSet 7 (bop (nop (aCons (cst (.str (Str.ofString "most"))) (aCons (cst (.str (Str.ofString "least"))) aNil)) mkLst) (bop (bop (bop (rd 0) (cst (.int 0)) dIxA) (cst (.int 30)) dDiv) (cst (.int 2)) dMod) dIxA))
  (sSeq (sSet 8 (bop (cst (.int 1)) (bop (bop (rd 0) (cst (.int 2)) dIxA) (cst (.int 6)) dMod) dAdd))
  (sSeq (sSet 9 (bop (bop (bop (rd 0) (cst (.int 2)) dIxA) (cst (.int 6)) dDiv) (nop (aCons (rd 6) aNil) dLen) dMod))
  (sSeq (sSet 10 (bop (slc (rd 6) (pSome (uop (rdE 9) flatO)) pNone) (slc (rd 6) pNone (pSome (uop (rdE 9) flatO))) dAdd))
  (sSeq (sIf (tst (bop (bop (bop (bop (rd 0) (cst (.int 2)) dIxA) (cst (.int 36)) dDiv) (cst (.int 2)) dMod) (cst (.int 1)) (dEq false))) (sSet 10 (uop (rd 10) dRevS)) sSkip)
  (sSeq (sSet 11 (jop (cst (.str (Str.ofString " "))) (bop (nop (aCons (rdE 7) (aCons (nop (aCons (rd 8) aNil) dStr) aNil)) mkLst) (lcD [12] (itr (rd 10)) (gSet 12) tYesD law_part_16b1_e3) dAdd)))
  (sRetO (nop (aCons (rdE 11) (aCons (cst .non) (aCons (nop (aCons (rdE 7) (aCons (rdE 8) (aCons (nop (aCons (rd 6) aNil) dTuple) aNil))) mkTup) aNil))) mkTup))))))))))))))))
def law_part_16b1 : Den := bodyN 3 13 law_part_16b1_g
end Fn
namespace Fn
open PySem DL
def law_text_8b1d_e1 : En → R D :=
  (bop (rd 2) (cst (.int 0)) dIxA)
def law_text_8b1d_g : En → R Fl :=
  (sRetO (jop (cst (.str (Str.ofString "; "))) (bop (nop (aCons (jop (cst (.str (Str.ofString " "))) (bop (nop (aCons (cst (.str (Str.ofString "steps"))) aNil) mkLst) (rd 0) dAdd)) aNil) mkLst) (lcD [2] (itr (rd 1)) (gSet 2) tYesD law_text_8b1d_e1) dAdd)))
def law_text_8b1d : Den := bodyN 2 3 law_text_8b1d_g
end Fn
namespace Fn
open PySem DL
def law_bad_part_a01f_g : En → R Fl :=
  (sSeq (sSet 3 (nop (aCons (bop (bop (rd 1) (cst (.str (Str.ofString " before "))) dAdd) (rd 0) dAdd) (aCons (bop (bop (rd 0) (cst (.str (Str.ofString " before "))) dAdd) (rd 1) dAdd) (aCons (bop (rd 0) (cst (.str (Str.ofString " before"))) dAdd) (aCons (bop (cst (.str (Str.ofString "before "))) (rd 0) dAdd) (aCons (bop (bop (bop (bop (rd 0) (cst (.str (Str.ofString " before "))) dAdd) (rd 0) dAdd) (cst (.str (Str.ofString " "))) dAdd) (rd 0) dAdd) aNil))))) mkLst))
  (sSeq (sSet 3 (bop (rd 3) (nop (aCons (bop (bop (rd 0) (cst (.str (Str.ofString " behind "))) dAdd) (rd 0) dAdd) (aCons (rdE 0) (aCons (bop (cst (.str (Str.ofString "most "))) (rd 0) dAdd) (aCons (cst (.str (Str.ofString "most 1"))) (aCons (bop (cst (.str (Str.ofString "most 0 "))) (rd 0) dAdd) (aCons (bop (cst (.str (Str.ofString "most 7 "))) (rd 0) dAdd) (aCons (bop (cst (.str (Str.ofString "least 1 "))) (rd 1) dAdd) aNil))))))) mkLst) dAdd))
  (sSeq (sSet 3 (bop (rd 3) (nop (aCons (bop (bop (bop (cst (.str (Str.ofString "most 1 "))) (rd 0) dAdd) (cst (.str (Str.ofString " "))) dAdd) (rd 0) dAdd) (aCons (bop (cst (.str (Str.ofString "least 12 "))) (rd 0) dAdd) (aCons (bop (cst (.str (Str.ofString "Most 1 "))) (rd 0) dAdd) (aCons (bop (cst (.str (Str.ofString "most 1  "))) (rd 0) dAdd) (aCons (bop (cst (.str (Str.ofString " most 1 "))) (rd 0) dAdd) aNil))))) mkLst) dAdd))
  (sSeq (sSet 3 (bop (rd 3) (nop (aCons (bop (bop (cst (.str (Str.ofString "most 1 "))) (rd 0) dAdd) (cst (.str (Str.ofString " "))) dAdd) (aCons (bop (bop (bop (cst (.str (Str.ofString "apart "))) (rd 0) dAdd) (cst (.str (Str.ofString " "))) dAdd) (rd 0) dAdd) (aCons (bop (cst (.str (Str.ofString "apart "))) (rd 0) dAdd) (aCons (bop (bop (bop (cst (.str (Str.ofString "same "))) (rd 0) dAdd) (cst (.str (Str.ofString " "))) dAdd) (rd 1) dAdd) (aCons (cst (.str (Str.ofString ""))) aNil))))) mkLst) dAdd))
  (sSeq (sSet 3 (bop (rd 3) (nop (aCons (bop (bop (bop (cst (.str (Str.ofString "same "))) (rd 0) dAdd) (cst (.str (Str.ofString " "))) dAdd) (rd 0) dAdd) (aCons (cst (.str (Str.ofString " "))) (aCons (bop (cst (.str (Str.ofString "steps "))) (rd 0) dAdd) (aCons (bop (cst (.str (Str.ofString "least +1 "))) (rd 0) dAdd) (aCons (bop (cst (.str (Str.ofString "most 1_ "))) (rd 0) dAdd) (aCons (bop (cst (.str (Str.ofString "most 1;"))) (rd 0) dAdd) aNil)))))) mkLst) dAdd))
  (sSeq (sSet 3 (bop (rd 3) (nop (aCons (bop (bop (bop (rd 0) (cst (.str (Str.ofString " before "))) dAdd) (rd 0) dAdd) (cst (.str (Str.ofString ";"))) dAdd) (aCons (bop (cst (.str (Str.ofString "most -1 "))) (rd 0) dAdd) (aCons (bop (cst (.str (Str.ofString "most 1"))) (rd 0) dAdd) (aCons (bop (bop (rd 0) (cst (.str (Str.ofString "  before "))) dAdd) (rd 0) dAdd) aNil)))) mkLst) dAdd))
  (sSeq (sSet 3 (bop (rd 3) (nop (aCons (bop (bop (bop (bop (bop (bop (rd 0) (cst (.str (Str.ofString " before "))) dAdd) (rd 0) dAdd) (cst (.str (Str.ofString "; "))) dAdd) (rd 0) dAdd) (cst (.str (Str.ofString " before "))) dAdd) (rd 0) dAdd) (aCons (jop (cst (.str (Str.ofString "; "))) (bop (nop (aCons (bop (cst (.str (Str.ofString "most 1 "))) (rd 0) dAdd) aNil) mkLst) (cst (.int 13)) dMul)) (aCons (cst (.str (Str.ofString "before"))) (aCons (cst (.str (Str.ofString "same"))) aNil)))) mkLst) dAdd))
  (sSeq (sSet 3 (bop (rd 3) (nop (aCons (bop (bop (bop (bop (bop (cst (.str (Str.ofString "apart "))) (rd 0) dAdd) (cst (.str (Str.ofString " "))) dAdd) (rd 0) dAdd) (cst (.str (Str.ofString " "))) dAdd) (rd 0) dAdd) (aCons (cst (.str (Str.ofString "most"))) (aCons (bop (bop (bop (cst (.str (Str.ofString "least 1 "))) (rd 0) dAdd) (cst (.str (Str.ofString " "))) dAdd) (rd 1) dAdd) (aCons (cst (.str (Str.ofString "most 6"))) (aCons (bop (cst (.str (Str.ofString "1 most "))) (rd 0) dAdd) aNil))))) mkLst) dAdd))
  (sRet (bop (rd 3) (bop (rd 2) (nop (aCons (rd 3) aNil) dLen) dMod) dIxA))))))))))
def law_bad_part_a01f : Den := bodyN 3 4 law_bad_part_a01f_g
end Fn
namespace Fn
open PySem DL
def next_free_7b8a_b1 (ds : List D) : En → R Fl :=
  (sIf (bAnd (tst (bop (rd 3) (rdL ds 2) (dIn true))) (tst (nop (aCons (rdL ds 1) (aCons (rdL ds 2) (aCons (rd 3) aNil))) (callO Fn.free_935b)))) (sRet (rdE 3)) sSkip)
def next_free_7b8a_g (ds : List D) : En → R Fl :=
  (sSeq (sFor (irg (aCons (rdL ds 0) aNil) rng1) (gSet 3) (next_free_7b8a_b1 ds))
  (sRetO (cst .non)))
def next_free_7b8a : Den := bodyV 3 4 next_free_7b8a_g
end Fn
namespace Fn
open PySem DL
def acts_of_9cd3_b1 : En → R Fl :=
  (sIf (bOr (bNot (tst (nop (aCons (rdE 3) aNil) (callO Fn.is_name_33f3)))) (tst (uop (rd 3) (dInK [(Str.ofString "steps"), (Str.ofString "before"), (Str.ofString "most"), (Str.ofString "least"), (Str.ofString "apart"), (Str.ofString "same")] false)))) (sRaise (Str.ofString "NoText")) sSkip)
def acts_of_9cd3_g : En → R Fl :=
  (sSeq (sSet 1 (txop (rd 0) (cst (.str (Str.ofString " "))) dSplit))
  (sSeq (sSet 2 (slc (rd 1) (pSome (cst (.int 1))) pNone))
  (sSeq (sIf (bOr (tst (bop (bop (rd 1) (cst (.int 0)) dIxA) (cst (.str (Str.ofString "steps"))) (dEq true))) (bOr (bNot (tst (eChain dLe dLe (cst (.int 1)) (nop (aCons (rd 2) aNil) dLen) (cst (.int 6))))) (tst (bop (nop (aCons (rd 2) aNil) lenT) (nop (aCons (rd 2) aNil) dLen) (dEq true))))) (sRaise (Str.ofString "NoText")) sSkip)
  (sSeq (sFor (itr (rdE 2)) (gSet 3) acts_of_9cd3_b1)
  (sRet (rdE 2))))))
def acts_of_9cd3 : Den := bodyD 1 4 acts_of_9cd3_g
end Fn
namespace Fn
open PySem DL
def places_of_cdd9_e1 : En → R D :=
  (nop (aCons (rdE 2) (aCons (rdE 1) aNil)) (callE Fn.place_of_78d6))
def places_of_cdd9_g : En → R Fl :=
  (sSeq (sIf (tst (bop (nop (aCons (rd 0) aNil) lenT) (nop (aCons (rd 0) aNil) dLen) (dEq true))) (sRaise (Str.ofString "NoText")) sSkip)
  (sRetO (nop (aCons (nop (aCons (lcX [2] (itr (rd 0)) (gSet 2) places_of_cdd9_e1) aNil) dSorted) aNil) dTuple)))
def places_of_cdd9 : Den := bodyD 2 3 places_of_cdd9_g
end Fn
namespace Fn
open PySem DL
def law_acts_52c7_b1 : En → R Fl :=
  (sSeq (sSet 5 (bop (rd 5) (cst (.int 1)) dAdd))
  (sSet 6 (nop (aCons (rdE 4) (aCons (rdE 5) (aCons (rdE 3) aNil))) (callE Fn.law_name_03ec))))
def law_acts_52c7_t2 : En → R Bool :=
  (bOr (tst (bop (rd 6) (rd 2) (dIn false))) (tst (bop (rd 6) (rd 1) (dIn false))))
def law_acts_52c7_b3 : En → R Fl :=
  (sSeq (sSet 5 (cst (.int 0)))
  (sSeq (sSet 6 (nop (aCons (rdE 4) (aCons (cst (.int 0)) (aCons (rdE 3) aNil))) (callE Fn.law_name_03ec)))
  (sSeq (whileD law_acts_52c7_t2 law_acts_52c7_b1 FU)
  (sSeq (sAppend 2 (rdE 6))
  (sSet 3 (rdE 6))))))
def law_acts_52c7_g : En → R Fl :=
  (sSeq (sSet 1 (nop (aCons (cst (.str (Str.ofString "steps"))) (aCons (cst (.str (Str.ofString "before"))) (aCons (cst (.str (Str.ofString "most"))) (aCons (cst (.str (Str.ofString "least"))) (aCons (cst (.str (Str.ofString "apart"))) (aCons (cst (.str (Str.ofString "same"))) aNil)))))) mkLst))
  (sSeq (sSetO 2 (nop aNil mkLst))
  (sSeq (sSet 3 (cst (.str (Str.ofString ""))))
  (sSeq (sFor (itr (rdE 0)) (gSet 4) law_acts_52c7_b3)
  (sRetO (rdO 2))))))
def law_acts_52c7 : Den := bodyN 1 7 law_acts_52c7_g
end Fn
namespace Fn
open PySem DL
def law_parts_881e_e1 : En → R D :=
  (rdE 8)
def law_parts_881e_t2 : En → R Bool :=
  (tst (bop (bop (rd 8) (cst (.int 2)) dIxA) (cst .non) (dIsN true)))
def law_parts_881e_e3 : En → R D :=
  (bop (rd 8) (cst (.int 1)) dIxA)
def law_parts_881e_t4 : En → R Bool :=
  (tst (bop (bop (rd 8) (cst (.int 1)) dIxA) (cst .non) (dIsN true)))
def law_parts_881e_b5 : En → R Fl :=
  (sSeq (sSet 5 (nop (aCons (slc (rd 0) (pSome (uop (rdE 4) flatO)) (pSome (bop (rd 4) (cst (.int 3)) dAdd))) (aCons (rdE 1) (aCons (rdE 2) aNil))) (callE Fn.law_part_16b1)))
  (sSeq (sSet 6 (lcD [8] (itr (rd 3)) (gSet 8) law_parts_881e_t2 law_parts_881e_e1))
  (sSeq (sSet 7 (lcD [8] (itr (rd 3)) (gSet 8) law_parts_881e_t4 law_parts_881e_e3))
  (sIf (bOr (bAnd (tst (bop (bop (rd 5) (cst (.int 2)) dIxA) (cst .non) (dIsN true))) (tst (bop (nop (aCons (rd 6) aNil) dLen) (cst (.int 12)) dLt))) (bAnd (tst (bop (bop (rd 5) (cst (.int 1)) dIxA) (cst .non) (dIsN true))) (tst (bop (bop (rd 5) (cst (.int 1)) dIxA) (rd 7) (dIn true))))) (sAppend 3 (rdE 5)) sSkip))))
def law_parts_881e_g : En → R Fl :=
  (sSeq (sSetO 3 (nop aNil mkLst))
  (sSeq (sFor (irg (aCons (cst (.int 0)) (aCons (bop (nop (aCons (rd 0) aNil) dLen) (cst (.int 2)) dSub) (aCons (cst (.int 3)) aNil))) rng3) (gSet 4) law_parts_881e_b5)
  (sRetO (rdO 3))))
def law_parts_881e : Den := bodyN 3 9 law_parts_881e_g
end Fn
namespace Fn
open PySem DL
def settled_daa0_b1 : En → R Fl :=
  (sSeq (sAppend 2 (rdE 3))
  (sSet 3 (nop (aCons (rd 0) (aCons (rd 1) (aCons (rd 2) aNil))) (callE Fn.next_free_7b8a))))
def settled_daa0_t2 : En → R Bool :=
  (tst (bop (rd 3) (cst .non) (dIsN true)))
def settled_daa0_g : En → R Fl :=
  (sSeq (sSetO 2 (nop aNil mkLst))
  (sSeq (sSet 3 (nop (aCons (rd 0) (aCons (rd 1) (aCons (rd 2) aNil))) (callE Fn.next_free_7b8a)))
  (sSeq (whileD settled_daa0_t2 settled_daa0_b1 FU)
  (sRetO (rdO 2)))))
def settled_daa0 : Den := bodyN 2 4 settled_daa0_g
end Fn
namespace Fn
open PySem DL
def tie_of_7f70_g : En → R Fl :=
  (sSeq (sIf (bAnd (tst (bop (bop (rd 0) (cst (.int 0)) dIxA) (nop (aCons (cst (.str (Str.ofString "most"))) (aCons (cst (.str (Str.ofString "least"))) aNil)) mkTup) (dIn false))) (bAnd (tst (bop (nop (aCons (rd 0) aNil) dLen) (cst (.int 2)) dGt)) (bAnd (tst (bop (nop (aCons (bop (rd 0) (cst (.int 1)) dIxA) aNil) dLen) (cst (.int 1)) (dEq false))) (tst (bop (bop (rd 0) (cst (.int 1)) dIxA) (cst (.str (Str.ofString "123456"))) (dIn false)))))) (sRetO (nop (aCons (bop (rd 0) (cst (.int 0)) dIxA) (aCons (nop (aCons (bop (rd 0) (cst (.int 1)) dIxA) aNil) dIntT) (aCons (nop (aCons (slc (rd 0) (pSome (cst (.int 2))) pNone) (aCons (rdE 1) aNil)) (callE Fn.places_of_cdd9)) aNil))) mkTup)) sSkip)
  (sSeq (sIf (bAnd (tst (bop (bop (rd 0) (cst (.int 0)) dIxA) (cst (.str (Str.ofString "apart"))) (dEq false))) (tst (bop (nop (aCons (rd 0) aNil) dLen) (cst (.int 3)) (dEq false)))) (sRetO (nop (aCons (cst (.str (Str.ofString "least"))) (aCons (cst (.int 2)) (aCons (nop (aCons (slc (rd 0) (pSome (cst (.int 1))) pNone) (aCons (rdE 1) aNil)) (callE Fn.places_of_cdd9)) aNil))) mkTup)) sSkip)
  (sSeq (sIf (bAnd (tst (bop (bop (rd 0) (cst (.int 0)) dIxA) (cst (.str (Str.ofString "same"))) (dEq false))) (tst (bop (nop (aCons (rd 0) aNil) dLen) (cst (.int 3)) (dEq false)))) (sRetO (nop (aCons (cst (.str (Str.ofString "most"))) (aCons (cst (.int 1)) (aCons (nop (aCons (slc (rd 0) (pSome (cst (.int 1))) pNone) (aCons (rdE 1) aNil)) (callE Fn.places_of_cdd9)) aNil))) mkTup)) sSkip)
  (sRaise (Str.ofString "NoText")))))
def tie_of_7f70 : Den := bodyD 2 2 tie_of_7f70_g
end Fn
namespace Fn
open PySem DL
def law_round_66ce_e1 : En → R D :=
  (nop (aCons (rdE 0) (aCons (rdE 6) aNil)) (callE Fn.law_cell_cb3a))
def law_round_66ce_g : En → R Fl :=
  (sSeq (sSet 1 (lcD [6] (irg (aCons (cst (.int 4)) aNil) rng1) (gSet 6) tYesD law_round_66ce_e1))
  (sSeq (sSet 2 (bop (nop (aCons (cst (.int 3)) (aCons (cst (.int 2)) (aCons (cst (.int 4)) (aCons (cst (.int 6)) (aCons (cst (.int 5)) (aCons (cst (.int 1)) aNil)))))) mkLst) (bop (bop (rd 1) (cst (.int 0)) dIxA) (cst (.int 6)) dMod) dIxA))
  (sSeq (sSet 3 (bop (nop (aCons (cst (.int 3)) (aCons (cst (.int 5)) (aCons (cst (.int 1)) (aCons (cst (.int 0)) (aCons (cst (.int 2)) (aCons (cst (.int 8)) (aCons (cst (.int 12)) (aCons (cst (.int 27)) aNil)))))))) mkLst) (bop (bop (bop (rd 1) (cst (.int 0)) dIxA) (cst (.int 6)) dDiv) (cst (.int 8)) dMod) dIxA))
  (sSeq (sSet 4 (nop (aCons (rdE 0) (aCons (bop (rd 2) (bop (cst (.int 3)) (rd 3) dMul) dAdd) aNil)) (callE Fn.law_entries_7bb9)))
  (sSeq (sSet 5 (nop (aCons (slc (rd 4) pNone (pSome (uop (rdE 2) flatO))) aNil) (callE Fn.law_acts_52c7)))
  (sRetO (nop (aCons (rdE 5) (aCons (nop (aCons (slc (rd 4) (pSome (uop (rdE 2) flatO)) pNone) (aCons (rdE 5) (aCons (bop (cst (.int 1)) (bop (bop (rd 1) (cst (.int 1)) dIxA) (cst (.int 6)) dMod) dAdd) aNil))) (callE Fn.law_parts_881e)) aNil)) mkTup)))))))
def law_round_66ce : Den := bodyN 1 7 law_round_66ce_g
end Fn
namespace Fn
open PySem DL
def law_bad_steps_be5e_e1 : En → R D :=
  (bop (bop (rd 1) (cst (.int 8)) dDiv) (bop (bop (cst (.int 5)) (rd 6) dMul) (rd 6) dMul) dAdd)
def law_bad_steps_be5e_g : En → R Fl :=
  (sSeq (sSet 2 (nop (aCons (lcD [6] (irg (aCons (cst (.int 7)) aNil) rng1) (gSet 6) tYesD law_bad_steps_be5e_e1) aNil) (callE Fn.law_acts_52c7)))
  (sSeq (sSet 3 (nop (aCons (cst (.str (Str.ofString "steps"))) (aCons (cst (.str (Str.ofString "before"))) (aCons (cst (.str (Str.ofString "most"))) (aCons (cst (.str (Str.ofString "least"))) (aCons (cst (.str (Str.ofString "apart"))) (aCons (cst (.str (Str.ofString "same"))) aNil)))))) mkLst))
  (sSeq (sSet 4 (nop (aCons (nop aNil mkLst) (aCons (nop (aCons (cst (.str (Str.ofString ""))) aNil) mkLst) (aCons (bop (slc (rd 0) pNone (pSome (cst (.int 5)))) (nop (aCons (bop (rd 0) (cst (.int 0)) dIxA) aNil) mkLst) dAdd) (aCons (rdE 2) (aCons (bop (slc (rd 0) pNone (pSome (cst (.int 5)))) (nop (aCons (bop (rd 3) (bop (bop (rd 1) (cst (.int 8)) dDiv) (cst (.int 6)) dMod) dIxA) aNil) mkLst) dAdd) (aCons (bop (slc (rd 0) pNone (pSome (cst (.int 5)))) (nop (aCons (cst (.str (Str.ofString "abcdefghi"))) aNil) mkLst) dAdd) aNil)))))) mkLst))
  (sSeq (sSet 5 (jop (cst (.str (Str.ofString " "))) (bop (nop (aCons (cst (.str (Str.ofString "steps"))) aNil) mkLst) (bop (rd 4) (bop (rd 1) (cst (.int 6)) dMod) dIxA) dAdd)))
  (sSeq (sIf (tst (bop (bop (bop (rd 1) (cst (.int 48)) dDiv) (cst (.int 3)) dMod) (cst (.int 1)) (dEq false))) (sSet 5 (bop (bop (nop (aCons (cst (.str (Str.ofString "Steps "))) (aCons (cst (.str (Str.ofString "step "))) (aCons (cst (.str (Str.ofString ""))) aNil))) mkLst) (bop (bop (rd 1) (cst (.int 144)) dDiv) (cst (.int 3)) dMod) dIxA) (jop (cst (.str (Str.ofString " "))) (rd 0)) dAdd)) sSkip)
  (sRet (rdE 5)))))))
def law_bad_steps_be5e : Den := bodyN 2 7 law_bad_steps_be5e_g
end Fn
namespace Fn
open PySem DL
def ring_d7b8_e1 : En → R D :=
  (rdE 5)
def ring_d7b8_t2 : En → R Bool :=
  (tst (bop (rd 5) (rd 2) (dIn true)))
def ring_d7b8_b3 : En → R Fl :=
  (sSeq (sAppend 4 (rdE 5))
  (sSet 5 (nop (aCons (rdE 1) (aCons (rdE 3) (aCons (bop (rd 4) (uop (cst (.int 1)) dNeg) dIxA) aNil))) (callE Fn.one_ahead_d424))))
def ring_d7b8_t4 : En → R Bool :=
  (tst (bop (rd 5) (rd 4) (dIn true)))
def ring_d7b8_g : En → R Fl :=
  (sSeq (sSet 2 (nop (aCons (rdE 0) (aCons (rdE 1) aNil)) (callE Fn.settled_daa0)))
  (sSeq (sSet 3 (lcD [5] (irg (aCons (rd 0) aNil) rng1) (gSet 5) ring_d7b8_t2 ring_d7b8_e1))
  (sSeq (sIf (tst (bop (rd 3) (nop aNil mkLst) (dEq false))) (sRetO (nop aNil mkLst)) sSkip)
  (sSeq (sSetO 4 (nop (aCons (bop (rd 3) (cst (.int 0)) dIxA) aNil) mkLst))
  (sSeq (sSet 5 (nop (aCons (rdE 1) (aCons (rdE 3) (aCons (bop (rd 4) (uop (cst (.int 1)) dNeg) dIxA) aNil))) (callE Fn.one_ahead_d424)))
  (sSeq (whileD ring_d7b8_t4 ring_d7b8_b3 FU)
  (sRetO (uop (slc (rd 4) (pSome (idx (rd 4) (rd 5))) pNone) dRevS))))))))
def ring_d7b8 : Den := bodyN 2 6 ring_d7b8_g
end Fn
namespace Fn
open PySem DL
def law_spoilt_a130_e1 : En → R D :=
  (rdE 11)
def law_spoilt_a130_t2 : En → R Bool :=
  (tst (bop (rd 11) (rd 0) (dIn true)))
def law_spoilt_a130_e3 : En → R D :=
  (rdE 12)
def law_spoilt_a130_t4 : En → R Bool :=
  (tst (bop (bop (rd 4) (rd 12) dIxA) (cst (.str (Str.ofString " "))) (dEq false)))
def law_spoilt_a130_g : En → R Fl :=
  (sSeq (sSet 3 (bop (rd 2) (cst (.int 6)) dDiv))
  (sSeq (sSet 4 (nop (aCons (rdE 0) (aCons (rdE 1) aNil)) (callE Fn.law_text_8b1d)))
  (sSeq (sSet 5 (txop (rd 4) (cst (.str (Str.ofString "; "))) dSplit))
  (sSeq (sIf (tst (bop (bop (rd 2) (cst (.int 6)) dMod) (cst (.int 2)) dLt)) (sSeq (sSet 6 (bop (lcD [11] (itr (nop (aCons (cst (.str (Str.ofString "a"))) (aCons (cst (.str (Str.ofString "b"))) (aCons (cst (.str (Str.ofString "c"))) (aCons (cst (.str (Str.ofString "d"))) (aCons (cst (.str (Str.ofString "e"))) (aCons (cst (.str (Str.ofString "f"))) (aCons (cst (.str (Str.ofString "g"))) aNil))))))) mkLst)) (gSet 11) law_spoilt_a130_t2 law_spoilt_a130_e1) (cst (.int 0)) dIxA))
  (sSeq (sSet 7 (bop (cst (.int 1)) (bop (rd 3) (nop (aCons (rd 5) aNil) dLen) dMod) dAdd))
  (sSeq (sSet 8 (nop (aCons (bop (rd 0) (bop (bop (rd 3) (cst (.int 40)) dDiv) (nop (aCons (rd 0) aNil) dLen) dMod) dIxA) (aCons (rdE 6) (aCons (bop (rd 3) (cst (.int 320)) dDiv) aNil))) (callE Fn.law_bad_part_a01f)))
  (sRetO (jop (cst (.str (Str.ofString "; "))) (bop (bop (slc (rd 5) pNone (pSome (uop (rdE 7) flatO))) (nop (aCons (rdE 8) aNil) mkLst) dAdd) (slc (rd 5) (pSome (uop (rdE 7) flatO)) pNone) dAdd)))))) sSkip)
  (sSeq (sIf (tst (bop (bop (rd 2) (cst (.int 6)) dMod) (cst (.int 2)) (dEq false))) (sRetO (jop (cst (.str (Str.ofString "; "))) (bop (nop (aCons (nop (aCons (rdE 0) (aCons (rdE 3) aNil)) (callE Fn.law_bad_steps_be5e)) aNil) mkLst) (slc (rd 5) (pSome (cst (.int 1))) pNone) dAdd))) sSkip)
  (sSeq (sIf (tst (bop (bop (rd 2) (cst (.int 6)) dMod) (cst (.int 3)) (dEq false))) (sSeq (sSet 7 (bop (rd 3) (bop (nop (aCons (rd 4) aNil) dLen) (cst (.int 1)) dAdd) dMod))
  (sSeq (sSet 9 (nop (aCons (cst (.str (Str.ofString "A"))) (aCons (cst (.str (Str.ofString "Z"))) (aCons (cst (.str (Str.ofString "0"))) (aCons (cst (.str (Str.ofString "7"))) (aCons (cst (.str (Str.ofString "8"))) (aCons (cst (.str (Str.ofString "9"))) (aCons (cst (.str (Str.ofString "\t"))) (aCons (cst (.str (Str.ofString "\n"))) (aCons (cst (.str (Str.ofString "-"))) (aCons (cst (.str (Str.ofString "_"))) (aCons (cst (.str (Str.ofString ","))) (aCons (cst (.str (Str.ofString "."))) (aCons (cst (.str (Str.ofString "("))) (aCons (cst (.str (Str.ofString "="))) (aCons (cst (.str (Str.ofString "/"))) (aCons (cst (.str (Str.ofString "~"))) (aCons (cst (.str (Str.ofString "'"))) (aCons (cst (.str (Str.ofString "+"))) aNil)))))))))))))))))) mkLst))
  (sRetO (bop (bop (slc (rd 4) pNone (pSome (uop (rdE 7) flatO))) (bop (rd 9) (bop (bop (rd 3) (cst (.int 600)) dDiv) (cst (.int 18)) dMod) dIxA) dAdd) (slc (rd 4) (pSome (uop (rdE 7) flatO)) pNone) dAdd)))) sSkip)
  (sSeq (sIf (tst (bop (bop (rd 2) (cst (.int 6)) dMod) (cst (.int 4)) (dEq false))) (sSeq (sSet 10 (bop (lcD [12] (irg (aCons (nop (aCons (rd 4) aNil) dLen) aNil) rng1) (gSet 12) law_spoilt_a130_t4 law_spoilt_a130_e3) (nop (aCons (cst (.int 0)) (aCons (nop (aCons (rd 4) aNil) dLen) aNil)) mkLst) dAdd))
  (sSeq (sSet 7 (bop (rd 10) (bop (rd 3) (nop (aCons (rd 10) aNil) dLen) dMod) dIxA))
  (sRetO (bop (bop (slc (rd 4) pNone (pSome (uop (rdE 7) flatO))) (cst (.str (Str.ofString " "))) dAdd) (slc (rd 4) (pSome (uop (rdE 7) flatO)) pNone) dAdd)))) sSkip)
  (sRet (bop (nop (aCons (cst .non) (aCons (cst (.int 0)) (aCons (cst (.bl true)) (aCons (nop (aCons (rdE 4) aNil) mkLst) (aCons (nop (aCons (rdE 4) aNil) mkTup) (aCons (nop aNil mkLst) (aCons (nop aNil mkTup) (aCons (cst (.str (Str.ofString ""))) (aCons (cst (.str (Str.ofString " "))) (aCons (bop (cst (.int 10)) (cst (.int 30)) dPow) (aCons (cst (.bl false)) (aCons (uop (cst (.int 1)) dNeg) aNil)))))))))))) mkLst) (bop (rd 3) (cst (.int 12)) dMod) dIxA)))))))))
def law_spoilt_a130 : Den := bodyN 3 13 law_spoilt_a130_g
end Fn
namespace Fn
open PySem DL
def read_round_c957_b1 : En → R Fl :=
  (sSeq (sSet 6 (txop (rd 5) (cst (.str (Str.ofString " "))) dSplit))
  (sIf (bAnd (tst (bop (nop (aCons (rd 6) aNil) dLen) (cst (.int 3)) (dEq false))) (tst (bop (bop (rd 6) (cst (.int 1)) dIxA) (cst (.str (Str.ofString "before"))) (dEq false)))) (sSeq (sSet 7 (nop (aCons (nop (aCons (bop (rd 6) (cst (.int 0)) dIxA) (aCons (rdE 2) aNil)) (callE Fn.place_of_78d6)) (aCons (nop (aCons (bop (rd 6) (cst (.int 2)) dIxA) (aCons (rdE 2) aNil)) (callE Fn.place_of_78d6)) aNil)) mkTup))
  (sSeq (sIf (tst (bop (rd 7) (rd 3) (dIn false))) (sRaise (Str.ofString "NoText")) sSkip)
  (sAppend 3 (rdE 7)))) (sAppend 4 (nop (aCons (rdE 6) (aCons (rdE 2) aNil)) (callE Fn.tie_of_7f70)))))
def read_round_c957_g : En → R Fl :=
  (sSeq (sIf (bNot (tst (uop (rd 0) (isiD "str")))) (sRaise (Str.ofString "NoText")) sSkip)
  (sSeq (sSet 1 (txop (rd 0) (cst (.str (Str.ofString "; "))) dSplit))
  (sSeq (sSet 2 (nop (aCons (bop (rd 1) (cst (.int 0)) dIxA) aNil) (callE Fn.acts_of_9cd3)))
  (sSeq (sSetO 3 (nop aNil mkLst))
  (sSeq (sSetO 4 (nop aNil mkLst))
  (sSeq (sFor (itr (slc (rd 1) (pSome (cst (.int 1))) pNone)) (gSet 5) read_round_c957_b1)
  (sSeq (sIf (tst (bop (nop (aCons (rd 4) aNil) dLen) (cst (.int 12)) dGt)) (sRaise (Str.ofString "NoText")) sSkip)
  (sSeq (sStl [3] (sIf (tst (bop (nop (aCons (nop (aCons (rd 2) aNil) dLen) (aCons (rdE 3) aNil)) (callE Fn.ring_d7b8)) (nop aNil mkLst) (dEq true))) (sRaise (Str.ofString "Ring")) sSkip))
  (sStl [3, 4] (sRetO (nop (aCons (rdE 2) (aCons (rdE 3) (aCons (rdE 4) aNil))) mkTup)))))))))))
def read_round_c957 : Den := bodyD 1 8 read_round_c957_g
end Fn
namespace Fn
open PySem DL
def law_kind_caba_y1 : En → R D :=
  (nop (aCons (rdE 0) aNil) (callE Fn.read_round_c957))
def law_kind_caba_h2 : En → R Fl :=
  (sSet 1 (cst (.str (Str.ofString "no text"))))
def law_kind_caba_h3 : En → R Fl :=
  (sSet 1 (cst (.str (Str.ofString "ring"))))
def law_kind_caba_g : En → R Fl :=
  (sSeq (sSet 1 (cst (.str (Str.ofString "read"))))
  (sSeq (sTryE law_kind_caba_y1 (fun _ ρ => .ok (.next ρ)) [(Str.ofString "NoText", 0), (Str.ofString "Ring", 1)] [law_kind_caba_h2, law_kind_caba_h3])
  (sRet (rdE 1))))
def law_kind_caba : Den := bodyN 1 2 law_kind_caba_g
end Fn
namespace Fn
open PySem DL
def law_class_4744_y1 : En → R D :=
  (nop (aCons (rdE 0) aNil) (callE Fn.read_round_c957))
def law_class_4744_h2 : En → R Fl :=
  (sSet 1 (eAnd (uop (rd 2) (isED [(Str.ofString "NoText", true), (Str.ofString "Ring", false)])) (eAnd (uop (rd 2) (isED [(Str.ofString "NoText", true), (Str.ofString "Ring", true)])) (uop (uop (rd 2) (isED [(Str.ofString "NoText", false), (Str.ofString "Ring", true)])) eNot))))
def law_class_4744_g : En → R Fl :=
  (sSeq (sSet 1 (cst (.bl false)))
  (sSeq (sTryAs 2 law_class_4744_y1 (fun _ ρ => .ok (.next ρ)) [(Str.ofString "NoText", true), (Str.ofString "Ring", true)] law_class_4744_h2)
  (sRet (rdE 1))))
def law_class_4744 : Den := bodyN 1 3 law_class_4744_g
end Fn
namespace Fn
open PySem DL
def law_db2a_g : En → R Fl :=
  (sSeq (sUnp (nop (aCons (rdE 0) aNil) (callE Fn.law_round_66ce)) (gSeqD 2 (gsCons (gSet 3) (gsCons (gSet 4) gsNil))))
  (sSeq (sSet 1 (nop (aCons (rdE 3) (aCons (rdE 4) aNil)) (callE Fn.law_text_8b1d)))
  (sSeq (sSet 2 (nop (aCons (rdE 3) (aCons (rdE 4) (aCons (nop (aCons (rdE 0) (aCons (cst (.int 2)) aNil)) (callE Fn.law_cell_cb3a)) aNil))) (callE Fn.law_spoilt_a130)))
  (sSeq (sIf (bOr (tst (bop (nop (aCons (rdE 1) aNil) (callE Fn.law_kind_caba)) (cst (.str (Str.ofString "read"))) (dEq true))) (tst (bop (nop (aCons (rdE 2) aNil) (callE Fn.law_kind_caba)) (cst (.str (Str.ofString "no text"))) (dEq true)))) (sRetO (cst (.bl false))) sSkip)
  (sRetO (eAnd (nop (aCons (rdE 2) aNil) (callO Fn.law_class_4744)) (bop (nop (aCons (rdE 1) aNil) (callE Fn.law_kind_caba)) (cst (.str (Str.ofString "read"))) (dEq false))))))))
def law_db2a : Den := bodyN 1 5 law_db2a_g
end Fn
namespace Lk68
open PySem PySem.Spec PyProof.Rows L2 DL
def topS (i : Nat) : Stmt := PySem.Challenge.pw_deskround_k68_no_round.main.body.getD i (.Pass ⟨0, 0, 0, 0⟩)
abbrev s_is_name : Stmt := topS 3
abbrev N_is_name : List Str := ["thing", "sign"]
theorem sc_is_name : FnScope N_is_name ["thing"] (defScope s_is_name) := ⟨rfl, rfl, rfl, by decide +kernel, rfl, by decide +kernel, by decide +kernel⟩
abbrev s_free : Stmt := topS 9
abbrev N_free : List Str := ["order", "placed", "step", "pair"]
theorem sc_free : FnScope N_free ["order", "placed", "step"] (defScope s_free) := ⟨rfl, rfl, rfl, by decide +kernel, rfl, by decide +kernel, by decide +kernel⟩
abbrev s_one_ahead : Stmt := topS 12
abbrev N_one_ahead : List Str := ["order", "left", "step", "pair"]
theorem sc_one_ahead : FnScope N_one_ahead ["order", "left", "step"] (defScope s_one_ahead) := ⟨rfl, rfl, rfl, by decide +kernel, rfl, by decide +kernel, by decide +kernel⟩
abbrev s_place_of : Stmt := topS 20
abbrev N_place_of : List Str := ["word", "acts"]
theorem sc_place_of : FnScope N_place_of ["word", "acts"] (defScope s_place_of) := ⟨rfl, rfl, rfl, by decide +kernel, rfl, by decide +kernel, by decide +kernel⟩
abbrev s__law_cell : Stmt := topS 25
abbrev N__law_cell : List Str := ["script", "k"]
theorem sc__law_cell : FnScope N__law_cell ["script", "k"] (defScope s__law_cell) := ⟨rfl, rfl, rfl, by decide +kernel, rfl, by decide +kernel, by decide +kernel⟩
abbrev s__law_entries : Stmt := topS 26
abbrev N__law_entries : List Str := ["script", "size", "mixed", "cell", "found", "k"]
theorem sc__law_entries : FnScope N__law_entries ["script", "size"] (defScope s__law_entries) := ⟨rfl, rfl, rfl, by decide +kernel, rfl, by decide +kernel, by decide +kernel⟩
abbrev s__law_name : Stmt := topS 27
abbrev N__law_name : List Str := ["cell", "shift", "before", "letters", "size", "at", "rest", "name", "k", "key"]
theorem sc__law_name : FnScope N__law_name ["cell", "shift", "before"] (defScope s__law_name) := ⟨rfl, rfl, rfl, by decide +kernel, rfl, by decide +kernel, by decide +kernel⟩
abbrev s__law_part : Stmt := topS 29
abbrev N__law_part : List Str := ["cells", "acts", "turn", "count", "one", "other", "steps", "word", "many", "at", "row", "text", "k"]
theorem sc__law_part : FnScope N__law_part ["cells", "acts", "turn"] (defScope s__law_part) := ⟨rfl, rfl, rfl, by decide +kernel, rfl, by decide +kernel, by decide +kernel⟩
abbrev s__law_text : Stmt := topS 32
abbrev N__law_text : List Str := ["acts", "parts", "part"]
theorem sc__law_text : FnScope N__law_text ["acts", "parts"] (defScope s__law_text) := ⟨rfl, rfl, rfl, by decide +kernel, rfl, by decide +kernel, by decide +kernel⟩
abbrev s__law_bad_part : Stmt := topS 33
abbrev N__law_bad_part : List Str := ["a", "x", "cell", "bad"]
theorem sc__law_bad_part : FnScope N__law_bad_part ["a", "x", "cell"] (defScope s__law_bad_part) := ⟨rfl, rfl, rfl, by decide +kernel, rfl, by decide +kernel, by decide +kernel⟩
abbrev s_next_free : Stmt := topS 10
abbrev N_next_free : List Str := ["count", "order", "placed", "step"]
theorem sc_next_free : FnScope N_next_free ["count", "order", "placed"] (defScope s_next_free) := ⟨rfl, rfl, rfl, by decide +kernel, rfl, by decide +kernel, by decide +kernel⟩
abbrev s_acts_of : Stmt := topS 19
abbrev N_acts_of : List Str := ["part", "words", "acts", "act"]
theorem sc_acts_of : FnScope N_acts_of ["part"] (defScope s_acts_of) := ⟨rfl, rfl, rfl, by decide +kernel, rfl, by decide +kernel, by decide +kernel⟩
abbrev s_places_of : Stmt := topS 21
abbrev N_places_of : List Str := ["words", "acts", "word"]
theorem sc_places_of : FnScope N_places_of ["words", "acts"] (defScope s_places_of) := ⟨rfl, rfl, rfl, by decide +kernel, rfl, by decide +kernel, by decide +kernel⟩
abbrev s__law_acts : Stmt := topS 28
abbrev N__law_acts : List Str := ["cells", "keys", "acts", "before", "cell", "shift", "name"]
theorem sc__law_acts : FnScope N__law_acts ["cells"] (defScope s__law_acts) := ⟨rfl, rfl, rfl, by decide +kernel, rfl, by decide +kernel, by decide +kernel⟩
abbrev s__law_parts : Stmt := topS 30
abbrev N__law_parts : List Str := ["cells", "acts", "turn", "parts", "k", "part", "bonds", "pairs", "one"]
theorem sc__law_parts : FnScope N__law_parts ["cells", "acts", "turn"] (defScope s__law_parts) := ⟨rfl, rfl, rfl, by decide +kernel, rfl, by decide +kernel, by decide +kernel⟩
abbrev s_settled : Stmt := topS 11
abbrev N_settled : List Str := ["count", "order", "placed", "step"]
theorem sc_settled : FnScope N_settled ["count", "order"] (defScope s_settled) := ⟨rfl, rfl, rfl, by decide +kernel, rfl, by decide +kernel, by decide +kernel⟩
abbrev s_tie_of : Stmt := topS 22
abbrev N_tie_of : List Str := ["words", "acts"]
theorem sc_tie_of : FnScope N_tie_of ["words", "acts"] (defScope s_tie_of) := ⟨rfl, rfl, rfl, by decide +kernel, rfl, by decide +kernel, by decide +kernel⟩
abbrev s__law_round : Stmt := topS 31
abbrev N__law_round : List Str := ["script", "head", "count", "many", "cells", "acts", "k"]
theorem sc__law_round : FnScope N__law_round ["script"] (defScope s__law_round) := ⟨rfl, rfl, rfl, by decide +kernel, rfl, by decide +kernel, by decide +kernel⟩
abbrev s__law_bad_steps : Stmt := topS 34
abbrev N__law_bad_steps : List Str := ["acts", "cell", "seven", "keys", "bad", "row", "k"]
theorem sc__law_bad_steps : FnScope N__law_bad_steps ["acts", "cell"] (defScope s__law_bad_steps) := ⟨rfl, rfl, rfl, by decide +kernel, rfl, by decide +kernel, by decide +kernel⟩
abbrev s_ring : Stmt := topS 13
abbrev N_ring : List Str := ["count", "order", "placed", "left", "back", "step"]
theorem sc_ring : FnScope N_ring ["count", "order"] (defScope s_ring) := ⟨rfl, rfl, rfl, by decide +kernel, rfl, by decide +kernel, by decide +kernel⟩
abbrev s__law_spoilt : Stmt := topS 35
abbrev N__law_spoilt : List Str := ["acts", "parts", "cell", "rest", "text", "rows", "x", "at", "part", "signs", "spots", "one", "k"]
theorem sc__law_spoilt : FnScope N__law_spoilt ["acts", "parts", "cell"] (defScope s__law_spoilt) := ⟨rfl, rfl, rfl, by decide +kernel, rfl, by decide +kernel, by decide +kernel⟩
abbrev s_read_round : Stmt := topS 23
abbrev N_read_round : List Str := ["text", "parts", "acts", "order", "ties", "part", "words", "pair"]
theorem sc_read_round : FnScope N_read_round ["text"] (defScope s_read_round) := ⟨rfl, rfl, rfl, by decide +kernel, rfl, by decide +kernel, by decide +kernel⟩
abbrev s__law_kind : Stmt := topS 36
abbrev N__law_kind : List Str := ["text", "kind"]
theorem sc__law_kind : FnScope N__law_kind ["text"] (defScope s__law_kind) := ⟨rfl, rfl, rfl, by decide +kernel, rfl, by decide +kernel, by decide +kernel⟩
abbrev s__law_class : Stmt := topS 37
abbrev N__law_class : List Str := ["text", "kind", "e"]
theorem sc__law_class : FnScope N__law_class ["text"] (defScope s__law_class) := ⟨rfl, rfl, rfl, by decide +kernel, rfl, by decide +kernel, by decide +kernel⟩
abbrev s_law : Stmt := topS 38
abbrev N_law : List Str := ["script", "text", "spoilt", "acts", "parts"]
theorem sc_law : FnScope N_law ["script"] (defScope s_law) := ⟨rfl, rfl, rfl, by decide +kernel, rfl, by decide +kernel, by decide +kernel⟩
structure Txt (K : PySem.W.Frag) (mg : Str → Option Value) where
  a_is_name : Addr
  d_is_name : FuncData
  F_is_name : Fun K "is_name" "is_name" s_is_name a_is_name d_is_name
  m_is_name : mg "is_name" = some (.ref a_is_name)
  b_is_name : Binds K d_is_name ["thing"] []
  a_free : Addr
  d_free : FuncData
  F_free : Fun K "free" "free" s_free a_free d_free
  m_free : mg "free" = some (.ref a_free)
  b_free : Binds K d_free ["order", "placed", "step"] []
  a_one_ahead : Addr
  d_one_ahead : FuncData
  F_one_ahead : Fun K "one_ahead" "one_ahead" s_one_ahead a_one_ahead d_one_ahead
  m_one_ahead : mg "one_ahead" = some (.ref a_one_ahead)
  b_one_ahead : Binds K d_one_ahead ["order", "left", "step"] []
  a_place_of : Addr
  d_place_of : FuncData
  F_place_of : Fun K "place_of" "place_of" s_place_of a_place_of d_place_of
  m_place_of : mg "place_of" = some (.ref a_place_of)
  b_place_of : Binds K d_place_of ["word", "acts"] []
  a__law_cell : Addr
  d__law_cell : FuncData
  F__law_cell : Fun K "_law_cell" "_law_cell" s__law_cell a__law_cell d__law_cell
  m__law_cell : mg "_law_cell" = some (.ref a__law_cell)
  b__law_cell : Binds K d__law_cell ["script", "k"] []
  a__law_entries : Addr
  d__law_entries : FuncData
  F__law_entries : Fun K "_law_entries" "_law_entries" s__law_entries a__law_entries d__law_entries
  m__law_entries : mg "_law_entries" = some (.ref a__law_entries)
  b__law_entries : Binds K d__law_entries ["script", "size"] []
  a__law_name : Addr
  d__law_name : FuncData
  F__law_name : Fun K "_law_name" "_law_name" s__law_name a__law_name d__law_name
  m__law_name : mg "_law_name" = some (.ref a__law_name)
  b__law_name : Binds K d__law_name ["cell", "shift", "before"] []
  a__law_part : Addr
  d__law_part : FuncData
  F__law_part : Fun K "_law_part" "_law_part" s__law_part a__law_part d__law_part
  m__law_part : mg "_law_part" = some (.ref a__law_part)
  b__law_part : Binds K d__law_part ["cells", "acts", "turn"] []
  a__law_text : Addr
  d__law_text : FuncData
  F__law_text : Fun K "_law_text" "_law_text" s__law_text a__law_text d__law_text
  m__law_text : mg "_law_text" = some (.ref a__law_text)
  b__law_text : Binds K d__law_text ["acts", "parts"] []
  a__law_bad_part : Addr
  d__law_bad_part : FuncData
  F__law_bad_part : Fun K "_law_bad_part" "_law_bad_part" s__law_bad_part a__law_bad_part d__law_bad_part
  m__law_bad_part : mg "_law_bad_part" = some (.ref a__law_bad_part)
  b__law_bad_part : Binds K d__law_bad_part ["a", "x", "cell"] []
  a_next_free : Addr
  d_next_free : FuncData
  F_next_free : Fun K "next_free" "next_free" s_next_free a_next_free d_next_free
  m_next_free : mg "next_free" = some (.ref a_next_free)
  b_next_free : Binds K d_next_free ["count", "order", "placed"] []
  a_acts_of : Addr
  d_acts_of : FuncData
  F_acts_of : Fun K "acts_of" "acts_of" s_acts_of a_acts_of d_acts_of
  m_acts_of : mg "acts_of" = some (.ref a_acts_of)
  b_acts_of : Binds K d_acts_of ["part"] []
  a_places_of : Addr
  d_places_of : FuncData
  F_places_of : Fun K "places_of" "places_of" s_places_of a_places_of d_places_of
  m_places_of : mg "places_of" = some (.ref a_places_of)
  b_places_of : Binds K d_places_of ["words", "acts"] []
  a__law_acts : Addr
  d__law_acts : FuncData
  F__law_acts : Fun K "_law_acts" "_law_acts" s__law_acts a__law_acts d__law_acts
  m__law_acts : mg "_law_acts" = some (.ref a__law_acts)
  b__law_acts : Binds K d__law_acts ["cells"] []
  a__law_parts : Addr
  d__law_parts : FuncData
  F__law_parts : Fun K "_law_parts" "_law_parts" s__law_parts a__law_parts d__law_parts
  m__law_parts : mg "_law_parts" = some (.ref a__law_parts)
  b__law_parts : Binds K d__law_parts ["cells", "acts", "turn"] []
  a_settled : Addr
  d_settled : FuncData
  F_settled : Fun K "settled" "settled" s_settled a_settled d_settled
  m_settled : mg "settled" = some (.ref a_settled)
  b_settled : Binds K d_settled ["count", "order"] []
  a_tie_of : Addr
  d_tie_of : FuncData
  F_tie_of : Fun K "tie_of" "tie_of" s_tie_of a_tie_of d_tie_of
  m_tie_of : mg "tie_of" = some (.ref a_tie_of)
  b_tie_of : Binds K d_tie_of ["words", "acts"] []
  a__law_round : Addr
  d__law_round : FuncData
  F__law_round : Fun K "_law_round" "_law_round" s__law_round a__law_round d__law_round
  m__law_round : mg "_law_round" = some (.ref a__law_round)
  b__law_round : Binds K d__law_round ["script"] []
  a__law_bad_steps : Addr
  d__law_bad_steps : FuncData
  F__law_bad_steps : Fun K "_law_bad_steps" "_law_bad_steps" s__law_bad_steps a__law_bad_steps d__law_bad_steps
  m__law_bad_steps : mg "_law_bad_steps" = some (.ref a__law_bad_steps)
  b__law_bad_steps : Binds K d__law_bad_steps ["acts", "cell"] []
  a_ring : Addr
  d_ring : FuncData
  F_ring : Fun K "ring" "ring" s_ring a_ring d_ring
  m_ring : mg "ring" = some (.ref a_ring)
  b_ring : Binds K d_ring ["count", "order"] []
  a__law_spoilt : Addr
  d__law_spoilt : FuncData
  F__law_spoilt : Fun K "_law_spoilt" "_law_spoilt" s__law_spoilt a__law_spoilt d__law_spoilt
  m__law_spoilt : mg "_law_spoilt" = some (.ref a__law_spoilt)
  b__law_spoilt : Binds K d__law_spoilt ["acts", "parts", "cell"] []
  a_read_round : Addr
  d_read_round : FuncData
  F_read_round : Fun K "read_round" "read_round" s_read_round a_read_round d_read_round
  m_read_round : mg "read_round" = some (.ref a_read_round)
  b_read_round : Binds K d_read_round ["text"] []
  a__law_kind : Addr
  d__law_kind : FuncData
  F__law_kind : Fun K "_law_kind" "_law_kind" s__law_kind a__law_kind d__law_kind
  m__law_kind : mg "_law_kind" = some (.ref a__law_kind)
  b__law_kind : Binds K d__law_kind ["text"] []
  a__law_class : Addr
  d__law_class : FuncData
  F__law_class : Fun K "_law_class" "_law_class" s__law_class a__law_class d__law_class
  m__law_class : mg "_law_class" = some (.ref a__law_class)
  b__law_class : Binds K d__law_class ["text"] []
  a_law : Addr
  d_law : FuncData
  F_law : Fun K "law" "law" s_law a_law d_law
  m_law : mg "law" = some (.ref a_law)
  b_law : Binds K d_law ["script"] []
  z_ValueError : mg "ValueError" = none
  z_int : mg "int" = none
  z_isinstance : mg "isinstance" = none
  z_len : mg "len" = none
  z_list : mg "list" = none
  z_range : mg "range" = none
  z_reversed : mg "reversed" = none
  z_set : mg "set" = none
  z_sorted : mg "sorted" = none
  z_str : mg "str" = none
  z_tuple : mg "tuple" = none
  E_DeskError : ExcT K mg "DeskError"
  E_NoText : ExcT K mg "NoText"
  E_Ring : ExcT K mg "Ring"
  m_NoText_DeskError : PySem.W.exmOne K (.ref (clsOf K "NoText")) (.ref (clsOf K "DeskError")) = some true
  m_NoText_NoText : PySem.W.exmOne K (.ref (clsOf K "NoText")) (.ref (clsOf K "NoText")) = some true
  m_Ring_DeskError : PySem.W.exmOne K (.ref (clsOf K "Ring")) (.ref (clsOf K "DeskError")) = some true
  m_Ring_NoText : PySem.W.exmOne K (.ref (clsOf K "Ring")) (.ref (clsOf K "NoText")) = some false
  m_Ring_Ring : PySem.W.exmOne K (.ref (clsOf K "Ring")) (.ref (clsOf K "Ring")) = some true
  X_NoText : ExcC K (clsOf K "NoText")
  X_Ring : ExcC K (clsOf K "Ring")
  i_NoText_NoText : PySem.W.kitOne K (.ref (clsOf K "NoText")) (.ref (clsOf K "NoText")) = some true
  i_NoText_Ring : PySem.W.kitOne K (.ref (clsOf K "NoText")) (.ref (clsOf K "Ring")) = some false
  i_NoText_ValueError : PySem.W.kitOne K (.ref (clsOf K "NoText")) (.type "ValueError") = some true
  i_Ring_NoText : PySem.W.kitOne K (.ref (clsOf K "Ring")) (.ref (clsOf K "NoText")) = some false
  i_Ring_Ring : PySem.W.kitOne K (.ref (clsOf K "Ring")) (.ref (clsOf K "Ring")) = some true
  i_Ring_ValueError : PySem.W.kitOne K (.ref (clsOf K "Ring")) (.type "ValueError") = some true
  n_NoText : PySem.W.kitOne K (.type "NoneType") (.ref (clsOf K "NoText")) = some false
  n_Ring : PySem.W.kitOne K (.type "NoneType") (.ref (clsOf K "Ring")) = some false
  n_ValueError : PySem.W.kitOne K (.type "NoneType") (.type "ValueError") = some false
  u_KEYS : ∃ a, TupC K mg "KEYS" a [(Str.ofString "steps"), (Str.ofString "before"), (Str.ofString "most"), (Str.ofString "least"), (Str.ofString "apart"), (Str.ofString "same")]
  t_FIGURES : Tok
  c_FIGURES : mg "FIGURES" = some (.str (Str.ofString "123456") t_FIGURES)
  t_LETTERS : Tok
  c_LETTERS : mg "LETTERS" = some (.str (Str.ofString "abcdefghijklmnopqrstuvwxyz") t_LETTERS)
  t_LONGEST : Tok
  c_LONGEST : mg "LONGEST" = some (.int 8 t_LONGEST)
  t_MOST_STEPS : Tok
  c_MOST_STEPS : mg "MOST_STEPS" = some (.int 6 t_MOST_STEPS)
  t_MOST_TIES : Tok
  c_MOST_TIES : mg "MOST_TIES" = some (.int 12 t_MOST_TIES)
section
variable {P : Program} {w : World} {K : PySem.W.Frag} {mg : Str → Option Value} {base : Heap}
theorem ok_is_name (T : Txt K mg) : FnOk P w K mg base CX0 1 T.a_is_name T.d_is_name ["thing"] (spD K (fun _ => 0) 1 Fn.is_name_33f3) :=
  ok_def T.F_is_name sc_is_name fun cdv A outer s H E F0 as hr =>
  (ss_cons (s_if (t_w (w_or (t_not (dt_val (d_isi rfl (v_R (pv 0)) (ty_of T.z_str (by decide +kernel)) (by decide +kernel) T.z_isinstance))) (w_or1 (t_not (dt_chain (DL.OpR.or op_le op_le_str) (DL.OpR.or op_le op_le_str) rLe_ok rLe_ok (r_of_o c_int) (r_of_o (DL.d_len rfl T.z_len (w_cons (v_R (pv 0)) w_nil))) (r_of_o (c_globI T.c_LONGEST))))))) (ss_one (s_retO c_bl)) ss_nil)
  (ss_cons (s_for rfl (i_seqE rfl (v_E (pv 0))) (g_name (i := 1) (own := [1]) sc_is_name.nd) (ss_one (s_if (dt_notin rfl hr (v_R (pv 1)) (r_of_o (c_globS T.c_LETTERS))) (ss_one (s_retO c_bl)) ss_nil)) PassesOwn.never)
  (ss_one (s_retO c_bl))))
theorem ok_free (T : Txt K mg) : FnOk P w K mg base CX0 1 T.a_free T.d_free ["order", "placed", "step"] (spV K (fun _ => 0) 3 Fn.free_935b) :=
  ok_defV T.F_free sc_free fun ds vs cdv A outer s H E F0 as hr =>
  (ss_cons (s_for rfl (i_seqL rfl (pv 0)) (g_name (i := 3) (own := [3]) sc_free.nd) (ss_one (s_if (t_w (w_and (dt_eq rfl hr (r_of_e (d_ixA rfl (eu1 hr) (v_R (pv 3)) (r_of_o c_int))) (v_L (pv 2))) (w_and1 (dt_notin rfl hr (r_of_e (d_ixA rfl (eu1 hr) (v_R (pv 3)) (r_of_o c_int))) (v_L (pv 1)))))) (ss_one (s_retO c_bl)) ss_nil)) PassesOwn.never)
  (ss_one (s_retO c_bl)))
theorem ok_one_ahead (T : Txt K mg) : FnOk P w K mg base CX0 1 T.a_one_ahead T.d_one_ahead ["order", "left", "step"] (spD K (fun _ => 0) 3 Fn.one_ahead_d424) :=
  ok_def T.F_one_ahead sc_one_ahead fun cdv A outer s H E F0 as hr =>
  (ss_cons (s_for rfl (i_seqE rfl (v_E (pv 0))) (g_name (i := 3) (own := [3]) sc_one_ahead.nd) (ss_one (s_if (t_w (w_and (dt_eq rfl hr (r_of_e (d_ixA rfl (eu1 hr) (v_R (pv 3)) (r_of_o c_int))) (v_R (pv 2))) (w_and1 (dt_in rfl hr (r_of_e (d_ixA rfl (eu1 hr) (v_R (pv 3)) (r_of_o c_int))) (v_R (pv 1)))))) (ss_one (s_ret (d_ixA rfl (eu1 hr) (v_R (pv 3)) (r_of_o c_int)))) ss_nil)) PassesOwn.never)
  (ss_one (s_ret (v_E (pv 2)))))
theorem ok_place_of (T : Txt K mg) : FnOk P w K mg base (L2.CX P w) 1 T.a_place_of T.d_place_of ["word", "acts"] (spD K (clsOf K) 2 Fn.place_of_78d6) :=
  ok_defX T.F_place_of sc_place_of fun cdv A outer s H E F0 as hr tk =>
  (ss_cons (s_if (dt_notin rfl hr (v_R (pv 0)) (v_R (pv 1))) (ss_one (s_raise rfl tk T.E_NoText (fun _ _ h => h))) ss_nil)
  (ss_one (s_retO (d_index rfl (v_R (pv 1)) (v_R (pv 0))))))
theorem ok__law_cell (T : Txt K mg) : FnOk P w K mg base CX0 1 T.a__law_cell T.d__law_cell ["script", "k"] (spD K (fun _ => 0) 2 Fn.law_cell_cb3a) :=
  ok_def T.F__law_cell sc__law_cell fun cdv A outer s H E F0 as hr =>
  (ss_cons (s_if (dt_lt (v_R (pv 1)) (r_of_o (DL.d_len rfl T.z_len (w_cons (v_R (pv 0)) w_nil)))) (ss_one (s_ret (d_ixA rfl (eu1 hr) (v_R (pv 0)) (v_R (pv 1))))) ss_nil)
  (ss_one (s_retO c_int)))
theorem ok__law_entries (T : Txt K mg) : FnOk P w K mg base CX0 1 T.a__law_entries T.d__law_entries ["script", "size"] (spD K (fun _ => 0) 2 Fn.law_entries_7bb9) :=
  ok_def T.F__law_entries sc__law_entries fun cdv A outer s H E F0 as hr =>
  (ss_cons (s_set (i := 2) (e_of_o c_int) sc__law_entries.nd)
  (ss_cons (s_for rfl (i_seqE rfl (e_of_o (d_slice rfl (v_R (pv 0)) p_none (p_some c_int)))) (g_name (i := 3) (own := [3]) sc__law_entries.nd) (ss_one (s_set (i := 2) (e_of_o (d_mod (r_of_o (d_add rfl (r_of_o (d_mul (v_R (pv 2)) (r_of_o c_int))) (v_R (pv 3)))) (r_of_o c_int))) sc__law_entries.nd)) PassesOwn.never)
  (ss_cons (s_setO (i := 4) (d_lst a_nil) sc__law_entries.nd)
  (ss_cons (s_for rfl (i_range1 T.z_range (w_cons (v_R (pv 1)) w_nil)) (g_name (i := 5) (own := [5]) sc__law_entries.nd) (ss_cons (s_set (i := 2) (e_of_o (d_mod (r_of_o (d_add rfl (r_of_o (d_add rfl (r_of_o (d_add rfl (r_of_o (d_mul (v_R (pv 2)) (v_R (pv 2)))) (r_of_o (d_mul (r_of_o c_int) (v_R (pv 2)))))) (v_R (pv 5)))) (r_of_o c_int))) (r_of_o c_int))) sc__law_entries.nd)
  (ss_one (s_append (pv 4) (v_E (pv 2))))) PassesOwn.never)
  (ss_cons (s_for rfl (i_range2 T.z_range (w_cons (r_of_o c_int) (w_cons (r_of_o (DL.d_len rfl T.z_len (w_cons (v_R (pv 0)) w_nil))) w_nil))) (g_name (i := 5) (own := [5]) sc__law_entries.nd) (ss_one (s_put (eu1 hr) (pv 4) (d_ixA rfl (eu1 hr) (v_R (pv 0)) (v_R (pv 5))) (r_of_o (d_mod (r_of_o (d_sub (v_R (pv 5)) (r_of_o c_int))) (v_R (pv 1)))))) PassesOwn.never)
  (ss_one (s_retN (pv 4))))))))
theorem ok__law_name (T : Txt K mg) : FnOk P w K mg base CX0 1 T.a__law_name T.d__law_name ["cell", "shift", "before"] (spD K (fun _ => 0) 3 Fn.law_name_03ec) :=
  ok_def T.F__law_name sc__law_name fun cdv A outer s H E F0 as hr =>
  (ss_cons (s_set (i := 3) (e_of_o c_str) sc__law_name.nd)
  (ss_cons (s_if (t_w (w_and (dt_eq rfl hr (r_of_o (d_mod (v_R (pv 0)) (r_of_o c_int))) (r_of_o c_int)) (w_and1 (dt_chain (DL.OpR.or op_lt op_lt_str) (DL.OpR.or op_lt op_lt_str) rLt_ok rLt_ok (r_of_o c_int) (r_of_o (DL.d_len rfl T.z_len (w_cons (v_R (pv 2)) w_nil))) (r_of_o c_int))))) (ss_one (s_retO (d_add rfl (v_R (pv 2)) (r_of_e (d_ixA rfl (eu1 hr) (v_R (pv 3)) (r_of_o (d_mod (r_of_o (d_add rfl (r_of_o (d_div (v_R (pv 0)) (r_of_o c_int))) (v_R (pv 1)))) (r_of_o c_int)))))))) ss_nil)
  (ss_cons (s_if (dt_eq rfl hr (r_of_o (d_mod (v_R (pv 0)) (r_of_o c_int))) (r_of_o c_int)) (ss_cons (s_set (i := 9) (d_ixA rfl (eu1 hr) (r_of_o (d_lst (a_cons (e_of_o c_str) (a_cons (e_of_o c_str) (a_cons (e_of_o c_str) (a_cons (e_of_o c_str) (a_cons (e_of_o c_str) (a_cons (e_of_o c_str) a_nil)))))))) (r_of_o (d_mod (r_of_o (d_div (v_R (pv 0)) (r_of_o c_int))) (r_of_o c_int)))) sc__law_name.nd)
  (ss_one (s_retO (d_add rfl (v_R (pv 9)) (r_of_e (d_ixA rfl (eu1 hr) (v_R (pv 3)) (r_of_o (d_mod (r_of_o (d_add rfl (r_of_o (d_div (v_R (pv 0)) (r_of_o c_int))) (v_R (pv 1)))) (r_of_o c_int))))))))) ss_nil)
  (ss_cons (s_set (i := 4) (e_of_o (d_add rfl (r_of_o c_int) (r_of_o (d_mod (r_of_o (d_div (v_R (pv 0)) (r_of_o c_int))) (r_of_o c_int))))) sc__law_name.nd)
  (ss_cons (s_set (i := 5) (e_of_o (d_mod (r_of_o (d_div (v_R (pv 0)) (r_of_o c_int))) (v_R (pv 4)))) sc__law_name.nd)
  (ss_cons (s_set (i := 6) (e_of_o (d_mod (r_of_o (d_div (v_R (pv 0)) (r_of_o c_int))) (r_of_o (d_pow (r_of_o c_int) (r_of_o c_int))))) sc__law_name.nd)
  (ss_cons (s_set (i := 7) (e_of_o c_str) sc__law_name.nd)
  (ss_cons (s_for rfl (i_range1 T.z_range (w_cons (v_R (pv 4)) w_nil)) (g_name (i := 8) (own := [8]) sc__law_name.nd) (ss_cons (s_if (dt_eq rfl hr (v_R (pv 8)) (v_R (pv 5))) (ss_one (s_set (i := 7) (e_of_o (d_add rfl (v_R (pv 7)) (r_of_e (d_ixA rfl (eu1 hr) (v_R (pv 3)) (r_of_o (d_mod (r_of_o (d_add rfl (v_R (pv 6)) (v_R (pv 1)))) (r_of_o c_int))))))) sc__law_name.nd)) (ss_one (s_set (i := 7) (e_of_o (d_add rfl (v_R (pv 7)) (r_of_e (d_ixA rfl (eu1 hr) (v_R (pv 3)) (r_of_o (d_mod (v_R (pv 6)) (r_of_o c_int))))))) sc__law_name.nd)))
  (ss_one (s_if (dt_gt (r_of_o (d_mod (v_R (pv 0)) (r_of_o c_int))) (r_of_o c_int)) (ss_one (s_set (i := 6) (e_of_o (d_div (v_R (pv 6)) (r_of_o c_int))) sc__law_name.nd)) ss_nil))) PassesOwn.never)
  (ss_one (s_ret (v_E (pv 7))))))))))))
theorem ok__law_part (T : Txt K mg) : FnOk P w K mg base CX0 1 T.a__law_part T.d__law_part ["cells", "acts", "turn"] (spD K (fun _ => 0) 3 Fn.law_part_16b1) :=
  ok_def T.F__law_part sc__law_part fun cdv A outer s H E F0 as hr =>
  (ss_cons (s_set (i := 3) (e_of_o (DL.d_len rfl T.z_len (w_cons (v_R (pv 1)) w_nil))) sc__law_part.nd)
  (ss_cons (s_set (i := 4) (e_of_o (d_mod (r_of_o (d_div (r_of_e (d_ixA rfl (eu1 hr) (v_R (pv 0)) (r_of_o c_int))) (r_of_o c_int))) (v_R (pv 3)))) sc__law_part.nd)
  (ss_cons (s_set (i := 5) (e_of_o (d_mod (r_of_e (d_ixA rfl (eu1 hr) (v_R (pv 0)) (r_of_o c_int))) (v_R (pv 3)))) sc__law_part.nd)
  (ss_cons (s_if (t_w (w_and (dt_eq rfl hr (r_of_o (d_mod (r_of_e (d_ixA rfl (eu1 hr) (v_R (pv 0)) (r_of_o c_int))) (r_of_o c_int))) (r_of_o c_int)) (w_and1 (dt_ne rfl hr (v_R (pv 4)) (v_R (pv 5)))))) (ss_cons (s_if (dt_gt (r_of_o (d_mod (r_of_o (d_mul (v_R (pv 4)) (v_R (pv 2)))) (r_of_o c_int))) (r_of_o (d_mod (r_of_o (d_mul (v_R (pv 5)) (v_R (pv 2)))) (r_of_o c_int)))) (ss_one (s_unp (e_of_o (d_tup (a_cons (v_E (pv 5)) (a_cons (v_E (pv 4)) a_nil)))) (g_seq rfl (gs_cons (g_name (i := 4) (own := [4, 5]) sc__law_part.nd) (gs_cons (g_name (i := 5) (own := [4, 5]) sc__law_part.nd) gs_nil))))) ss_nil)
  (ss_one (s_retO (d_tup (a_cons (e_of_o (d_add rfl (r_of_o (d_add rfl (r_of_e (d_ixA rfl (eu1 hr) (v_R (pv 1)) (v_R (pv 4)))) (r_of_o c_str))) (r_of_e (d_ixA rfl (eu1 hr) (v_R (pv 1)) (v_R (pv 5)))))) (a_cons (e_of_o (d_tup (a_cons (v_E (pv 4)) (a_cons (v_E (pv 5)) a_nil)))) (a_cons (e_of_o c_non) a_nil))))))) ss_nil)
  (ss_cons (s_set (i := 6) (e_of_o (DL.d_sorted rfl T.z_sorted (w_cons (r_of_o (d_lst (a_cons (v_E (pv 4)) (a_cons (v_E (pv 5)) a_nil)))) w_nil))) sc__law_part.nd)
  (ss_cons (s_if (t_w (w_and (dt_eq rfl hr (r_of_o (d_mod (r_of_e (d_ixA rfl (eu1 hr) (v_R (pv 0)) (r_of_o c_int))) (r_of_o c_int))) (r_of_o c_int)) (w_and1 (dt_ne rfl hr (v_R (pv 4)) (v_R (pv 5)))))) (ss_one (s_retO (d_tup (a_cons (e_of_o (d_add rfl (r_of_o (d_add rfl (r_of_o (d_add rfl (r_of_o c_str) (r_of_e (d_ixA rfl (eu1 hr) (v_R (pv 1)) (v_R (pv 4)))))) (r_of_o c_str))) (r_of_e (d_ixA rfl (eu1 hr) (v_R (pv 1)) (v_R (pv 5)))))) (a_cons (e_of_o c_non) (a_cons (e_of_o (d_tup (a_cons (e_of_o c_str) (a_cons (e_of_o c_int) (a_cons (e_of_o (DL.d_tuple rfl T.z_tuple (w_cons (v_R (pv 6)) w_nil))) a_nil))))) a_nil)))))) ss_nil)
  (ss_cons (s_if (t_w (w_and (dt_eq rfl hr (r_of_o (d_mod (r_of_e (d_ixA rfl (eu1 hr) (v_R (pv 0)) (r_of_o c_int))) (r_of_o c_int))) (r_of_o c_int)) (w_and1 (dt_ne rfl hr (v_R (pv 4)) (v_R (pv 5)))))) (ss_one (s_retO (d_tup (a_cons (e_of_o (d_add rfl (r_of_o (d_add rfl (r_of_o (d_add rfl (r_of_o c_str) (r_of_e (d_ixA rfl (eu1 hr) (v_R (pv 1)) (v_R (pv 4)))))) (r_of_o c_str))) (r_of_e (d_ixA rfl (eu1 hr) (v_R (pv 1)) (v_R (pv 5)))))) (a_cons (e_of_o c_non) (a_cons (e_of_o (d_tup (a_cons (e_of_o c_str) (a_cons (e_of_o c_int) (a_cons (e_of_o (DL.d_tuple rfl T.z_tuple (w_cons (v_R (pv 6)) w_nil))) a_nil))))) a_nil)))))) ss_nil)
  (ss_cons (s_toC (s_setLc (i := 6) (own := [("k", 12)]) rfl sc__law_part.nd (i_range1 T.z_range (w_cons (v_R (pv 3)) w_nil)) (blkOk_by (own := [("k", 12)]) (N := N__law_part) (sc := defScope s__law_part) (by decide +kernel)) (fun _ _ _ _ _ => (g_name (i := 12) (own := [12]) sc__law_part.nd)) (fun _ _ _ _ _ => (ts_one (t_w (w_or (dt_eq rfl hr (v_R (pv 12)) (v_R (pv 5))) (w_or1 (dt_eq rfl hr (r_of_o (d_mod (r_of_o (d_shr (r_of_e (d_ixA rfl (eu1 hr) (v_R (pv 0)) (r_of_o c_int))) (r_of_o (d_add rfl (v_R (pv 12)) (r_of_o c_int))))) (r_of_o c_int))) (r_of_o c_int))))))) (fun _ _ _ _ _ => (v_E (pv 12))) (sw_true rfl rfl rfl (by decide +kernel))))
  (ss_cons (s_set (i := 7) (d_ixA rfl (eu1 hr) (r_of_o (d_lst (a_cons (e_of_o c_str) (a_cons (e_of_o c_str) a_nil)))) (r_of_o (d_mod (r_of_o (d_div (r_of_e (d_ixA rfl (eu1 hr) (v_R (pv 0)) (r_of_o c_int))) (r_of_o c_int))) (r_of_o c_int)))) sc__law_part.nd)
  (ss_cons (s_set (i := 8) (e_of_o (d_add rfl (r_of_o c_int) (r_of_o (d_mod (r_of_e (d_ixA rfl (eu1 hr) (v_R (pv 0)) (r_of_o c_int))) (r_of_o c_int))))) sc__law_part.nd)
  (ss_cons (s_set (i := 9) (e_of_o (d_mod (r_of_o (d_div (r_of_e (d_ixA rfl (eu1 hr) (v_R (pv 0)) (r_of_o c_int))) (r_of_o c_int))) (r_of_o (DL.d_len rfl T.z_len (w_cons (v_R (pv 6)) w_nil))))) sc__law_part.nd)
  (ss_cons (s_set (i := 10) (e_of_o (d_add rfl (r_of_o (d_slice rfl (v_R (pv 6)) (p_some (o_of_e (v_E (pv 9)))) p_none)) (r_of_o (d_slice rfl (v_R (pv 6)) p_none (p_some (o_of_e (v_E (pv 9)))))))) sc__law_part.nd)
  (ss_cons (s_if (dt_eq rfl hr (r_of_o (d_mod (r_of_o (d_div (r_of_e (d_ixA rfl (eu1 hr) (v_R (pv 0)) (r_of_o c_int))) (r_of_o c_int))) (r_of_o c_int))) (r_of_o c_int)) (ss_one (s_set (i := 10) (e_of_o (d_lstRev rfl rfl T.z_list T.z_reversed (v_R (pv 10)))) sc__law_part.nd)) ss_nil)
  (ss_cons (s_set (i := 11) (e_of_o (d_join rfl (r_of_o c_str) (r_of_o (d_add rfl (r_of_o (d_lst (a_cons (v_E (pv 7)) (a_cons (e_of_o (DL.d_str T.z_str (w_cons (v_R (pv 8)) w_nil))) a_nil)))) (r_of_o (d_lc (own := [("k", 12)]) rfl sc__law_part.nd (i_seqR rfl (v_R (pv 10))) (blkOk_by (own := [("k", 12)]) (N := N__law_part) (sc := defScope s__law_part) (by decide +kernel)) (fun _ _ _ _ _ => (g_name (i := 12) (own := [12]) sc__law_part.nd)) (fun _ _ _ _ _ => ts_nil) (fun _ _ _ _ _ => (d_ixA rfl (eu1 hr) (v_R (pv 1)) (v_R (pv 12)))))))))) sc__law_part.nd)
  (ss_one (s_retO (d_tup (a_cons (v_E (pv 11)) (a_cons (e_of_o c_non) (a_cons (e_of_o (d_tup (a_cons (v_E (pv 7)) (a_cons (v_E (pv 8)) (a_cons (e_of_o (DL.d_tuple rfl T.z_tuple (w_cons (v_R (pv 6)) w_nil))) a_nil))))) a_nil))))))))))))))))))))
theorem ok__law_text (T : Txt K mg) : FnOk P w K mg base CX0 1 T.a__law_text T.d__law_text ["acts", "parts"] (spD K (fun _ => 0) 2 Fn.law_text_8b1d) :=
  ok_def T.F__law_text sc__law_text fun cdv A outer s H E F0 as hr =>
  (ss_one (s_retO (d_join rfl (r_of_o c_str) (r_of_o (d_add rfl (r_of_o (d_lst (a_cons (e_of_o (d_join rfl (r_of_o c_str) (r_of_o (d_add rfl (r_of_o (d_lst (a_cons (e_of_o c_str) a_nil))) (v_R (pv 0)))))) a_nil))) (r_of_o (d_lc (own := [("part", 2)]) rfl sc__law_text.nd (i_seqR rfl (v_R (pv 1))) (blkOk_by (own := [("part", 2)]) (N := N__law_text) (sc := defScope s__law_text) (by decide +kernel)) (fun _ _ _ _ _ => (g_name (i := 2) (own := [2]) sc__law_text.nd)) (fun _ _ _ _ _ => ts_nil) (fun _ _ _ _ _ => (d_ixA rfl (eu1 hr) (v_R (pv 2)) (r_of_o c_int))))))))))
theorem ok__law_bad_part (T : Txt K mg) : FnOk P w K mg base CX0 1 T.a__law_bad_part T.d__law_bad_part ["a", "x", "cell"] (spD K (fun _ => 0) 3 Fn.law_bad_part_a01f) :=
  ok_def T.F__law_bad_part sc__law_bad_part fun cdv A outer s H E F0 as hr =>
  (ss_cons (s_set (i := 3) (e_of_o (d_lst (a_cons (e_of_o (d_add rfl (r_of_o (d_add rfl (v_R (pv 1)) (r_of_o c_str))) (v_R (pv 0)))) (a_cons (e_of_o (d_add rfl (r_of_o (d_add rfl (v_R (pv 0)) (r_of_o c_str))) (v_R (pv 1)))) (a_cons (e_of_o (d_add rfl (v_R (pv 0)) (r_of_o c_str))) (a_cons (e_of_o (d_add rfl (r_of_o c_str) (v_R (pv 0)))) (a_cons (e_of_o (d_add rfl (r_of_o (d_add rfl (r_of_o (d_add rfl (r_of_o (d_add rfl (v_R (pv 0)) (r_of_o c_str))) (v_R (pv 0)))) (r_of_o c_str))) (v_R (pv 0)))) a_nil))))))) sc__law_bad_part.nd)
  (ss_cons (s_set (i := 3) (e_of_o (d_add rfl (v_R (pv 3)) (r_of_o (d_lst (a_cons (e_of_o (d_add rfl (r_of_o (d_add rfl (v_R (pv 0)) (r_of_o c_str))) (v_R (pv 0)))) (a_cons (v_E (pv 0)) (a_cons (e_of_o (d_add rfl (r_of_o c_str) (v_R (pv 0)))) (a_cons (e_of_o c_str) (a_cons (e_of_o (d_add rfl (r_of_o c_str) (v_R (pv 0)))) (a_cons (e_of_o (d_add rfl (r_of_o c_str) (v_R (pv 0)))) (a_cons (e_of_o (d_add rfl (r_of_o c_str) (v_R (pv 1)))) a_nil))))))))))) sc__law_bad_part.nd)
  (ss_cons (s_set (i := 3) (e_of_o (d_add rfl (v_R (pv 3)) (r_of_o (d_lst (a_cons (e_of_o (d_add rfl (r_of_o (d_add rfl (r_of_o (d_add rfl (r_of_o c_str) (v_R (pv 0)))) (r_of_o c_str))) (v_R (pv 0)))) (a_cons (e_of_o (d_add rfl (r_of_o c_str) (v_R (pv 0)))) (a_cons (e_of_o (d_add rfl (r_of_o c_str) (v_R (pv 0)))) (a_cons (e_of_o (d_add rfl (r_of_o c_str) (v_R (pv 0)))) (a_cons (e_of_o (d_add rfl (r_of_o c_str) (v_R (pv 0)))) a_nil))))))))) sc__law_bad_part.nd)
  (ss_cons (s_set (i := 3) (e_of_o (d_add rfl (v_R (pv 3)) (r_of_o (d_lst (a_cons (e_of_o (d_add rfl (r_of_o (d_add rfl (r_of_o c_str) (v_R (pv 0)))) (r_of_o c_str))) (a_cons (e_of_o (d_add rfl (r_of_o (d_add rfl (r_of_o (d_add rfl (r_of_o c_str) (v_R (pv 0)))) (r_of_o c_str))) (v_R (pv 0)))) (a_cons (e_of_o (d_add rfl (r_of_o c_str) (v_R (pv 0)))) (a_cons (e_of_o (d_add rfl (r_of_o (d_add rfl (r_of_o (d_add rfl (r_of_o c_str) (v_R (pv 0)))) (r_of_o c_str))) (v_R (pv 1)))) (a_cons (e_of_o c_str) a_nil))))))))) sc__law_bad_part.nd)
  (ss_cons (s_set (i := 3) (e_of_o (d_add rfl (v_R (pv 3)) (r_of_o (d_lst (a_cons (e_of_o (d_add rfl (r_of_o (d_add rfl (r_of_o (d_add rfl (r_of_o c_str) (v_R (pv 0)))) (r_of_o c_str))) (v_R (pv 0)))) (a_cons (e_of_o c_str) (a_cons (e_of_o (d_add rfl (r_of_o c_str) (v_R (pv 0)))) (a_cons (e_of_o (d_add rfl (r_of_o c_str) (v_R (pv 0)))) (a_cons (e_of_o (d_add rfl (r_of_o c_str) (v_R (pv 0)))) (a_cons (e_of_o (d_add rfl (r_of_o c_str) (v_R (pv 0)))) a_nil)))))))))) sc__law_bad_part.nd)
  (ss_cons (s_set (i := 3) (e_of_o (d_add rfl (v_R (pv 3)) (r_of_o (d_lst (a_cons (e_of_o (d_add rfl (r_of_o (d_add rfl (r_of_o (d_add rfl (v_R (pv 0)) (r_of_o c_str))) (v_R (pv 0)))) (r_of_o c_str))) (a_cons (e_of_o (d_add rfl (r_of_o c_str) (v_R (pv 0)))) (a_cons (e_of_o (d_add rfl (r_of_o c_str) (v_R (pv 0)))) (a_cons (e_of_o (d_add rfl (r_of_o (d_add rfl (v_R (pv 0)) (r_of_o c_str))) (v_R (pv 0)))) a_nil)))))))) sc__law_bad_part.nd)
  (ss_cons (s_set (i := 3) (e_of_o (d_add rfl (v_R (pv 3)) (r_of_o (d_lst (a_cons (e_of_o (d_add rfl (r_of_o (d_add rfl (r_of_o (d_add rfl (r_of_o (d_add rfl (r_of_o (d_add rfl (r_of_o (d_add rfl (v_R (pv 0)) (r_of_o c_str))) (v_R (pv 0)))) (r_of_o c_str))) (v_R (pv 0)))) (r_of_o c_str))) (v_R (pv 0)))) (a_cons (e_of_o (d_join rfl (r_of_o c_str) (r_of_o (d_mul (r_of_o (d_lst (a_cons (e_of_o (d_add rfl (r_of_o c_str) (v_R (pv 0)))) a_nil))) (r_of_o c_int))))) (a_cons (e_of_o c_str) (a_cons (e_of_o c_str) a_nil)))))))) sc__law_bad_part.nd)
  (ss_cons (s_set (i := 3) (e_of_o (d_add rfl (v_R (pv 3)) (r_of_o (d_lst (a_cons (e_of_o (d_add rfl (r_of_o (d_add rfl (r_of_o (d_add rfl (r_of_o (d_add rfl (r_of_o (d_add rfl (r_of_o c_str) (v_R (pv 0)))) (r_of_o c_str))) (v_R (pv 0)))) (r_of_o c_str))) (v_R (pv 0)))) (a_cons (e_of_o c_str) (a_cons (e_of_o (d_add rfl (r_of_o (d_add rfl (r_of_o (d_add rfl (r_of_o c_str) (v_R (pv 0)))) (r_of_o c_str))) (v_R (pv 1)))) (a_cons (e_of_o c_str) (a_cons (e_of_o (d_add rfl (r_of_o c_str) (v_R (pv 0)))) a_nil))))))))) sc__law_bad_part.nd)
  (ss_one (s_ret (d_ixA rfl (eu1 hr) (v_R (pv 3)) (r_of_o (d_mod (v_R (pv 2)) (r_of_o (DL.d_len rfl T.z_len (w_cons (v_R (pv 3)) w_nil))))))))))))))))
theorem ok_next_free (T : Txt K mg) : FnOk P w K mg base CX0 2 T.a_next_free T.d_next_free ["count", "order", "placed"] (spV K (fun _ => 0) 3 Fn.next_free_7b8a) :=
  ok_defV T.F_next_free sc_next_free fun ds vs cdv A outer s H E F0 as hr =>
  (ss_cons (s_for rfl (i_range1 T.z_range (w_cons (v_L (pv 0)) w_nil)) (g_name (i := 3) (own := [3]) sc_next_free.nd) (ss_one (s_if (t_w (w_and (dt_notin rfl hr (v_R (pv 3)) (v_L (pv 2))) (w_and1 (dt_val (d_callOV (ok_free T) bodyV_len (hr.mono (by decide)) T.m_free T.F_free.kp T.b_free passN (fun _ _ _ _ => trivial) (w_cons (v_L (pv 1)) (w_cons (v_L (pv 2)) (w_cons (v_R (pv 3)) w_nil)))))))) (ss_one (s_ret (v_E (pv 3)))) ss_nil)) PassesOwn.never)
  (ss_one (s_retO c_non)))
theorem ok_acts_of (T : Txt K mg) : FnOk P w K mg base (L2.CX P w) 2 T.a_acts_of T.d_acts_of ["part"] (spD K (clsOf K) 1 Fn.acts_of_9cd3) :=
  ok_defX T.F_acts_of sc_acts_of fun cdv A outer s H E F0 as hr tk =>
  (ss_cons (s_set (i := 1) (e_of_o (d_split (v_R (pv 0)) (r_of_o c_str))) sc_acts_of.nd)
  (ss_cons (s_set (i := 2) (e_of_o (d_slice rfl (v_R (pv 1)) (p_some c_int) p_none)) sc_acts_of.nd)
  (ss_cons (s_if (t_w (w_or (dt_ne rfl hr (r_of_e (d_ixA rfl (eu1 hr) (v_R (pv 1)) (r_of_o c_int))) (r_of_o c_str)) (w_or (t_not (dt_chain (DL.OpR.or op_le op_le_str) (DL.OpR.or op_le op_le_str) rLe_ok rLe_ok (r_of_o c_int) (r_of_o (DL.d_len rfl T.z_len (w_cons (v_R (pv 2)) w_nil))) (r_of_o (c_globI T.c_MOST_STEPS)))) (w_or1 (dt_ne rfl hr (r_of_o (d_lenSetT rfl rfl T.z_len T.z_set (w_cons (v_R (pv 2)) w_nil))) (r_of_o (DL.d_len rfl T.z_len (w_cons (v_R (pv 2)) w_nil)))))))) (ss_one (s_raise rfl tk T.E_NoText (fun _ _ h => h))) ss_nil)
  (ss_cons (s_for rfl (i_seqE rfl (v_E (pv 2))) (g_name (i := 3) (own := [3]) sc_acts_of.nd) (ss_one (s_if (t_w (w_or (t_not (dt_val (d_callO (ok_is_name T) bodyN_len (hr.mono (by decide)) T.m_is_name T.F_is_name.kp T.b_is_name passN (fun _ _ _ _ => trivial) (a_cons (v_E (pv 3)) a_nil)))) (w_or1 (dt_inK rfl (v_R (pv 3)) T.u_KEYS.choose_spec)))) (ss_one (s_raise rfl tk T.E_NoText (fun _ _ h => h))) ss_nil)) (passes_of rfl))
  (ss_one (s_ret (v_E (pv 2))))))))
theorem ok_places_of (T : Txt K mg) : FnOk P w K mg base (L2.CX P w) 2 T.a_places_of T.d_places_of ["words", "acts"] (spD K (clsOf K) 2 Fn.places_of_cdd9) :=
  ok_defX T.F_places_of sc_places_of fun cdv A outer s H E F0 as hr tk =>
  (ss_cons (s_if (dt_ne rfl hr (r_of_o (d_lenSetT rfl rfl T.z_len T.z_set (w_cons (v_R (pv 0)) w_nil))) (r_of_o (DL.d_len rfl T.z_len (w_cons (v_R (pv 0)) w_nil)))) (ss_one (s_raise rfl tk T.E_NoText (fun _ _ h => h))) ss_nil)
  (ss_one (s_retO (DL.d_tuple rfl T.z_tuple (w_cons (r_of_o (DL.d_sorted rfl T.z_sorted (w_cons (r_of_o (d_lcX (own := [("word", 2)]) rfl sc_places_of.nd rfl rfl tk (fun _ _ _ h => h) (i_seqR rfl (v_R (pv 0))) (blkOk_by (own := [("word", 2)]) (N := N_places_of) (sc := defScope s_places_of) (by decide +kernel)) (fun _ _ _ _ _ => (g_name (i := 2) (own := [2]) sc_places_of.nd)) (fun _ _ _ _ _ _ _ _ tk' => (d_callEX (ok_place_of T) bodyD_len (hr.mono (by decide)) T.m_place_of T.F_place_of.kp T.b_place_of tk' (fun _ _ _ h => h) (a_cons (v_E (pv 2)) (a_cons (v_E (pv 1)) a_nil)))))) w_nil))) w_nil)))))
theorem ok__law_acts (T : Txt K mg) : FnOk P w K mg base CX0 2 T.a__law_acts T.d__law_acts ["cells"] (spD K (fun _ => 0) 1 Fn.law_acts_52c7) :=
  ok_def T.F__law_acts sc__law_acts fun cdv A outer s H E F0 as hr =>
  (ss_cons (s_set (i := 1) (e_of_o (d_lst (a_cons (e_of_o c_str) (a_cons (e_of_o c_str) (a_cons (e_of_o c_str) (a_cons (e_of_o c_str) (a_cons (e_of_o c_str) (a_cons (e_of_o c_str) a_nil)))))))) sc__law_acts.nd)
  (ss_cons (s_setO (i := 2) (d_lst a_nil) sc__law_acts.nd)
  (ss_cons (s_set (i := 3) (e_of_o c_str) sc__law_acts.nd)
  (ss_cons (s_for rfl (i_seqE rfl (v_E (pv 0))) (g_name (i := 4) (own := [4]) sc__law_acts.nd) (ss_cons (s_set (i := 5) (e_of_o c_int) sc__law_acts.nd)
  (ss_cons (s_set (i := 6) (d_callE (ok__law_name T) bodyN_len (hr.mono (by decide)) T.m__law_name T.F__law_name.kp T.b__law_name passN (fun _ _ _ _ => trivial) (a_cons (v_E (pv 4)) (a_cons (e_of_o c_int) (a_cons (v_E (pv 3)) a_nil)))) sc__law_acts.nd)
  (ss_cons (s_while FU (t_w (w_or (dt_in rfl hr (v_R (pv 6)) (v_R (pv 2))) (w_or1 (dt_in rfl hr (v_R (pv 6)) (v_R (pv 1)))))) (ss_cons (s_set (i := 5) (e_of_o (d_add rfl (v_R (pv 5)) (r_of_o c_int))) sc__law_acts.nd)
  (ss_one (s_set (i := 6) (d_callE (ok__law_name T) bodyN_len (hr.mono (by decide)) T.m__law_name T.F__law_name.kp T.b__law_name passN (fun _ _ _ _ => trivial) (a_cons (v_E (pv 4)) (a_cons (v_E (pv 5)) (a_cons (v_E (pv 3)) a_nil)))) sc__law_acts.nd))) PassesOwn.never)
  (ss_cons (s_append (pv 2) (v_E (pv 6)))
  (ss_one (s_set (i := 3) (v_E (pv 6)) sc__law_acts.nd)))))) PassesOwn.never)
  (ss_one (s_retN (pv 2)))))))
theorem ok__law_parts (T : Txt K mg) : FnOk P w K mg base CX0 2 T.a__law_parts T.d__law_parts ["cells", "acts", "turn"] (spD K (fun _ => 0) 3 Fn.law_parts_881e) :=
  ok_def T.F__law_parts sc__law_parts fun cdv A outer s H E F0 as hr =>
  (ss_cons (s_setO (i := 3) (d_lst a_nil) sc__law_parts.nd)
  (ss_cons (s_for rfl (i_range3 T.z_range (w_cons (r_of_o c_int) (w_cons (r_of_o (d_sub (r_of_o (DL.d_len rfl T.z_len (w_cons (v_R (pv 0)) w_nil))) (r_of_o c_int))) (w_cons (r_of_o c_int) w_nil)))) (g_name (i := 4) (own := [4]) sc__law_parts.nd) (ss_cons (s_set (i := 5) (d_callE (ok__law_part T) bodyN_len (hr.mono (by decide)) T.m__law_part T.F__law_part.kp T.b__law_part passN (fun _ _ _ _ => trivial) (a_cons (e_of_o (d_slice rfl (v_R (pv 0)) (p_some (o_of_e (v_E (pv 4)))) (p_some (d_add rfl (v_R (pv 4)) (r_of_o c_int))))) (a_cons (v_E (pv 1)) (a_cons (v_E (pv 2)) a_nil)))) sc__law_parts.nd)
  (ss_cons (s_toC (s_setLc (i := 6) (own := [("one", 8)]) rfl sc__law_parts.nd (i_seqR rfl (v_R (pv 3))) (blkOk_by (own := [("one", 8)]) (N := N__law_parts) (sc := defScope s__law_parts) (by decide +kernel)) (fun _ _ _ _ _ => (g_name (i := 8) (own := [8]) sc__law_parts.nd)) (fun _ _ _ _ _ => (ts_one (dt_notN (r_of_e (d_ixA rfl (eu1 hr) (v_R (pv 8)) (r_of_o c_int))) (r_of_o c_non)))) (fun _ _ _ _ _ => (v_E (pv 8))) (sw_true rfl rfl rfl (by decide +kernel))))
  (ss_cons (s_toC (s_setLc (i := 7) (own := [("one", 8)]) rfl sc__law_parts.nd (i_seqR rfl (v_R (pv 3))) (blkOk_by (own := [("one", 8)]) (N := N__law_parts) (sc := defScope s__law_parts) (by decide +kernel)) (fun _ _ _ _ _ => (g_name (i := 8) (own := [8]) sc__law_parts.nd)) (fun _ _ _ _ _ => (ts_one (dt_notN (r_of_e (d_ixA rfl (eu1 hr) (v_R (pv 8)) (r_of_o c_int))) (r_of_o c_non)))) (fun _ _ _ _ _ => (d_ixA rfl (eu1 hr) (v_R (pv 8)) (r_of_o c_int))) (sw_true rfl rfl rfl (by decide +kernel))))
  (ss_one (s_if (t_w (w_or (t_w (w_and (dt_notN (r_of_e (d_ixA rfl (eu1 hr) (v_R (pv 5)) (r_of_o c_int))) (r_of_o c_non)) (w_and1 (dt_lt (r_of_o (DL.d_len rfl T.z_len (w_cons (v_R (pv 6)) w_nil))) (r_of_o c_int))))) (w_or1 (t_w (w_and (dt_notN (r_of_e (d_ixA rfl (eu1 hr) (v_R (pv 5)) (r_of_o c_int))) (r_of_o c_non)) (w_and1 (dt_notin rfl hr (r_of_e (d_ixA rfl (eu1 hr) (v_R (pv 5)) (r_of_o c_int))) (v_R (pv 7))))))))) (ss_one (s_append (pv 3) (v_E (pv 5)))) ss_nil))))) PassesOwn.never)
  (ss_one (s_retN (pv 3)))))
theorem ok_settled (T : Txt K mg) : FnOk P w K mg base CX0 3 T.a_settled T.d_settled ["count", "order"] (spD K (fun _ => 0) 2 Fn.settled_daa0) :=
  ok_def T.F_settled sc_settled fun cdv A outer s H E F0 as hr =>
  (ss_cons (s_setO (i := 2) (d_lst a_nil) sc_settled.nd)
  (ss_cons (s_set (i := 3) (d_callEV (ok_next_free T) bodyV_len (hr.mono (by decide)) T.m_next_free T.F_next_free.kp T.b_next_free passN (fun _ _ _ _ => trivial) (w_cons (v_R (pv 0)) (w_cons (v_R (pv 1)) (w_cons (v_R (pv 2)) w_nil)))) sc_settled.nd)
  (ss_cons (s_while FU (dt_notN (v_R (pv 3)) (r_of_o c_non)) (ss_cons (s_append (pv 2) (v_E (pv 3)))
  (ss_one (s_set (i := 3) (d_callEV (ok_next_free T) bodyV_len (hr.mono (by decide)) T.m_next_free T.F_next_free.kp T.b_next_free passN (fun _ _ _ _ => trivial) (w_cons (v_R (pv 0)) (w_cons (v_R (pv 1)) (w_cons (v_R (pv 2)) w_nil)))) sc_settled.nd))) PassesOwn.never)
  (ss_one (s_retN (pv 2))))))
theorem ok_tie_of (T : Txt K mg) : FnOk P w K mg base (L2.CX P w) 3 T.a_tie_of T.d_tie_of ["words", "acts"] (spD K (clsOf K) 2 Fn.tie_of_7f70) :=
  ok_defX T.F_tie_of sc_tie_of fun cdv A outer s H E F0 as hr tk =>
  (ss_cons (s_if (t_w (w_and (dt_in rfl hr (r_of_e (d_ixA rfl (eu1 hr) (v_R (pv 0)) (r_of_o c_int))) (r_of_o (d_tup (a_cons (e_of_o c_str) (a_cons (e_of_o c_str) a_nil))))) (w_and (dt_gt (r_of_o (DL.d_len rfl T.z_len (w_cons (v_R (pv 0)) w_nil))) (r_of_o c_int)) (w_and (dt_eq rfl hr (r_of_o (DL.d_len rfl T.z_len (w_cons (r_of_e (d_ixA rfl (eu1 hr) (v_R (pv 0)) (r_of_o c_int))) w_nil))) (r_of_o c_int)) (w_and1 (dt_in rfl hr (r_of_e (d_ixA rfl (eu1 hr) (v_R (pv 0)) (r_of_o c_int))) (r_of_o (c_globS T.c_FIGURES)))))))) (ss_one (s_retO (d_tup (a_cons (d_ixA rfl (eu1 hr) (v_R (pv 0)) (r_of_o c_int)) (a_cons (e_of_o (DL.d_intT T.z_int (w_cons (r_of_e (d_ixA rfl (eu1 hr) (v_R (pv 0)) (r_of_o c_int))) w_nil))) (a_cons (d_callEX (ok_places_of T) bodyD_len (hr.mono (by decide)) T.m_places_of T.F_places_of.kp T.b_places_of tk (fun _ _ _ h => h) (a_cons (e_of_o (d_slice rfl (v_R (pv 0)) (p_some c_int) p_none)) (a_cons (v_E (pv 1)) a_nil))) a_nil)))))) ss_nil)
  (ss_cons (s_if (t_w (w_and (dt_eq rfl hr (r_of_e (d_ixA rfl (eu1 hr) (v_R (pv 0)) (r_of_o c_int))) (r_of_o c_str)) (w_and1 (dt_eq rfl hr (r_of_o (DL.d_len rfl T.z_len (w_cons (v_R (pv 0)) w_nil))) (r_of_o c_int))))) (ss_one (s_retO (d_tup (a_cons (e_of_o c_str) (a_cons (e_of_o c_int) (a_cons (d_callEX (ok_places_of T) bodyD_len (hr.mono (by decide)) T.m_places_of T.F_places_of.kp T.b_places_of tk (fun _ _ _ h => h) (a_cons (e_of_o (d_slice rfl (v_R (pv 0)) (p_some c_int) p_none)) (a_cons (v_E (pv 1)) a_nil))) a_nil)))))) ss_nil)
  (ss_cons (s_if (t_w (w_and (dt_eq rfl hr (r_of_e (d_ixA rfl (eu1 hr) (v_R (pv 0)) (r_of_o c_int))) (r_of_o c_str)) (w_and1 (dt_eq rfl hr (r_of_o (DL.d_len rfl T.z_len (w_cons (v_R (pv 0)) w_nil))) (r_of_o c_int))))) (ss_one (s_retO (d_tup (a_cons (e_of_o c_str) (a_cons (e_of_o c_int) (a_cons (d_callEX (ok_places_of T) bodyD_len (hr.mono (by decide)) T.m_places_of T.F_places_of.kp T.b_places_of tk (fun _ _ _ h => h) (a_cons (e_of_o (d_slice rfl (v_R (pv 0)) (p_some c_int) p_none)) (a_cons (v_E (pv 1)) a_nil))) a_nil)))))) ss_nil)
  (ss_one (s_raise rfl tk T.E_NoText (fun _ _ h => h))))))
theorem ok__law_round (T : Txt K mg) : FnOk P w K mg base CX0 3 T.a__law_round T.d__law_round ["script"] (spD K (fun _ => 0) 1 Fn.law_round_66ce) :=
  ok_def T.F__law_round sc__law_round fun cdv A outer s H E F0 as hr =>
  (ss_cons (s_toC (s_setLc (i := 1) (own := [("k", 6)]) rfl sc__law_round.nd (i_range1 T.z_range (w_cons (r_of_o c_int) w_nil)) (blkOk_by (own := [("k", 6)]) (N := N__law_round) (sc := defScope s__law_round) (by decide +kernel)) (fun _ _ _ _ _ => (g_name (i := 6) (own := [6]) sc__law_round.nd)) (fun _ _ _ _ _ => ts_nil) (fun _ _ _ _ _ => (d_callE (ok__law_cell T) bodyN_len (hr.mono (by decide)) T.m__law_cell T.F__law_cell.kp T.b__law_cell passN (fun _ _ _ _ => trivial) (a_cons (v_E (pv 0)) (a_cons (v_E (pv 6)) a_nil)))) (sw_true rfl rfl rfl (by decide +kernel))))
  (ss_cons (s_set (i := 2) (d_ixA rfl (eu1 hr) (r_of_o (d_lst (a_cons (e_of_o c_int) (a_cons (e_of_o c_int) (a_cons (e_of_o c_int) (a_cons (e_of_o c_int) (a_cons (e_of_o c_int) (a_cons (e_of_o c_int) a_nil)))))))) (r_of_o (d_mod (r_of_e (d_ixA rfl (eu1 hr) (v_R (pv 1)) (r_of_o c_int))) (r_of_o c_int)))) sc__law_round.nd)
  (ss_cons (s_set (i := 3) (d_ixA rfl (eu1 hr) (r_of_o (d_lst (a_cons (e_of_o c_int) (a_cons (e_of_o c_int) (a_cons (e_of_o c_int) (a_cons (e_of_o c_int) (a_cons (e_of_o c_int) (a_cons (e_of_o c_int) (a_cons (e_of_o c_int) (a_cons (e_of_o c_int) a_nil)))))))))) (r_of_o (d_mod (r_of_o (d_div (r_of_e (d_ixA rfl (eu1 hr) (v_R (pv 1)) (r_of_o c_int))) (r_of_o c_int))) (r_of_o c_int)))) sc__law_round.nd)
  (ss_cons (s_set (i := 4) (d_callE (ok__law_entries T) bodyN_len (hr.mono (by decide)) T.m__law_entries T.F__law_entries.kp T.b__law_entries passN (fun _ _ _ _ => trivial) (a_cons (v_E (pv 0)) (a_cons (e_of_o (d_add rfl (v_R (pv 2)) (r_of_o (d_mul (r_of_o c_int) (v_R (pv 3)))))) a_nil))) sc__law_round.nd)
  (ss_cons (s_set (i := 5) (d_callE (ok__law_acts T) bodyN_len (hr.mono (by decide)) T.m__law_acts T.F__law_acts.kp T.b__law_acts passN (fun _ _ _ _ => trivial) (a_cons (e_of_o (d_slice rfl (v_R (pv 4)) p_none (p_some (o_of_e (v_E (pv 2)))))) a_nil)) sc__law_round.nd)
  (ss_one (s_retO (d_tup (a_cons (v_E (pv 5)) (a_cons (d_callE (ok__law_parts T) bodyN_len (hr.mono (by decide)) T.m__law_parts T.F__law_parts.kp T.b__law_parts passN (fun _ _ _ _ => trivial) (a_cons (e_of_o (d_slice rfl (v_R (pv 4)) (p_some (o_of_e (v_E (pv 2)))) p_none)) (a_cons (v_E (pv 5)) (a_cons (e_of_o (d_add rfl (r_of_o c_int) (r_of_o (d_mod (r_of_e (d_ixA rfl (eu1 hr) (v_R (pv 1)) (r_of_o c_int))) (r_of_o c_int))))) a_nil)))) a_nil))))))))))
theorem ok__law_bad_steps (T : Txt K mg) : FnOk P w K mg base CX0 3 T.a__law_bad_steps T.d__law_bad_steps ["acts", "cell"] (spD K (fun _ => 0) 2 Fn.law_bad_steps_be5e) :=
  ok_def T.F__law_bad_steps sc__law_bad_steps fun cdv A outer s H E F0 as hr =>
  (ss_cons (s_set (i := 2) (d_callE (ok__law_acts T) bodyN_len (hr.mono (by decide)) T.m__law_acts T.F__law_acts.kp T.b__law_acts passN (fun _ _ _ _ => trivial) (a_cons (e_of_o (d_lc (own := [("k", 6)]) rfl sc__law_bad_steps.nd (i_range1 T.z_range (w_cons (r_of_o c_int) w_nil)) (blkOk_by (own := [("k", 6)]) (N := N__law_bad_steps) (sc := defScope s__law_bad_steps) (by decide +kernel)) (fun _ _ _ _ _ => (g_name (i := 6) (own := [6]) sc__law_bad_steps.nd)) (fun _ _ _ _ _ => ts_nil) (fun _ _ _ _ _ => (e_of_o (d_add rfl (r_of_o (d_div (v_R (pv 1)) (r_of_o c_int))) (r_of_o (d_mul (r_of_o (d_mul (r_of_o c_int) (v_R (pv 6)))) (v_R (pv 6))))))))) a_nil)) sc__law_bad_steps.nd)
  (ss_cons (s_set (i := 3) (e_of_o (d_lst (a_cons (e_of_o c_str) (a_cons (e_of_o c_str) (a_cons (e_of_o c_str) (a_cons (e_of_o c_str) (a_cons (e_of_o c_str) (a_cons (e_of_o c_str) a_nil)))))))) sc__law_bad_steps.nd)
  (ss_cons (s_set (i := 4) (e_of_o (d_lst (a_cons (e_of_o (d_lst a_nil)) (a_cons (e_of_o (d_lst (a_cons (e_of_o c_str) a_nil))) (a_cons (e_of_o (d_add rfl (r_of_o (d_slice rfl (v_R (pv 0)) p_none (p_some c_int))) (r_of_o (d_lst (a_cons (d_ixA rfl (eu1 hr) (v_R (pv 0)) (r_of_o c_int)) a_nil))))) (a_cons (v_E (pv 2)) (a_cons (e_of_o (d_add rfl (r_of_o (d_slice rfl (v_R (pv 0)) p_none (p_some c_int))) (r_of_o (d_lst (a_cons (d_ixA rfl (eu1 hr) (v_R (pv 3)) (r_of_o (d_mod (r_of_o (d_div (v_R (pv 1)) (r_of_o c_int))) (r_of_o c_int)))) a_nil))))) (a_cons (e_of_o (d_add rfl (r_of_o (d_slice rfl (v_R (pv 0)) p_none (p_some c_int))) (r_of_o (d_lst (a_cons (e_of_o c_str) a_nil))))) a_nil)))))))) sc__law_bad_steps.nd)
  (ss_cons (s_set (i := 5) (e_of_o (d_join rfl (r_of_o c_str) (r_of_o (d_add rfl (r_of_o (d_lst (a_cons (e_of_o c_str) a_nil))) (r_of_e (d_ixA rfl (eu1 hr) (v_R (pv 4)) (r_of_o (d_mod (v_R (pv 1)) (r_of_o c_int))))))))) sc__law_bad_steps.nd)
  (ss_cons (s_if (dt_eq rfl hr (r_of_o (d_mod (r_of_o (d_div (v_R (pv 1)) (r_of_o c_int))) (r_of_o c_int))) (r_of_o c_int)) (ss_one (s_set (i := 5) (e_of_o (d_add rfl (r_of_e (d_ixA rfl (eu1 hr) (r_of_o (d_lst (a_cons (e_of_o c_str) (a_cons (e_of_o c_str) (a_cons (e_of_o c_str) a_nil))))) (r_of_o (d_mod (r_of_o (d_div (v_R (pv 1)) (r_of_o c_int))) (r_of_o c_int))))) (r_of_o (d_join rfl (r_of_o c_str) (v_R (pv 0)))))) sc__law_bad_steps.nd)) ss_nil)
  (ss_one (s_ret (v_E (pv 5)))))))))
theorem ok_ring (T : Txt K mg) : FnOk P w K mg base CX0 4 T.a_ring T.d_ring ["count", "order"] (spD K (fun _ => 0) 2 Fn.ring_d7b8) :=
  ok_def T.F_ring sc_ring fun cdv A outer s H E F0 as hr =>
  (ss_cons (s_set (i := 2) (d_callE (ok_settled T) bodyN_len (hr.mono (by decide)) T.m_settled T.F_settled.kp T.b_settled passN (fun _ _ _ _ => trivial) (a_cons (v_E (pv 0)) (a_cons (v_E (pv 1)) a_nil))) sc_ring.nd)
  (ss_cons (s_toC (s_setLc (i := 3) (own := [("step", 5)]) rfl sc_ring.nd (i_range1 T.z_range (w_cons (v_R (pv 0)) w_nil)) (blkOk_by (own := [("step", 5)]) (N := N_ring) (sc := defScope s_ring) (by decide +kernel)) (fun _ _ _ _ _ => (g_name (i := 5) (own := [5]) sc_ring.nd)) (fun _ _ _ _ _ => (ts_one (dt_notin rfl hr (v_R (pv 5)) (v_R (pv 2))))) (fun _ _ _ _ _ => (v_E (pv 5))) (sw_true rfl rfl rfl (by decide +kernel))))
  (ss_cons (s_if (dt_eq rfl hr (v_R (pv 3)) (r_of_o (d_lst a_nil))) (ss_one (s_retO (d_lst a_nil))) ss_nil)
  (ss_cons (s_setO (i := 4) (d_lst (a_cons (d_ixA rfl (eu1 hr) (v_R (pv 3)) (r_of_o c_int)) a_nil)) sc_ring.nd)
  (ss_cons (s_set (i := 5) (d_callE (ok_one_ahead T) bodyN_len (hr.mono (by decide)) T.m_one_ahead T.F_one_ahead.kp T.b_one_ahead passN (fun _ _ _ _ => trivial) (a_cons (v_E (pv 1)) (a_cons (v_E (pv 3)) (a_cons (d_ixA rfl (eu1 hr) (v_R (pv 4)) (r_of_o (d_neg (r_of_o c_int)))) a_nil)))) sc_ring.nd)
  (ss_cons (s_while FU (dt_notin rfl hr (v_R (pv 5)) (v_R (pv 4))) (ss_cons (s_append (pv 4) (v_E (pv 5)))
  (ss_one (s_set (i := 5) (d_callE (ok_one_ahead T) bodyN_len (hr.mono (by decide)) T.m_one_ahead T.F_one_ahead.kp T.b_one_ahead passN (fun _ _ _ _ => trivial) (a_cons (v_E (pv 1)) (a_cons (v_E (pv 3)) (a_cons (d_ixA rfl (eu1 hr) (v_R (pv 4)) (r_of_o (d_neg (r_of_o c_int)))) a_nil)))) sc_ring.nd))) PassesOwn.never)
  (ss_one (s_retO (d_lstRev rfl rfl T.z_list T.z_reversed (r_of_o (d_slice rfl (v_R (pv 4)) (p_some (d_index rfl (v_R (pv 4)) (v_R (pv 5)))) p_none)))))))))))
theorem ok__law_spoilt (T : Txt K mg) : FnOk P w K mg base CX0 4 T.a__law_spoilt T.d__law_spoilt ["acts", "parts", "cell"] (spD K (fun _ => 0) 3 Fn.law_spoilt_a130) :=
  ok_def T.F__law_spoilt sc__law_spoilt fun cdv A outer s H E F0 as hr =>
  (ss_cons (s_set (i := 3) (e_of_o (d_div (v_R (pv 2)) (r_of_o c_int))) sc__law_spoilt.nd)
  (ss_cons (s_set (i := 4) (d_callE (ok__law_text T) bodyN_len (hr.mono (by decide)) T.m__law_text T.F__law_text.kp T.b__law_text passN (fun _ _ _ _ => trivial) (a_cons (v_E (pv 0)) (a_cons (v_E (pv 1)) a_nil))) sc__law_spoilt.nd)
  (ss_cons (s_set (i := 5) (e_of_o (d_split (v_R (pv 4)) (r_of_o c_str))) sc__law_spoilt.nd)
  (ss_cons (s_if (dt_lt (r_of_o (d_mod (v_R (pv 2)) (r_of_o c_int))) (r_of_o c_int)) (ss_cons (s_set (i := 6) (d_ixA rfl (eu1 hr) (r_of_o (d_lc (own := [("one", 11)]) rfl sc__law_spoilt.nd (i_seqR rfl (r_of_o (d_lst (a_cons (e_of_o c_str) (a_cons (e_of_o c_str) (a_cons (e_of_o c_str) (a_cons (e_of_o c_str) (a_cons (e_of_o c_str) (a_cons (e_of_o c_str) (a_cons (e_of_o c_str) a_nil)))))))))) (blkOk_by (own := [("one", 11)]) (N := N__law_spoilt) (sc := defScope s__law_spoilt) (by decide +kernel)) (fun _ _ _ _ _ => (g_name (i := 11) (own := [11]) sc__law_spoilt.nd)) (fun _ _ _ _ _ => (ts_one (dt_notin rfl hr (v_R (pv 11)) (v_R (pv 0))))) (fun _ _ _ _ _ => (v_E (pv 11))))) (r_of_o c_int)) sc__law_spoilt.nd)
  (ss_cons (s_set (i := 7) (e_of_o (d_add rfl (r_of_o c_int) (r_of_o (d_mod (v_R (pv 3)) (r_of_o (DL.d_len rfl T.z_len (w_cons (v_R (pv 5)) w_nil))))))) sc__law_spoilt.nd)
  (ss_cons (s_set (i := 8) (d_callE (ok__law_bad_part T) bodyN_len (hr.mono (by decide)) T.m__law_bad_part T.F__law_bad_part.kp T.b__law_bad_part passN (fun _ _ _ _ => trivial) (a_cons (d_ixA rfl (eu1 hr) (v_R (pv 0)) (r_of_o (d_mod (r_of_o (d_div (v_R (pv 3)) (r_of_o c_int))) (r_of_o (DL.d_len rfl T.z_len (w_cons (v_R (pv 0)) w_nil)))))) (a_cons (v_E (pv 6)) (a_cons (e_of_o (d_div (v_R (pv 3)) (r_of_o c_int))) a_nil)))) sc__law_spoilt.nd)
  (ss_one (s_retO (d_join rfl (r_of_o c_str) (r_of_o (d_add rfl (r_of_o (d_add rfl (r_of_o (d_slice rfl (v_R (pv 5)) p_none (p_some (o_of_e (v_E (pv 7)))))) (r_of_o (d_lst (a_cons (v_E (pv 8)) a_nil))))) (r_of_o (d_slice rfl (v_R (pv 5)) (p_some (o_of_e (v_E (pv 7)))) p_none)))))))))) ss_nil)
  (ss_cons (s_if (dt_eq rfl hr (r_of_o (d_mod (v_R (pv 2)) (r_of_o c_int))) (r_of_o c_int)) (ss_one (s_retO (d_join rfl (r_of_o c_str) (r_of_o (d_add rfl (r_of_o (d_lst (a_cons (d_callE (ok__law_bad_steps T) bodyN_len (hr.mono (by decide)) T.m__law_bad_steps T.F__law_bad_steps.kp T.b__law_bad_steps passN (fun _ _ _ _ => trivial) (a_cons (v_E (pv 0)) (a_cons (v_E (pv 3)) a_nil))) a_nil))) (r_of_o (d_slice rfl (v_R (pv 5)) (p_some c_int) p_none))))))) ss_nil)
  (ss_cons (s_if (dt_eq rfl hr (r_of_o (d_mod (v_R (pv 2)) (r_of_o c_int))) (r_of_o c_int)) (ss_cons (s_set (i := 7) (e_of_o (d_mod (v_R (pv 3)) (r_of_o (d_add rfl (r_of_o (DL.d_len rfl T.z_len (w_cons (v_R (pv 4)) w_nil))) (r_of_o c_int))))) sc__law_spoilt.nd)
  (ss_cons (s_set (i := 9) (e_of_o (d_lst (a_cons (e_of_o c_str) (a_cons (e_of_o c_str) (a_cons (e_of_o c_str) (a_cons (e_of_o c_str) (a_cons (e_of_o c_str) (a_cons (e_of_o c_str) (a_cons (e_of_o c_str) (a_cons (e_of_o c_str) (a_cons (e_of_o c_str) (a_cons (e_of_o c_str) (a_cons (e_of_o c_str) (a_cons (e_of_o c_str) (a_cons (e_of_o c_str) (a_cons (e_of_o c_str) (a_cons (e_of_o c_str) (a_cons (e_of_o c_str) (a_cons (e_of_o c_str) (a_cons (e_of_o c_str) a_nil)))))))))))))))))))) sc__law_spoilt.nd)
  (ss_one (s_retO (d_add rfl (r_of_o (d_add rfl (r_of_o (d_slice rfl (v_R (pv 4)) p_none (p_some (o_of_e (v_E (pv 7)))))) (r_of_e (d_ixA rfl (eu1 hr) (v_R (pv 9)) (r_of_o (d_mod (r_of_o (d_div (v_R (pv 3)) (r_of_o c_int))) (r_of_o c_int))))))) (r_of_o (d_slice rfl (v_R (pv 4)) (p_some (o_of_e (v_E (pv 7)))) p_none))))))) ss_nil)
  (ss_cons (s_if (dt_eq rfl hr (r_of_o (d_mod (v_R (pv 2)) (r_of_o c_int))) (r_of_o c_int)) (ss_cons (s_set (i := 10) (e_of_o (d_add rfl (r_of_o (d_lc (own := [("k", 12)]) rfl sc__law_spoilt.nd (i_range1 T.z_range (w_cons (r_of_o (DL.d_len rfl T.z_len (w_cons (v_R (pv 4)) w_nil))) w_nil)) (blkOk_by (own := [("k", 12)]) (N := N__law_spoilt) (sc := defScope s__law_spoilt) (by decide +kernel)) (fun _ _ _ _ _ => (g_name (i := 12) (own := [12]) sc__law_spoilt.nd)) (fun _ _ _ _ _ => (ts_one (dt_eq rfl hr (r_of_e (d_ixA rfl (eu1 hr) (v_R (pv 4)) (v_R (pv 12)))) (r_of_o c_str)))) (fun _ _ _ _ _ => (v_E (pv 12))))) (r_of_o (d_lst (a_cons (e_of_o c_int) (a_cons (e_of_o (DL.d_len rfl T.z_len (w_cons (v_R (pv 4)) w_nil))) a_nil)))))) sc__law_spoilt.nd)
  (ss_cons (s_set (i := 7) (d_ixA rfl (eu1 hr) (v_R (pv 10)) (r_of_o (d_mod (v_R (pv 3)) (r_of_o (DL.d_len rfl T.z_len (w_cons (v_R (pv 10)) w_nil)))))) sc__law_spoilt.nd)
  (ss_one (s_retO (d_add rfl (r_of_o (d_add rfl (r_of_o (d_slice rfl (v_R (pv 4)) p_none (p_some (o_of_e (v_E (pv 7)))))) (r_of_o c_str))) (r_of_o (d_slice rfl (v_R (pv 4)) (p_some (o_of_e (v_E (pv 7)))) p_none))))))) ss_nil)
  (ss_one (s_ret (d_ixA rfl (eu1 hr) (r_of_o (d_lst (a_cons (e_of_o c_non) (a_cons (e_of_o c_int) (a_cons (e_of_o c_bl) (a_cons (e_of_o (d_lst (a_cons (v_E (pv 4)) a_nil))) (a_cons (e_of_o (d_tup (a_cons (v_E (pv 4)) a_nil))) (a_cons (e_of_o (d_lst a_nil)) (a_cons (e_of_o (d_tup a_nil)) (a_cons (e_of_o c_str) (a_cons (e_of_o c_str) (a_cons (e_of_o (d_pow (r_of_o c_int) (r_of_o c_int))) (a_cons (e_of_o c_bl) (a_cons (e_of_o (d_neg (r_of_o c_int))) a_nil)))))))))))))) (r_of_o (d_mod (v_R (pv 3)) (r_of_o c_int)))))))))))))
theorem ok_read_round (T : Txt K mg) : FnOk P w K mg base (L2.CX P w) 5 T.a_read_round T.d_read_round ["text"] (spD K (clsOf K) 1 Fn.read_round_c957) :=
  ok_defX T.F_read_round sc_read_round fun cdv A outer s H E F0 as hr tk =>
  (ss_cons (s_if (t_not (dt_val (d_isi rfl (v_R (pv 0)) (ty_of T.z_str (by decide +kernel)) (by decide +kernel) T.z_isinstance))) (ss_one (s_raise rfl tk T.E_NoText (fun _ _ h => h))) ss_nil)
  (ss_cons (s_set (i := 1) (e_of_o (d_split (v_R (pv 0)) (r_of_o c_str))) sc_read_round.nd)
  (ss_cons (s_set (i := 2) (d_callEX (ok_acts_of T) bodyD_len (hr.mono (by decide)) T.m_acts_of T.F_acts_of.kp T.b_acts_of tk (fun _ _ _ h => h) (a_cons (d_ixA rfl (eu1 hr) (v_R (pv 1)) (r_of_o c_int)) a_nil)) sc_read_round.nd)
  (ss_cons (s_setO (i := 3) (d_lst a_nil) sc_read_round.nd)
  (ss_cons (s_setO (i := 4) (d_lst a_nil) sc_read_round.nd)
  (ss_cons (s_for rfl (i_seqE rfl (e_of_o (d_slice rfl (v_R (pv 1)) (p_some c_int) p_none))) (g_name (i := 5) (own := [5]) sc_read_round.nd) (ss_cons (s_set (i := 6) (e_of_o (d_split (v_R (pv 5)) (r_of_o c_str))) sc_read_round.nd)
  (ss_one (s_if (t_w (w_and (dt_eq rfl hr (r_of_o (DL.d_len rfl T.z_len (w_cons (v_R (pv 6)) w_nil))) (r_of_o c_int)) (w_and1 (dt_eq rfl hr (r_of_e (d_ixA rfl (eu1 hr) (v_R (pv 6)) (r_of_o c_int))) (r_of_o c_str))))) (ss_cons (s_set (i := 7) (e_of_o (d_tup (a_cons (d_callEX (ok_place_of T) bodyD_len (hr.mono (by decide)) T.m_place_of T.F_place_of.kp T.b_place_of tk (fun _ _ _ h => h) (a_cons (d_ixA rfl (eu1 hr) (v_R (pv 6)) (r_of_o c_int)) (a_cons (v_E (pv 2)) a_nil))) (a_cons (d_callEX (ok_place_of T) bodyD_len (hr.mono (by decide)) T.m_place_of T.F_place_of.kp T.b_place_of tk (fun _ _ _ h => h) (a_cons (d_ixA rfl (eu1 hr) (v_R (pv 6)) (r_of_o c_int)) (a_cons (v_E (pv 2)) a_nil))) a_nil)))) sc_read_round.nd)
  (ss_cons (s_if (dt_in rfl hr (v_R (pv 7)) (v_R (pv 3))) (ss_one (s_raise rfl tk T.E_NoText (fun _ _ h => h))) ss_nil)
  (ss_one (s_append (pv 3) (v_E (pv 7)))))) (ss_one (s_append (pv 4) (d_callEX (ok_tie_of T) bodyD_len (hr.mono (by decide)) T.m_tie_of T.F_tie_of.kp T.b_tie_of tk (fun _ _ _ h => h) (a_cons (v_E (pv 6)) (a_cons (v_E (pv 2)) a_nil)))))))) (passes_of rfl))
  (ss_cons (s_if (dt_gt (r_of_o (DL.d_len rfl T.z_len (w_cons (v_R (pv 4)) w_nil))) (r_of_o (c_globI T.c_MOST_TIES))) (ss_one (s_raise rfl tk T.E_NoText (fun _ _ h => h))) ss_nil)
  (ss_cons (s_settle [3] (s_if (dt_ne rfl hr (r_of_e (d_callE (ok_ring T) bodyN_len (hr.mono (by decide)) T.m_ring T.F_ring.kp T.b_ring passN (fun _ _ _ _ => trivial) (a_cons (e_of_o (DL.d_len rfl T.z_len (w_cons (v_R (pv 2)) w_nil))) (a_cons (v_E (pv 3)) a_nil)))) (r_of_o (d_lst a_nil))) (ss_one (s_raise rfl tk T.E_Ring (fun _ _ h => h))) ss_nil))
  (ss_one (s_settle [3, 4] (s_retO (d_tup (a_cons (v_E (pv 2)) (a_cons (v_E (pv 3)) (a_cons (v_E (pv 4)) a_nil)))))))))))))))
theorem ok__law_kind (T : Txt K mg) : FnOk P w K mg base CX0 6 T.a__law_kind T.d__law_kind ["text"] (spD K (fun _ => 0) 1 Fn.law_kind_caba) :=
  ok_def T.F__law_kind sc__law_kind fun cdv A outer s H E F0 as hr =>
  (ss_cons (s_set (i := 1) (e_of_o c_str) sc__law_kind.nd)
  (ss_cons (s_tryDrop rfl rfl takes0 rfl (fun _ _ _ h => h.elim) (fun _ _ _ tk' => (r_of_e (d_callEX (ok_read_round T) bodyD_len (hr.mono (by decide)) T.m_read_round T.F_read_round.kp T.b_read_round tk' (fun _ _ _ h => h) (a_cons (v_E (pv 0)) a_nil)))) (.cons (names_own T.E_NoText) (fun _ _ => (ss_one (s_set (i := 1) (e_of_o c_str) sc__law_kind.nd))) (.cons (names_own T.E_Ring) (fun _ _ => (ss_one (s_set (i := 1) (e_of_o c_str) sc__law_kind.nd))) .nil)) (lk_cons (T.m_NoText_NoText) (lk_cons (⟨T.m_Ring_NoText, T.m_Ring_Ring⟩) lk_nil)))
  (ss_one (s_ret (v_E (pv 1))))))
theorem ok__law_class (T : Txt K mg) : FnOk P w K mg base CX0 6 T.a__law_class T.d__law_class ["text"] (spD K (fun _ => 0) 1 Fn.law_class_4744) :=
  ok_def T.F__law_class sc__law_class fun cdv A outer s H E F0 as hr =>
  (ss_cons (s_set (i := 1) (e_of_o c_bl) sc__law_class.nd)
  (ss_cons (s_tryDropAs (i := 2) rfl rfl rfl (names_own T.E_DeskError) takes0 rfl (fun _ _ _ h => h.elim) (fun _ _ _ tk' => (r_of_e (d_callEX (ok_read_round T) bodyD_len (hr.mono (by decide)) T.m_read_round T.F_read_round.kp T.b_read_round tk' (fun _ _ _ h => h) (a_cons (v_E (pv 0)) a_nil)))) (fun _ _ => (ss_one (s_set (i := 1) (e_of_o (d_and (d_isE rfl (v_R (pv 2)) (pe_glob (v := .ref _) (u := .ref _) rfl T.E_NoText.g rfl) (.own _) (lk_cons ⟨T.X_NoText, T.i_NoText_NoText⟩ (lk_cons ⟨T.X_Ring, T.i_Ring_NoText⟩ lk_nil)) T.n_NoText T.z_isinstance) (d_and (d_isE rfl (v_R (pv 2)) (ty_of T.z_ValueError (by decide +kernel)) (.ty _) (lk_cons ⟨T.X_NoText, T.i_NoText_ValueError⟩ (lk_cons ⟨T.X_Ring, T.i_Ring_ValueError⟩ lk_nil)) T.n_ValueError T.z_isinstance) (d_one (d_not (d_isE rfl (v_R (pv 2)) (pe_glob (v := .ref _) (u := .ref _) rfl T.E_Ring.g rfl) (.own _) (lk_cons ⟨T.X_NoText, T.i_NoText_Ring⟩ (lk_cons ⟨T.X_Ring, T.i_Ring_Ring⟩ lk_nil)) T.n_Ring T.z_isinstance)))))) sc__law_class.nd))) (lk_cons ⟨T.E_NoText.n, T.m_NoText_DeskError⟩ (lk_cons ⟨T.E_Ring.n, T.m_Ring_DeskError⟩ lk_nil)) sc__law_class.nd)
  (ss_one (s_ret (v_E (pv 1))))))
theorem ok_law (T : Txt K mg) : FnOk P w K mg base CX0 7 T.a_law T.d_law ["script"] (spD K (fun _ => 0) 1 Fn.law_db2a) :=
  ok_def T.F_law sc_law fun cdv A outer s H E F0 as hr =>
  (ss_cons (s_unp (d_callE (ok__law_round T) bodyN_len (hr.mono (by decide)) T.m__law_round T.F__law_round.kp T.b__law_round passN (fun _ _ _ _ => trivial) (a_cons (v_E (pv 0)) a_nil)) (g_seq rfl (gs_cons (g_name (i := 3) (own := [3, 4]) sc_law.nd) (gs_cons (g_name (i := 4) (own := [3, 4]) sc_law.nd) gs_nil))))
  (ss_cons (s_set (i := 1) (d_callE (ok__law_text T) bodyN_len (hr.mono (by decide)) T.m__law_text T.F__law_text.kp T.b__law_text passN (fun _ _ _ _ => trivial) (a_cons (v_E (pv 3)) (a_cons (v_E (pv 4)) a_nil))) sc_law.nd)
  (ss_cons (s_set (i := 2) (d_callE (ok__law_spoilt T) bodyN_len (hr.mono (by decide)) T.m__law_spoilt T.F__law_spoilt.kp T.b__law_spoilt passN (fun _ _ _ _ => trivial) (a_cons (v_E (pv 3)) (a_cons (v_E (pv 4)) (a_cons (d_callE (ok__law_cell T) bodyN_len (hr.mono (by decide)) T.m__law_cell T.F__law_cell.kp T.b__law_cell passN (fun _ _ _ _ => trivial) (a_cons (v_E (pv 0)) (a_cons (e_of_o c_int) a_nil))) a_nil)))) sc_law.nd)
  (ss_cons (s_if (t_w (w_or (dt_ne rfl hr (r_of_e (d_callE (ok__law_kind T) bodyN_len (hr.mono (by decide)) T.m__law_kind T.F__law_kind.kp T.b__law_kind passN (fun _ _ _ _ => trivial) (a_cons (v_E (pv 1)) a_nil))) (r_of_o c_str)) (w_or1 (dt_ne rfl hr (r_of_e (d_callE (ok__law_kind T) bodyN_len (hr.mono (by decide)) T.m__law_kind T.F__law_kind.kp T.b__law_kind passN (fun _ _ _ _ => trivial) (a_cons (v_E (pv 2)) a_nil))) (r_of_o c_str))))) (ss_one (s_retO c_bl)) ss_nil)
  (ss_one (s_retO (d_and (d_callO (ok__law_class T) bodyN_len (hr.mono (by decide)) T.m__law_class T.F__law_class.kp T.b__law_class passN (fun _ _ _ _ => trivial) (a_cons (v_E (pv 2)) a_nil)) (d_one (d_eq rfl hr (r_of_e (d_callE (ok__law_kind T) bodyN_len (hr.mono (by decide)) T.m__law_kind T.F__law_kind.kp T.b__law_kind passN (fun _ _ _ _ => trivial) (a_cons (v_E (pv 1)) a_nil))) (r_of_o c_str))))))))))
end
theorem all_mk (hlaw : ∀ ns : List Int, ns.length ≤ 63 → ∃ o, Fn.law_db2a [.scr ns] = .ok (o, .bl true)) {l : PySem.W.OpenLaw} {w : World} {K : PySem.W.Frag} {h : Heap} {mg : Str → Option Value} {fa : Addr} (X : K.In h) (G : h.Ns mainGlobals mg) (hfa : mg "law" = some (.ref fa))
    {f_is_name : Addr} {od_is_name an_is_name : Option Addr} {sl_is_name : Array (Option Value)} {oc_is_name kV_is_name dc_is_name pm_is_name cd_is_name ct_is_name : Value}
    {f_free : Addr} {od_free an_free : Option Addr} {sl_free : Array (Option Value)} {oc_free kV_free dc_free pm_free cd_free ct_free : Value}
    {f_one_ahead : Addr} {od_one_ahead an_one_ahead : Option Addr} {sl_one_ahead : Array (Option Value)} {oc_one_ahead kV_one_ahead dc_one_ahead pm_one_ahead cd_one_ahead ct_one_ahead : Value}
    {f_place_of : Addr} {od_place_of an_place_of : Option Addr} {sl_place_of : Array (Option Value)} {oc_place_of kV_place_of dc_place_of pm_place_of cd_place_of ct_place_of : Value}
    {f__law_cell : Addr} {od__law_cell an__law_cell : Option Addr} {sl__law_cell : Array (Option Value)} {oc__law_cell kV__law_cell dc__law_cell pm__law_cell cd__law_cell ct__law_cell : Value}
    {f__law_entries : Addr} {od__law_entries an__law_entries : Option Addr} {sl__law_entries : Array (Option Value)} {oc__law_entries kV__law_entries dc__law_entries pm__law_entries cd__law_entries ct__law_entries : Value}
    {f__law_name : Addr} {od__law_name an__law_name : Option Addr} {sl__law_name : Array (Option Value)} {oc__law_name kV__law_name dc__law_name pm__law_name cd__law_name ct__law_name : Value}
    {f__law_part : Addr} {od__law_part an__law_part : Option Addr} {sl__law_part : Array (Option Value)} {oc__law_part kV__law_part dc__law_part pm__law_part cd__law_part ct__law_part : Value}
    {f__law_text : Addr} {od__law_text an__law_text : Option Addr} {sl__law_text : Array (Option Value)} {oc__law_text kV__law_text dc__law_text pm__law_text cd__law_text ct__law_text : Value}
    {f__law_bad_part : Addr} {od__law_bad_part an__law_bad_part : Option Addr} {sl__law_bad_part : Array (Option Value)} {oc__law_bad_part kV__law_bad_part dc__law_bad_part pm__law_bad_part cd__law_bad_part ct__law_bad_part : Value}
    {f_next_free : Addr} {od_next_free an_next_free : Option Addr} {sl_next_free : Array (Option Value)} {oc_next_free kV_next_free dc_next_free pm_next_free cd_next_free ct_next_free : Value}
    {f_acts_of : Addr} {od_acts_of an_acts_of : Option Addr} {sl_acts_of : Array (Option Value)} {oc_acts_of kV_acts_of dc_acts_of pm_acts_of cd_acts_of ct_acts_of : Value}
    {f_places_of : Addr} {od_places_of an_places_of : Option Addr} {sl_places_of : Array (Option Value)} {oc_places_of kV_places_of dc_places_of pm_places_of cd_places_of ct_places_of : Value}
    {f__law_acts : Addr} {od__law_acts an__law_acts : Option Addr} {sl__law_acts : Array (Option Value)} {oc__law_acts kV__law_acts dc__law_acts pm__law_acts cd__law_acts ct__law_acts : Value}
    {f__law_parts : Addr} {od__law_parts an__law_parts : Option Addr} {sl__law_parts : Array (Option Value)} {oc__law_parts kV__law_parts dc__law_parts pm__law_parts cd__law_parts ct__law_parts : Value}
    {f_settled : Addr} {od_settled an_settled : Option Addr} {sl_settled : Array (Option Value)} {oc_settled kV_settled dc_settled pm_settled cd_settled ct_settled : Value}
    {f_tie_of : Addr} {od_tie_of an_tie_of : Option Addr} {sl_tie_of : Array (Option Value)} {oc_tie_of kV_tie_of dc_tie_of pm_tie_of cd_tie_of ct_tie_of : Value}
    {f__law_round : Addr} {od__law_round an__law_round : Option Addr} {sl__law_round : Array (Option Value)} {oc__law_round kV__law_round dc__law_round pm__law_round cd__law_round ct__law_round : Value}
    {f__law_bad_steps : Addr} {od__law_bad_steps an__law_bad_steps : Option Addr} {sl__law_bad_steps : Array (Option Value)} {oc__law_bad_steps kV__law_bad_steps dc__law_bad_steps pm__law_bad_steps cd__law_bad_steps ct__law_bad_steps : Value}
    {f_ring : Addr} {od_ring an_ring : Option Addr} {sl_ring : Array (Option Value)} {oc_ring kV_ring dc_ring pm_ring cd_ring ct_ring : Value}
    {f__law_spoilt : Addr} {od__law_spoilt an__law_spoilt : Option Addr} {sl__law_spoilt : Array (Option Value)} {oc__law_spoilt kV__law_spoilt dc__law_spoilt pm__law_spoilt cd__law_spoilt ct__law_spoilt : Value}
    {f_read_round : Addr} {od_read_round an_read_round : Option Addr} {sl_read_round : Array (Option Value)} {oc_read_round kV_read_round dc_read_round pm_read_round cd_read_round ct_read_round : Value}
    {f__law_kind : Addr} {od__law_kind an__law_kind : Option Addr} {sl__law_kind : Array (Option Value)} {oc__law_kind kV__law_kind dc__law_kind pm__law_kind cd__law_kind ct__law_kind : Value}
    {f__law_class : Addr} {od__law_class an__law_class : Option Addr} {sl__law_class : Array (Option Value)} {oc__law_class kV__law_class dc__law_class pm__law_class cd__law_class ct__law_class : Value}
    {f_law : Addr} {od_law an_law : Option Addr} {sl_law : Array (Option Value)} {oc_law kV_law dc_law pm_law cd_law ct_law : Value}
    {t_FIGURES : Tok}
    {t_LETTERS : Tok}
    {t_LONGEST : Tok}
    {t_MOST_STEPS : Tok}
    {t_MOST_TIES : Tok}
    (a_is_name : PySem.W.nsIn K mainGlobals "is_name" = some (some (.ref f_is_name)))
    (l_is_name : K.lookup f_is_name = some ⟨oc_is_name, od_is_name, .func (PySem.W.fnOf "is_name" "is_name" (defArgs s_is_name) (defBody s_is_name) (defScope s_is_name) .none kV_is_name dc_is_name pm_is_name an_is_name cd_is_name ct_is_name), sl_is_name⟩) (c_is_name : PySem.W.codeIn K cd_is_name "is_name" = true) (k_is_name : PySem.W.keepIn K (.ref f_is_name) = true)
    (a_free : PySem.W.nsIn K mainGlobals "free" = some (some (.ref f_free)))
    (l_free : K.lookup f_free = some ⟨oc_free, od_free, .func (PySem.W.fnOf "free" "free" (defArgs s_free) (defBody s_free) (defScope s_free) .none kV_free dc_free pm_free an_free cd_free ct_free), sl_free⟩) (c_free : PySem.W.codeIn K cd_free "free" = true) (k_free : PySem.W.keepIn K (.ref f_free) = true)
    (a_one_ahead : PySem.W.nsIn K mainGlobals "one_ahead" = some (some (.ref f_one_ahead)))
    (l_one_ahead : K.lookup f_one_ahead = some ⟨oc_one_ahead, od_one_ahead, .func (PySem.W.fnOf "one_ahead" "one_ahead" (defArgs s_one_ahead) (defBody s_one_ahead) (defScope s_one_ahead) .none kV_one_ahead dc_one_ahead pm_one_ahead an_one_ahead cd_one_ahead ct_one_ahead), sl_one_ahead⟩) (c_one_ahead : PySem.W.codeIn K cd_one_ahead "one_ahead" = true) (k_one_ahead : PySem.W.keepIn K (.ref f_one_ahead) = true)
    (a_place_of : PySem.W.nsIn K mainGlobals "place_of" = some (some (.ref f_place_of)))
    (l_place_of : K.lookup f_place_of = some ⟨oc_place_of, od_place_of, .func (PySem.W.fnOf "place_of" "place_of" (defArgs s_place_of) (defBody s_place_of) (defScope s_place_of) .none kV_place_of dc_place_of pm_place_of an_place_of cd_place_of ct_place_of), sl_place_of⟩) (c_place_of : PySem.W.codeIn K cd_place_of "place_of" = true) (k_place_of : PySem.W.keepIn K (.ref f_place_of) = true)
    (a__law_cell : PySem.W.nsIn K mainGlobals "_law_cell" = some (some (.ref f__law_cell)))
    (l__law_cell : K.lookup f__law_cell = some ⟨oc__law_cell, od__law_cell, .func (PySem.W.fnOf "_law_cell" "_law_cell" (defArgs s__law_cell) (defBody s__law_cell) (defScope s__law_cell) .none kV__law_cell dc__law_cell pm__law_cell an__law_cell cd__law_cell ct__law_cell), sl__law_cell⟩) (c__law_cell : PySem.W.codeIn K cd__law_cell "_law_cell" = true) (k__law_cell : PySem.W.keepIn K (.ref f__law_cell) = true)
    (a__law_entries : PySem.W.nsIn K mainGlobals "_law_entries" = some (some (.ref f__law_entries)))
    (l__law_entries : K.lookup f__law_entries = some ⟨oc__law_entries, od__law_entries, .func (PySem.W.fnOf "_law_entries" "_law_entries" (defArgs s__law_entries) (defBody s__law_entries) (defScope s__law_entries) .none kV__law_entries dc__law_entries pm__law_entries an__law_entries cd__law_entries ct__law_entries), sl__law_entries⟩) (c__law_entries : PySem.W.codeIn K cd__law_entries "_law_entries" = true) (k__law_entries : PySem.W.keepIn K (.ref f__law_entries) = true)
    (a__law_name : PySem.W.nsIn K mainGlobals "_law_name" = some (some (.ref f__law_name)))
    (l__law_name : K.lookup f__law_name = some ⟨oc__law_name, od__law_name, .func (PySem.W.fnOf "_law_name" "_law_name" (defArgs s__law_name) (defBody s__law_name) (defScope s__law_name) .none kV__law_name dc__law_name pm__law_name an__law_name cd__law_name ct__law_name), sl__law_name⟩) (c__law_name : PySem.W.codeIn K cd__law_name "_law_name" = true) (k__law_name : PySem.W.keepIn K (.ref f__law_name) = true)
    (a__law_part : PySem.W.nsIn K mainGlobals "_law_part" = some (some (.ref f__law_part)))
    (l__law_part : K.lookup f__law_part = some ⟨oc__law_part, od__law_part, .func (PySem.W.fnOf "_law_part" "_law_part" (defArgs s__law_part) (defBody s__law_part) (defScope s__law_part) .none kV__law_part dc__law_part pm__law_part an__law_part cd__law_part ct__law_part), sl__law_part⟩) (c__law_part : PySem.W.codeIn K cd__law_part "_law_part" = true) (k__law_part : PySem.W.keepIn K (.ref f__law_part) = true)
    (a__law_text : PySem.W.nsIn K mainGlobals "_law_text" = some (some (.ref f__law_text)))
    (l__law_text : K.lookup f__law_text = some ⟨oc__law_text, od__law_text, .func (PySem.W.fnOf "_law_text" "_law_text" (defArgs s__law_text) (defBody s__law_text) (defScope s__law_text) .none kV__law_text dc__law_text pm__law_text an__law_text cd__law_text ct__law_text), sl__law_text⟩) (c__law_text : PySem.W.codeIn K cd__law_text "_law_text" = true) (k__law_text : PySem.W.keepIn K (.ref f__law_text) = true)
    (a__law_bad_part : PySem.W.nsIn K mainGlobals "_law_bad_part" = some (some (.ref f__law_bad_part)))
    (l__law_bad_part : K.lookup f__law_bad_part = some ⟨oc__law_bad_part, od__law_bad_part, .func (PySem.W.fnOf "_law_bad_part" "_law_bad_part" (defArgs s__law_bad_part) (defBody s__law_bad_part) (defScope s__law_bad_part) .none kV__law_bad_part dc__law_bad_part pm__law_bad_part an__law_bad_part cd__law_bad_part ct__law_bad_part), sl__law_bad_part⟩) (c__law_bad_part : PySem.W.codeIn K cd__law_bad_part "_law_bad_part" = true) (k__law_bad_part : PySem.W.keepIn K (.ref f__law_bad_part) = true)
    (a_next_free : PySem.W.nsIn K mainGlobals "next_free" = some (some (.ref f_next_free)))
    (l_next_free : K.lookup f_next_free = some ⟨oc_next_free, od_next_free, .func (PySem.W.fnOf "next_free" "next_free" (defArgs s_next_free) (defBody s_next_free) (defScope s_next_free) .none kV_next_free dc_next_free pm_next_free an_next_free cd_next_free ct_next_free), sl_next_free⟩) (c_next_free : PySem.W.codeIn K cd_next_free "next_free" = true) (k_next_free : PySem.W.keepIn K (.ref f_next_free) = true)
    (a_acts_of : PySem.W.nsIn K mainGlobals "acts_of" = some (some (.ref f_acts_of)))
    (l_acts_of : K.lookup f_acts_of = some ⟨oc_acts_of, od_acts_of, .func (PySem.W.fnOf "acts_of" "acts_of" (defArgs s_acts_of) (defBody s_acts_of) (defScope s_acts_of) .none kV_acts_of dc_acts_of pm_acts_of an_acts_of cd_acts_of ct_acts_of), sl_acts_of⟩) (c_acts_of : PySem.W.codeIn K cd_acts_of "acts_of" = true) (k_acts_of : PySem.W.keepIn K (.ref f_acts_of) = true)
    (a_places_of : PySem.W.nsIn K mainGlobals "places_of" = some (some (.ref f_places_of)))
    (l_places_of : K.lookup f_places_of = some ⟨oc_places_of, od_places_of, .func (PySem.W.fnOf "places_of" "places_of" (defArgs s_places_of) (defBody s_places_of) (defScope s_places_of) .none kV_places_of dc_places_of pm_places_of an_places_of cd_places_of ct_places_of), sl_places_of⟩) (c_places_of : PySem.W.codeIn K cd_places_of "places_of" = true) (k_places_of : PySem.W.keepIn K (.ref f_places_of) = true)
    (a__law_acts : PySem.W.nsIn K mainGlobals "_law_acts" = some (some (.ref f__law_acts)))
    (l__law_acts : K.lookup f__law_acts = some ⟨oc__law_acts, od__law_acts, .func (PySem.W.fnOf "_law_acts" "_law_acts" (defArgs s__law_acts) (defBody s__law_acts) (defScope s__law_acts) .none kV__law_acts dc__law_acts pm__law_acts an__law_acts cd__law_acts ct__law_acts), sl__law_acts⟩) (c__law_acts : PySem.W.codeIn K cd__law_acts "_law_acts" = true) (k__law_acts : PySem.W.keepIn K (.ref f__law_acts) = true)
    (a__law_parts : PySem.W.nsIn K mainGlobals "_law_parts" = some (some (.ref f__law_parts)))
    (l__law_parts : K.lookup f__law_parts = some ⟨oc__law_parts, od__law_parts, .func (PySem.W.fnOf "_law_parts" "_law_parts" (defArgs s__law_parts) (defBody s__law_parts) (defScope s__law_parts) .none kV__law_parts dc__law_parts pm__law_parts an__law_parts cd__law_parts ct__law_parts), sl__law_parts⟩) (c__law_parts : PySem.W.codeIn K cd__law_parts "_law_parts" = true) (k__law_parts : PySem.W.keepIn K (.ref f__law_parts) = true)
    (a_settled : PySem.W.nsIn K mainGlobals "settled" = some (some (.ref f_settled)))
    (l_settled : K.lookup f_settled = some ⟨oc_settled, od_settled, .func (PySem.W.fnOf "settled" "settled" (defArgs s_settled) (defBody s_settled) (defScope s_settled) .none kV_settled dc_settled pm_settled an_settled cd_settled ct_settled), sl_settled⟩) (c_settled : PySem.W.codeIn K cd_settled "settled" = true) (k_settled : PySem.W.keepIn K (.ref f_settled) = true)
    (a_tie_of : PySem.W.nsIn K mainGlobals "tie_of" = some (some (.ref f_tie_of)))
    (l_tie_of : K.lookup f_tie_of = some ⟨oc_tie_of, od_tie_of, .func (PySem.W.fnOf "tie_of" "tie_of" (defArgs s_tie_of) (defBody s_tie_of) (defScope s_tie_of) .none kV_tie_of dc_tie_of pm_tie_of an_tie_of cd_tie_of ct_tie_of), sl_tie_of⟩) (c_tie_of : PySem.W.codeIn K cd_tie_of "tie_of" = true) (k_tie_of : PySem.W.keepIn K (.ref f_tie_of) = true)
    (a__law_round : PySem.W.nsIn K mainGlobals "_law_round" = some (some (.ref f__law_round)))
    (l__law_round : K.lookup f__law_round = some ⟨oc__law_round, od__law_round, .func (PySem.W.fnOf "_law_round" "_law_round" (defArgs s__law_round) (defBody s__law_round) (defScope s__law_round) .none kV__law_round dc__law_round pm__law_round an__law_round cd__law_round ct__law_round), sl__law_round⟩) (c__law_round : PySem.W.codeIn K cd__law_round "_law_round" = true) (k__law_round : PySem.W.keepIn K (.ref f__law_round) = true)
    (a__law_bad_steps : PySem.W.nsIn K mainGlobals "_law_bad_steps" = some (some (.ref f__law_bad_steps)))
    (l__law_bad_steps : K.lookup f__law_bad_steps = some ⟨oc__law_bad_steps, od__law_bad_steps, .func (PySem.W.fnOf "_law_bad_steps" "_law_bad_steps" (defArgs s__law_bad_steps) (defBody s__law_bad_steps) (defScope s__law_bad_steps) .none kV__law_bad_steps dc__law_bad_steps pm__law_bad_steps an__law_bad_steps cd__law_bad_steps ct__law_bad_steps), sl__law_bad_steps⟩) (c__law_bad_steps : PySem.W.codeIn K cd__law_bad_steps "_law_bad_steps" = true) (k__law_bad_steps : PySem.W.keepIn K (.ref f__law_bad_steps) = true)
    (a_ring : PySem.W.nsIn K mainGlobals "ring" = some (some (.ref f_ring)))
    (l_ring : K.lookup f_ring = some ⟨oc_ring, od_ring, .func (PySem.W.fnOf "ring" "ring" (defArgs s_ring) (defBody s_ring) (defScope s_ring) .none kV_ring dc_ring pm_ring an_ring cd_ring ct_ring), sl_ring⟩) (c_ring : PySem.W.codeIn K cd_ring "ring" = true) (k_ring : PySem.W.keepIn K (.ref f_ring) = true)
    (a__law_spoilt : PySem.W.nsIn K mainGlobals "_law_spoilt" = some (some (.ref f__law_spoilt)))
    (l__law_spoilt : K.lookup f__law_spoilt = some ⟨oc__law_spoilt, od__law_spoilt, .func (PySem.W.fnOf "_law_spoilt" "_law_spoilt" (defArgs s__law_spoilt) (defBody s__law_spoilt) (defScope s__law_spoilt) .none kV__law_spoilt dc__law_spoilt pm__law_spoilt an__law_spoilt cd__law_spoilt ct__law_spoilt), sl__law_spoilt⟩) (c__law_spoilt : PySem.W.codeIn K cd__law_spoilt "_law_spoilt" = true) (k__law_spoilt : PySem.W.keepIn K (.ref f__law_spoilt) = true)
    (a_read_round : PySem.W.nsIn K mainGlobals "read_round" = some (some (.ref f_read_round)))
    (l_read_round : K.lookup f_read_round = some ⟨oc_read_round, od_read_round, .func (PySem.W.fnOf "read_round" "read_round" (defArgs s_read_round) (defBody s_read_round) (defScope s_read_round) .none kV_read_round dc_read_round pm_read_round an_read_round cd_read_round ct_read_round), sl_read_round⟩) (c_read_round : PySem.W.codeIn K cd_read_round "read_round" = true) (k_read_round : PySem.W.keepIn K (.ref f_read_round) = true)
    (a__law_kind : PySem.W.nsIn K mainGlobals "_law_kind" = some (some (.ref f__law_kind)))
    (l__law_kind : K.lookup f__law_kind = some ⟨oc__law_kind, od__law_kind, .func (PySem.W.fnOf "_law_kind" "_law_kind" (defArgs s__law_kind) (defBody s__law_kind) (defScope s__law_kind) .none kV__law_kind dc__law_kind pm__law_kind an__law_kind cd__law_kind ct__law_kind), sl__law_kind⟩) (c__law_kind : PySem.W.codeIn K cd__law_kind "_law_kind" = true) (k__law_kind : PySem.W.keepIn K (.ref f__law_kind) = true)
    (a__law_class : PySem.W.nsIn K mainGlobals "_law_class" = some (some (.ref f__law_class)))
    (l__law_class : K.lookup f__law_class = some ⟨oc__law_class, od__law_class, .func (PySem.W.fnOf "_law_class" "_law_class" (defArgs s__law_class) (defBody s__law_class) (defScope s__law_class) .none kV__law_class dc__law_class pm__law_class an__law_class cd__law_class ct__law_class), sl__law_class⟩) (c__law_class : PySem.W.codeIn K cd__law_class "_law_class" = true) (k__law_class : PySem.W.keepIn K (.ref f__law_class) = true)
    (a_law : PySem.W.nsIn K mainGlobals "law" = some (some (.ref f_law)))
    (l_law : K.lookup f_law = some ⟨oc_law, od_law, .func (PySem.W.fnOf "law" "law" (defArgs s_law) (defBody s_law) (defScope s_law) .none kV_law dc_law pm_law an_law cd_law ct_law), sl_law⟩) (c_law : PySem.W.codeIn K cd_law "law" = true) (k_law : PySem.W.keepIn K (.ref f_law) = true)
    {v_DeskError : Addr} (n_DeskError : PySem.W.nsIn K mainGlobals "DeskError" = some (some (.ref v_DeskError))) (ex_DeskError : PySem.W.excIn K v_DeskError veB "ValueError.__new__" = true) (ek_DeskError : PySem.W.keepIn K (.ref v_DeskError) = true) (es_DeskError : PySem.W.subIn K (.ref v_DeskError) (.type "BaseException") = some true) (et_DeskError : PySem.W.typeIn K (.ref v_DeskError) = some (.type "type"))
    {v_NoText : Addr} (n_NoText : PySem.W.nsIn K mainGlobals "NoText" = some (some (.ref v_NoText))) (ex_NoText : PySem.W.excIn K v_NoText veB "ValueError.__new__" = true) (ek_NoText : PySem.W.keepIn K (.ref v_NoText) = true) (es_NoText : PySem.W.subIn K (.ref v_NoText) (.type "BaseException") = some true) (et_NoText : PySem.W.typeIn K (.ref v_NoText) = some (.type "type"))
    {v_Ring : Addr} (n_Ring : PySem.W.nsIn K mainGlobals "Ring" = some (some (.ref v_Ring))) (ex_Ring : PySem.W.excIn K v_Ring veB "ValueError.__new__" = true) (ek_Ring : PySem.W.keepIn K (.ref v_Ring) = true) (es_Ring : PySem.W.subIn K (.ref v_Ring) (.type "BaseException") = some true) (et_Ring : PySem.W.typeIn K (.ref v_Ring) = some (.type "type"))
    (em_NoText_DeskError : PySem.W.exmOne K (.ref v_NoText) (.ref v_DeskError) = some true)
    (em_NoText_NoText : PySem.W.exmOne K (.ref v_NoText) (.ref v_NoText) = some true)
    (em_Ring_DeskError : PySem.W.exmOne K (.ref v_Ring) (.ref v_DeskError) = some true)
    (em_Ring_NoText : PySem.W.exmOne K (.ref v_Ring) (.ref v_NoText) = some false)
    (em_Ring_Ring : PySem.W.exmOne K (.ref v_Ring) (.ref v_Ring) = some true)
    (ki_NoText_NoText : PySem.W.kitOne K (.ref v_NoText) (.ref v_NoText) = some true)
    (ki_NoText_Ring : PySem.W.kitOne K (.ref v_NoText) (.ref v_Ring) = some false)
    (ki_NoText_ValueError : PySem.W.kitOne K (.ref v_NoText) (.type "ValueError") = some true)
    (ki_Ring_NoText : PySem.W.kitOne K (.ref v_Ring) (.ref v_NoText) = some false)
    (ki_Ring_Ring : PySem.W.kitOne K (.ref v_Ring) (.ref v_Ring) = some true)
    (ki_Ring_ValueError : PySem.W.kitOne K (.ref v_Ring) (.type "ValueError") = some true)
    (kn_NoText : PySem.W.kitOne K (.type "NoneType") (.ref v_NoText) = some false)
    (kn_Ring : PySem.W.kitOne K (.type "NoneType") (.ref v_Ring) = some false)
    (kn_ValueError : PySem.W.kitOne K (.type "NoneType") (.type "ValueError") = some false)
    (c1_NoText : PySem.W.findIn K (.ref v_NoText) "__getattribute__" = some (some (.builtin "BaseException.__getattribute__"))) (c2_NoText : PySem.W.findIn K (.ref v_NoText) "__getattr__" = some none) (c3_NoText : PySem.W.hasDictIn K v_NoText = true) (c4_NoText : PySem.W.findIn K (.ref v_NoText) "__class__" = some (some (.builtin "object.__class__"))) (c5_NoText : PySem.W.mroIn K v_NoText (.type "object") = some true)
    (c1_Ring : PySem.W.findIn K (.ref v_Ring) "__getattribute__" = some (some (.builtin "BaseException.__getattribute__"))) (c2_Ring : PySem.W.findIn K (.ref v_Ring) "__getattr__" = some none) (c3_Ring : PySem.W.hasDictIn K v_Ring = true) (c4_Ring : PySem.W.findIn K (.ref v_Ring) "__class__" = some (some (.builtin "object.__class__"))) (c5_Ring : PySem.W.mroIn K v_Ring (.type "object") = some true)
    (oc1 : PySem.W.specialIn K (.builtin "object.__class__") "__get__" = some (some (.builtin "getset_descriptor.__get__"))) (oc2 : PySem.W.takesIn K (.builtin "object.__class__") = some true)
    {v_KEYS : Addr} {ob_KEYS : Obj} (p_KEYS : PySem.W.nsIn K mainGlobals "KEYS" = some (some (.ref v_KEYS))) (q_KEYS : K.lookup v_KEYS = some ob_KEYS) (r_KEYS : TupO ob_KEYS [(Str.ofString "steps"), (Str.ofString "before"), (Str.ofString "most"), (Str.ofString "least"), (Str.ofString "apart"), (Str.ofString "same")])
    (z_ValueError : PySem.W.nsIn K mainGlobals "ValueError" = some none)
    (z_int : PySem.W.nsIn K mainGlobals "int" = some none)
    (z_isinstance : PySem.W.nsIn K mainGlobals "isinstance" = some none)
    (z_len : PySem.W.nsIn K mainGlobals "len" = some none)
    (z_list : PySem.W.nsIn K mainGlobals "list" = some none)
    (z_range : PySem.W.nsIn K mainGlobals "range" = some none)
    (z_reversed : PySem.W.nsIn K mainGlobals "reversed" = some none)
    (z_set : PySem.W.nsIn K mainGlobals "set" = some none)
    (z_sorted : PySem.W.nsIn K mainGlobals "sorted" = some none)
    (z_str : PySem.W.nsIn K mainGlobals "str" = some none)
    (z_tuple : PySem.W.nsIn K mainGlobals "tuple" = some none)
    (e_FIGURES : PySem.W.nsIn K mainGlobals "FIGURES" = some (some (.str (Str.ofString "123456") t_FIGURES)))
    (e_LETTERS : PySem.W.nsIn K mainGlobals "LETTERS" = some (some (.str (Str.ofString "abcdefghijklmnopqrstuvwxyz") t_LETTERS)))
    (e_LONGEST : PySem.W.nsIn K mainGlobals "LONGEST" = some (some (.int 8 t_LONGEST)))
    (e_MOST_STEPS : PySem.W.nsIn K mainGlobals "MOST_STEPS" = some (some (.int 6 t_MOST_STEPS)))
    (e_MOST_TIES : PySem.W.nsIn K mainGlobals "MOST_TIES" = some (some (.int 12 t_MOST_TIES))) :
    ∃ fd : FuncData, (∀ (s : Shared) (v : Value), BindsTo s fd ⟨[v], []⟩ [("script", v)]) ∧ ∀ base : Heap, K.In base → base.Ns mainGlobals mg → FnOk l.prog w K mg base CX0 7 fa fd ["script"] (DL.spLaw K) := by
  have e := hfa.symm.trans (PySem.W.mg_of X G a_law)
  cases e
  have F_is_name := fun_mk (st := s_is_name) l_is_name c_is_name k_is_name
  have F_free := fun_mk (st := s_free) l_free c_free k_free
  have F_one_ahead := fun_mk (st := s_one_ahead) l_one_ahead c_one_ahead k_one_ahead
  have F_place_of := fun_mk (st := s_place_of) l_place_of c_place_of k_place_of
  have F__law_cell := fun_mk (st := s__law_cell) l__law_cell c__law_cell k__law_cell
  have F__law_entries := fun_mk (st := s__law_entries) l__law_entries c__law_entries k__law_entries
  have F__law_name := fun_mk (st := s__law_name) l__law_name c__law_name k__law_name
  have F__law_part := fun_mk (st := s__law_part) l__law_part c__law_part k__law_part
  have F__law_text := fun_mk (st := s__law_text) l__law_text c__law_text k__law_text
  have F__law_bad_part := fun_mk (st := s__law_bad_part) l__law_bad_part c__law_bad_part k__law_bad_part
  have F_next_free := fun_mk (st := s_next_free) l_next_free c_next_free k_next_free
  have F_acts_of := fun_mk (st := s_acts_of) l_acts_of c_acts_of k_acts_of
  have F_places_of := fun_mk (st := s_places_of) l_places_of c_places_of k_places_of
  have F__law_acts := fun_mk (st := s__law_acts) l__law_acts c__law_acts k__law_acts
  have F__law_parts := fun_mk (st := s__law_parts) l__law_parts c__law_parts k__law_parts
  have F_settled := fun_mk (st := s_settled) l_settled c_settled k_settled
  have F_tie_of := fun_mk (st := s_tie_of) l_tie_of c_tie_of k_tie_of
  have F__law_round := fun_mk (st := s__law_round) l__law_round c__law_round k__law_round
  have F__law_bad_steps := fun_mk (st := s__law_bad_steps) l__law_bad_steps c__law_bad_steps k__law_bad_steps
  have F_ring := fun_mk (st := s_ring) l_ring c_ring k_ring
  have F__law_spoilt := fun_mk (st := s__law_spoilt) l__law_spoilt c__law_spoilt k__law_spoilt
  have F_read_round := fun_mk (st := s_read_round) l_read_round c_read_round k_read_round
  have F__law_kind := fun_mk (st := s__law_kind) l__law_kind c__law_kind k__law_kind
  have F__law_class := fun_mk (st := s__law_class) l__law_class c__law_class k__law_class
  have F_law := fun_mk (st := s_law) l_law c_law k_law
  let T : Txt K mg := {
    a_is_name := _, d_is_name := _, F_is_name := F_is_name, m_is_name := PySem.W.mg_of X G a_is_name, b_is_name := (F_is_name.binds (ps := ["thing"]) fun _ _ _ _ _ _ us hl => match us, hl with | [_], _ => rfl),
    a_free := _, d_free := _, F_free := F_free, m_free := PySem.W.mg_of X G a_free, b_free := (F_free.binds (ps := ["order", "placed", "step"]) fun _ _ _ _ _ _ us hl => match us, hl with | [_, _, _], _ => rfl),
    a_one_ahead := _, d_one_ahead := _, F_one_ahead := F_one_ahead, m_one_ahead := PySem.W.mg_of X G a_one_ahead, b_one_ahead := (F_one_ahead.binds (ps := ["order", "left", "step"]) fun _ _ _ _ _ _ us hl => match us, hl with | [_, _, _], _ => rfl),
    a_place_of := _, d_place_of := _, F_place_of := F_place_of, m_place_of := PySem.W.mg_of X G a_place_of, b_place_of := (F_place_of.binds (ps := ["word", "acts"]) fun _ _ _ _ _ _ us hl => match us, hl with | [_, _], _ => rfl),
    a__law_cell := _, d__law_cell := _, F__law_cell := F__law_cell, m__law_cell := PySem.W.mg_of X G a__law_cell, b__law_cell := (F__law_cell.binds (ps := ["script", "k"]) fun _ _ _ _ _ _ us hl => match us, hl with | [_, _], _ => rfl),
    a__law_entries := _, d__law_entries := _, F__law_entries := F__law_entries, m__law_entries := PySem.W.mg_of X G a__law_entries, b__law_entries := (F__law_entries.binds (ps := ["script", "size"]) fun _ _ _ _ _ _ us hl => match us, hl with | [_, _], _ => rfl),
    a__law_name := _, d__law_name := _, F__law_name := F__law_name, m__law_name := PySem.W.mg_of X G a__law_name, b__law_name := (F__law_name.binds (ps := ["cell", "shift", "before"]) fun _ _ _ _ _ _ us hl => match us, hl with | [_, _, _], _ => rfl),
    a__law_part := _, d__law_part := _, F__law_part := F__law_part, m__law_part := PySem.W.mg_of X G a__law_part, b__law_part := (F__law_part.binds (ps := ["cells", "acts", "turn"]) fun _ _ _ _ _ _ us hl => match us, hl with | [_, _, _], _ => rfl),
    a__law_text := _, d__law_text := _, F__law_text := F__law_text, m__law_text := PySem.W.mg_of X G a__law_text, b__law_text := (F__law_text.binds (ps := ["acts", "parts"]) fun _ _ _ _ _ _ us hl => match us, hl with | [_, _], _ => rfl),
    a__law_bad_part := _, d__law_bad_part := _, F__law_bad_part := F__law_bad_part, m__law_bad_part := PySem.W.mg_of X G a__law_bad_part, b__law_bad_part := (F__law_bad_part.binds (ps := ["a", "x", "cell"]) fun _ _ _ _ _ _ us hl => match us, hl with | [_, _, _], _ => rfl),
    a_next_free := _, d_next_free := _, F_next_free := F_next_free, m_next_free := PySem.W.mg_of X G a_next_free, b_next_free := (F_next_free.binds (ps := ["count", "order", "placed"]) fun _ _ _ _ _ _ us hl => match us, hl with | [_, _, _], _ => rfl),
    a_acts_of := _, d_acts_of := _, F_acts_of := F_acts_of, m_acts_of := PySem.W.mg_of X G a_acts_of, b_acts_of := (F_acts_of.binds (ps := ["part"]) fun _ _ _ _ _ _ us hl => match us, hl with | [_], _ => rfl),
    a_places_of := _, d_places_of := _, F_places_of := F_places_of, m_places_of := PySem.W.mg_of X G a_places_of, b_places_of := (F_places_of.binds (ps := ["words", "acts"]) fun _ _ _ _ _ _ us hl => match us, hl with | [_, _], _ => rfl),
    a__law_acts := _, d__law_acts := _, F__law_acts := F__law_acts, m__law_acts := PySem.W.mg_of X G a__law_acts, b__law_acts := (F__law_acts.binds (ps := ["cells"]) fun _ _ _ _ _ _ us hl => match us, hl with | [_], _ => rfl),
    a__law_parts := _, d__law_parts := _, F__law_parts := F__law_parts, m__law_parts := PySem.W.mg_of X G a__law_parts, b__law_parts := (F__law_parts.binds (ps := ["cells", "acts", "turn"]) fun _ _ _ _ _ _ us hl => match us, hl with | [_, _, _], _ => rfl),
    a_settled := _, d_settled := _, F_settled := F_settled, m_settled := PySem.W.mg_of X G a_settled, b_settled := (F_settled.binds (ps := ["count", "order"]) fun _ _ _ _ _ _ us hl => match us, hl with | [_, _], _ => rfl),
    a_tie_of := _, d_tie_of := _, F_tie_of := F_tie_of, m_tie_of := PySem.W.mg_of X G a_tie_of, b_tie_of := (F_tie_of.binds (ps := ["words", "acts"]) fun _ _ _ _ _ _ us hl => match us, hl with | [_, _], _ => rfl),
    a__law_round := _, d__law_round := _, F__law_round := F__law_round, m__law_round := PySem.W.mg_of X G a__law_round, b__law_round := (F__law_round.binds (ps := ["script"]) fun _ _ _ _ _ _ us hl => match us, hl with | [_], _ => rfl),
    a__law_bad_steps := _, d__law_bad_steps := _, F__law_bad_steps := F__law_bad_steps, m__law_bad_steps := PySem.W.mg_of X G a__law_bad_steps, b__law_bad_steps := (F__law_bad_steps.binds (ps := ["acts", "cell"]) fun _ _ _ _ _ _ us hl => match us, hl with | [_, _], _ => rfl),
    a_ring := _, d_ring := _, F_ring := F_ring, m_ring := PySem.W.mg_of X G a_ring, b_ring := (F_ring.binds (ps := ["count", "order"]) fun _ _ _ _ _ _ us hl => match us, hl with | [_, _], _ => rfl),
    a__law_spoilt := _, d__law_spoilt := _, F__law_spoilt := F__law_spoilt, m__law_spoilt := PySem.W.mg_of X G a__law_spoilt, b__law_spoilt := (F__law_spoilt.binds (ps := ["acts", "parts", "cell"]) fun _ _ _ _ _ _ us hl => match us, hl with | [_, _, _], _ => rfl),
    a_read_round := _, d_read_round := _, F_read_round := F_read_round, m_read_round := PySem.W.mg_of X G a_read_round, b_read_round := (F_read_round.binds (ps := ["text"]) fun _ _ _ _ _ _ us hl => match us, hl with | [_], _ => rfl),
    a__law_kind := _, d__law_kind := _, F__law_kind := F__law_kind, m__law_kind := PySem.W.mg_of X G a__law_kind, b__law_kind := (F__law_kind.binds (ps := ["text"]) fun _ _ _ _ _ _ us hl => match us, hl with | [_], _ => rfl),
    a__law_class := _, d__law_class := _, F__law_class := F__law_class, m__law_class := PySem.W.mg_of X G a__law_class, b__law_class := (F__law_class.binds (ps := ["text"]) fun _ _ _ _ _ _ us hl => match us, hl with | [_], _ => rfl),
    a_law := _, d_law := _, F_law := F_law, m_law := PySem.W.mg_of X G a_law, b_law := (F_law.binds (ps := ["script"]) fun _ _ _ _ _ _ us hl => match us, hl with | [_], _ => rfl),
    E_DeskError := .of n_DeskError (PySem.W.mg_of X G n_DeskError) ex_DeskError ek_DeskError es_DeskError et_DeskError,
    E_NoText := .of n_NoText (PySem.W.mg_of X G n_NoText) ex_NoText ek_NoText es_NoText et_NoText,
    E_Ring := .of n_Ring (PySem.W.mg_of X G n_Ring) ex_Ring ek_Ring es_Ring et_Ring,
    m_NoText_DeskError := exm_at n_NoText n_DeskError em_NoText_DeskError,
    m_NoText_NoText := exm_at n_NoText n_NoText em_NoText_NoText,
    m_Ring_DeskError := exm_at n_Ring n_DeskError em_Ring_DeskError,
    m_Ring_NoText := exm_at n_Ring n_NoText em_Ring_NoText,
    m_Ring_Ring := exm_at n_Ring n_Ring em_Ring_Ring,
    X_NoText := excC_at n_NoText c1_NoText c2_NoText es_NoText c3_NoText c4_NoText oc1 oc2 c5_NoText,
    X_Ring := excC_at n_Ring c1_Ring c2_Ring es_Ring c3_Ring c4_Ring oc1 oc2 c5_Ring,
    i_NoText_NoText := kit_at n_NoText n_NoText ki_NoText_NoText,
    i_NoText_Ring := kit_at n_NoText n_Ring ki_NoText_Ring,
    i_NoText_ValueError := kitB_at n_NoText ki_NoText_ValueError,
    i_Ring_NoText := kit_at n_Ring n_NoText ki_Ring_NoText,
    i_Ring_Ring := kit_at n_Ring n_Ring ki_Ring_Ring,
    i_Ring_ValueError := kitB_at n_Ring ki_Ring_ValueError,
    n_NoText := kitN_at n_NoText kn_NoText,
    n_Ring := kitN_at n_Ring kn_Ring,
    n_ValueError := kn_ValueError,
    u_KEYS := TupC.mk' (PySem.W.mg_of X G p_KEYS) q_KEYS r_KEYS,
    z_ValueError := PySem.W.mg_none_of X G z_ValueError,
    z_int := PySem.W.mg_none_of X G z_int,
    z_isinstance := PySem.W.mg_none_of X G z_isinstance,
    z_len := PySem.W.mg_none_of X G z_len,
    z_list := PySem.W.mg_none_of X G z_list,
    z_range := PySem.W.mg_none_of X G z_range,
    z_reversed := PySem.W.mg_none_of X G z_reversed,
    z_set := PySem.W.mg_none_of X G z_set,
    z_sorted := PySem.W.mg_none_of X G z_sorted,
    z_str := PySem.W.mg_none_of X G z_str,
    z_tuple := PySem.W.mg_none_of X G z_tuple,
    t_FIGURES := _, c_FIGURES := PySem.W.mg_of X G e_FIGURES,
    t_LETTERS := _, c_LETTERS := PySem.W.mg_of X G e_LETTERS,
    t_LONGEST := _, c_LONGEST := PySem.W.mg_of X G e_LONGEST,
    t_MOST_STEPS := _, c_MOST_STEPS := PySem.W.mg_of X G e_MOST_STEPS,
    t_MOST_TIES := _, c_MOST_TIES := PySem.W.mg_of X G e_MOST_TIES }
  exact ⟨PySem.W.fnOf "law" "law" (defArgs s_law) (defBody s_law) (defScope s_law) .none kV_law dc_law pm_law an_law cd_law ct_law, fun s v => .of_eq rfl, fun base _ _ => DL.law_end (ok_law T) hlaw⟩
end Lk68
namespace Fn
open PySem DL
end Fn
namespace Fn
open PySem DL
end Fn
namespace Fn
open PySem DL
end Fn
namespace Fn
open PySem DL
end Fn
namespace Fn
open PySem DL
end Fn
namespace Fn
open PySem DL
end Fn
namespace Fn
open PySem DL
end Fn
namespace Fn
open PySem DL
end Fn
namespace Fn
open PySem DL
end Fn
namespace Fn
open PySem DL
end Fn
namespace Fn
open PySem DL
end Fn
namespace Fn
open PySem DL
end Fn
namespace Fn
open PySem DL
end Fn
namespace Fn
open PySem DL
end Fn
namespace Fn
open PySem DL
end Fn
namespace Fn
open PySem DL
end Fn
namespace Fn
open PySem DL
end Fn
namespace Fn
open PySem DL
end Fn
namespace Fn
open PySem DL
end Fn
namespace Fn
open PySem DL
end Fn
local macro_rules | `(tactic| walk_at "dl") => `(tactic| try simp -implicitDefEqProofs only [DL.sort_ints, DL.sum_ints, DL.in_ints, DL.idx_ok, DL.rev_lst, DL.ap_ins, DL.intB_bl, DL.intB_int, DL.itZipL_lst, DL.ap_nrmS, DL.nrm_nil, DL.nrm_cons, DL.nrm_rows, DL.nrm_lst, DL.isC_rows, DL.len_rows, DL.unR_rows, DL.unR_lst, DL.isi_rows, DL.eq_rows, DL.ap_rowM, DL.rowM_ok, DL.rowM2_ok, DL.rowM3_ok, DL.ap_row0, DL.ap_get2, DL.get2_ok, DL.row0_ok, DL.row02_ok, DL.ap_rowsApp, DL.ap_rowPut, DL.rowPut_ok, DL.rowPut2_ok, DL.ap_consL, DL.consL_ok, DL.mkRows_ap, DL.ap_lcR, DL.maxDef_ints, DL.ap_cnt, DL.cnt_ok, DL.ap_idx, DL.ap_txop, DL.tx_ok, DL.ap_jopS, DL.ap_lc, DL.ap_try, DL.try_ok, DL.try_err, DL.ap_tryAs, DL.tryAs_ok, DL.tryAs_err, DL.gone_next, DL.ap_raise, DL.ap_bodyD, DL.end_err, DL.itRev_lst, DL.itZip_lst, DL.itEnum_lst, DL.min_int, DL.max_int, DL.ap_seq, DL.seq_next, DL.seq_ret, DL.seq_brk, DL.seq_cont, DL.seq_err, DL.ap_skip, DL.ap_brk, DL.ap_cont, DL.ap_stl, DL.settle_nil, DL.settle_cons, DL.settle_t, DL.settle_f, DL.ap_if, DL.ite_t, DL.ite_f, DL.ap_set, DL.ap_setO, DL.set_ok, DL.setO_ok, DL.isC_lst, DL.isC_dK, DL.isC_dT, DL.isC_int, DL.isC_str, DL.isC_bl, DL.isC_non, DL.isC_tup, DL.ap_ret, DL.ap_retO, DL.ret_ok, DL.ap_ret0, DL.ap_unp, DL.unp_ok, DL.unp2_ok, DL.ap_drop, DL.ap_gset, DL.ap_gtup, DL.ap_glst, DL.ap_gnil, DL.ap_gcons, DL.ap_rd, DL.ap_rdE, DL.ap_rdO, DL.rd_ok, DL.rdE_ok, DL.rdO_ok, DL.rdO_f, DL.ap_cst, DL.ap_bop, DL.bd2_ok, DL.ap_uop, DL.ap_nop, DL.ap_anil, DL.ap_acons, DL.cons_ok, DL.add_int, DL.add_str, DL.add_lst, DL.sub_int, DL.rep_lst, DL.neg_int, DL.eq_int, DL.eq_str, DL.eq_bl, DL.eq_non_int, DL.eq_int_non, DL.lt_int, DL.le_int, DL.gt_int, DL.ge_int, DL.isN_ap, DL.isN_non, DL.isN_int, DL.isN_str, DL.isN_bl, DL.ap_rdL, DL.rdL_ok, DL.ap_rdF, DL.rdF_int, DL.is_bl, DL.isN_lst, DL.isN_tup, DL.asB_bl, DL.asI_int, DL.mkLst_ap, DL.mkTup_ap, DL.len_lst, DL.len_tup, DL.len_scr, DL.len_str, DL.len_dK, DL.list_lst, DL.list_tup, DL.list_scr, DL.tuple_lst, DL.flatO_int, DL.flatO_bl, DL.flatO_str, DL.flatO_non, DL.flatO_tup, DL.eNot_bl, DL.isi_int, DL.isi_bl, DL.isi_str, DL.isi_non, DL.isi_lst, DL.isi_tup, DL.isB_int_int, DL.isB_int_bl, DL.isB_int_str, DL.isB_int_non, DL.isB_int_lst, DL.isB_int_tup, DL.isB_bool_int, DL.isB_bool_bl, DL.isB_bool_str, DL.isB_bool_non, DL.isB_bool_lst, DL.isB_bool_tup, DL.isB_list_lst, DL.isB_list_int, DL.isB_list_tup, DL.isB_tuple_tup, DL.isB_tuple_lst, DL.isB_str_str, DL.isB_str_int, DL.ap_tst, DL.ap_bnot, DL.ap_band, DL.ap_bor, DL.and_t, DL.and_f, DL.or_t, DL.or_f, DL.ap_eand, DL.ap_eor, DL.eand_t, DL.eand_f, DL.eor_t, DL.eor_f, DL.ap_eif, DL.eif_t, DL.eif_f, DL.ap_chain, DL.chn0_ok, DL.chn_t, DL.chn_f, DL.ap_slc, DL.slc_ok, DL.ap_pnone, DL.ap_psome, DL.cut_lst, DL.cut_scr, DL.ap_for, DL.loop_ok, DL.ap_loop0, DL.ap_loop1, DL.lp1_ok, DL.lp2_next, DL.lp2_cont, DL.lp2_brk, DL.lp2_ret, DL.ap_itr, DL.ap_irg, DL.itD_lst, DL.itD_tup, DL.itD_scr, DL.itD_str, DL.rng1_ap, DL.rng2_ap, DL.wipe_nil, DL.wipe_cons, DL.ap_app, DL.ap_ext, DL.ap_own0, DL.own0_ok, DL.ap_put, DL.put_ok, DL.put2_ok, DL.end_ret, DL.end_next, DL.args_ap, DL.bd_ok, DL.bd_err, DL.bd_bad, DL.grd_t, DL.grd_f, DL.xorB_f, DL.xorB_t, List.map_cons, List.map_nil, List.length_cons, List.length_nil, List.length_map, List.length_append, List.length_range, List.cons_append, List.nil_append, List.append_nil, List.getElem?_cons_zero, List.getElem?_cons_succ, List.set_cons_zero, List.set_cons_succ, List.replicate_succ, List.replicate_zero, Nat.sub_zero, Nat.sub_self, Nat.add_one_sub_one, Nat.reduceAdd, Nat.reduceSub, Nat.zero_add, Option.bind_some, decide_true, decide_false, Bool.and_true, Bool.true_and, Bool.and_false, Bool.false_and, Bool.not_true, Bool.not_false, Bool.or_true, Bool.or_false, Bool.true_or, Bool.false_or, Bool.false_eq_true, ↓reduceIte, Int.reduceToNat, Int.reducePow, Int.reduceMul, Int.reduceAdd, Int.reduceSub, Int.reduceNeg, Int.reduceLT, Int.reduceLE, Nat.reducePow, Int.reduceMod, Int.reduceDiv, Int.reduceEq, Nat.reduceEqDiff, Int.natAbs_cast, DL.mod_pos, DL.div_pos, DL.dEq_ints, DL.dEq_scr, DL.dEq_scr_nil, DL.dEq_ints_nil, DL.ix_l0, DL.ix_t0, DL.ix_ls, DL.ix_ts, Nat.zero_le, Nat.reduceLeDiff, DL.small_of, DL.inR_small, DL.lt_size, DL.mul_small, DL.pow_ok, DL.app_ok, DL.ite_t])
namespace Ti
open PySem DL
def kI (k : Nat) : D := .int (k : Int)
structure Seq (σ : List D → D) : Prop where
  len : ∀ ds, dLen [σ ds] = .ok (.int ds.length)
  ix : ∀ ds i x, 0 ≤ i → ds[i.toNat]? = some x → dIxA (σ ds) (.int i) = .ok x
  cut : ∀ ds (k : Nat), k < ds.length → dCut (σ ds) none (some (k : Int)) = .ok (σ (ds.take k))
  it : ∀ ds, itD (σ ds) = .ok ds
theorem look (ts : List Int) (k : Nat) (h : k < ts.length) : dIxA (.lst (ts.map .int)) (.int (k : Int)) = .ok (.int (ts.getD k 0)) := by
  rw [ixA_ints (by omega) (by omega)]; rfl
theorem lc_filter {α : Type} {g : D → En → Option En} {t : En → R Bool} {f : En → R D} {ρ : En} (F : α → D) (p : α → Bool) : ∀ (xs : List α), (∀ a ∈ xs, lcStep g t f ρ (F a) = .ok (if p a = true then some (F a) else none)) → lcGo g t f ρ (xs.map F) = .ok ((xs.filter p).map F)
  | [], _ => rfl
  | a :: xs, h => by
    have ih := lc_filter F p xs fun b hb => h b (List.mem_cons_of_mem _ hb)
    rw [List.map_cons]
    unfold lcGo
    rw [h a List.mem_cons_self, ih]
    cases hp : p a with
    | true => rw [List.filter_cons_of_pos hp]; rfl
    | false => rw [List.filter_cons_of_neg (by rw [hp]; exact Bool.false_ne_true)]; rfl
theorem lc_fmap {α : Type} {g : D → En → Option En} {t : En → R Bool} {f : En → R D} {ρ : En} (F G : α → D) (p : α → Bool) : ∀ (xs : List α), (∀ a ∈ xs, lcStep g t f ρ (F a) = .ok (if p a = true then some (G a) else none)) → lcGo g t f ρ (xs.map F) = .ok ((xs.filter p).map G)
  | [], _ => rfl
  | a :: xs, h => by
    have ih := lc_fmap F G p xs fun b hb => h b (List.mem_cons_of_mem _ hb)
    rw [List.map_cons]
    unfold lcGo
    rw [h a List.mem_cons_self, ih]
    cases hp : p a with
    | true => rw [List.filter_cons_of_pos hp]; rfl
    | false => rw [List.filter_cons_of_neg (by rw [hp]; exact Bool.false_ne_true)]; rfl
theorem lc_one {g : D → En → Option En} {t : En → R Bool} {f : En → R D} {ρ ρ1 : En} {d z : D} {b : Bool} (hg : g d ρ = some ρ1) (ht : t ρ1 = .ok b) (hf : b = true → f ρ1 = .ok z) : lcStep g t f ρ d = .ok (if b = true then some z else none) := by
  cases b with
  | true => exact DL.lcS_t hg ht (hf rfl)
  | false => exact DL.lcS_f hg ht
def most : Str := Str.ofString "most"
def least : Str := Str.ofString "least"
end Ti
namespace Di
open PySem DL PySem.Spec L2
def keys (kvs : List (Int × D)) : List Int := kvs.map (·.1)
theorem lk_some {q : Int} : ∀ {kvs : List (Int × D)}, (lkD kvs q).isSome = decide (q ∈ keys kvs)
  | [] => rfl
  | kv :: kvs => by
    have ih := lk_some (q := q) (kvs := kvs)
    unfold lkD at ih ⊢
    unfold keys at ih ⊢
    by_cases h : kv.1 = q
    · rw [List.find?_cons_of_pos (by simp only [h, decide_true]), decide_eq_true (by rw [List.map_cons, h]; exact List.mem_cons_self)]; rfl
    · rw [List.find?_cons_of_neg (by simpa using h), ih, decide_eq_decide, List.map_cons, List.mem_cons]
      exact ⟨.inr, fun z => z.resolve_left fun e => h e.symm⟩
theorem lk_in {kvs : List (Int × D)} {q : Int} : (lkD kvs q).isSome = true ↔ q ∈ keys kvs := by rw [lk_some, decide_eq_true_iff]
theorem keys_put (kvs : List (Int × D)) (q : Int) (v : D) : keys (putD kvs q v) = if q ∈ keys kvs then keys kvs else keys kvs ++ [q] := by
  unfold putD
  have e : (kvs.any fun kv => decide (kv.1 = q)) = decide (q ∈ keys kvs) := by
    rw [← Bool.decide_coe (kvs.any _), decide_eq_decide, List.any_eq_true]
    unfold keys
    simp only [List.mem_map, decide_eq_true_eq]
  rw [e]
  by_cases h : q ∈ keys kvs
  · rw [if_pos (decide_eq_true h), if_pos h]
    unfold keys
    rw [List.map_map]
    refine List.map_congr_left fun kv _ => ?_
    show (if kv.1 = q then (kv.1, v) else kv).1 = kv.1
    split <;> rfl
  · rw [if_neg (by rw [decide_eq_false h]; exact Bool.false_ne_true), if_neg h]
    unfold keys
    rw [List.map_append]; rfl
theorem lk_map (q r : Int) (v : D) : ∀ kvs : List (Int × D), lkD (kvs.map fun kv => if kv.1 = q then (kv.1, v) else kv) r = if r = q then (lkD kvs r).map fun _ => v else lkD kvs r
  | [] => by split <;> rfl
  | kv :: kvs => by
    have ih := lk_map q r v kvs
    unfold lkD at ih ⊢
    rw [List.map_cons]
    by_cases h : kv.1 = r
    · rw [List.find?_cons_of_pos (by show decide ((if kv.1 = q then (kv.1, v) else kv).1 = r) = true; split <;> simp only [h, decide_true]), List.find?_cons_of_pos (by simp only [h, decide_true])]
      subst h
      by_cases e : kv.1 = q
      · rw [if_pos e, if_pos e]; rfl
      · rw [if_neg e, if_neg e]
    · rw [List.find?_cons_of_neg (by show ¬ decide ((if kv.1 = q then (kv.1, v) else kv).1 = r) = true; split <;> simpa using h), List.find?_cons_of_neg (by simpa using h), ih]
theorem lk_app (q r : Int) (v : D) : ∀ kvs : List (Int × D), lkD (kvs ++ [(q, v)]) r = if (lkD kvs r).isSome then lkD kvs r else if r = q then some v else none
  | [] => by
    unfold lkD
    rw [List.nil_append]
    by_cases h : q = r
    · rw [List.find?_cons_of_pos (by simp only [h, decide_true])]; rw [if_pos h.symm]; rfl
    · rw [List.find?_cons_of_neg (by simpa using h)]
      show (none : Option D) = if r = q then some v else none
      rw [if_neg fun z => h z.symm]
  | kv :: kvs => by
    have ih := lk_app q r v kvs
    unfold lkD at ih ⊢
    rw [List.cons_append]
    by_cases h : kv.1 = r
    · rw [List.find?_cons_of_pos (by simp only [h, decide_true]), List.find?_cons_of_pos (by simp only [h, decide_true])]; rfl
    · rw [List.find?_cons_of_neg (by simpa using h), List.find?_cons_of_neg (by simpa using h), ih]
theorem lk_put (kvs : List (Int × D)) (q r : Int) (v : D) : lkD (putD kvs q v) r = if r = q then some v else lkD kvs r := by
  have e : (kvs.any fun kv => decide (kv.1 = q)) = decide (q ∈ keys kvs) := by
    rw [← Bool.decide_coe (kvs.any _), decide_eq_decide, List.any_eq_true]
    unfold keys
    simp only [List.mem_map, decide_eq_true_eq]
  unfold putD
  rw [e]
  by_cases h : q ∈ keys kvs
  · rw [if_pos (decide_eq_true h), lk_map]
    by_cases hr : r = q
    · rw [if_pos hr, if_pos hr]
      have := lk_in.mpr (hr ▸ h : r ∈ keys kvs)
      cases hl : lkD kvs r with
      | none => rw [hl] at this; cases this
      | some _ => rfl
    · rw [if_neg hr, if_neg hr]
  · rw [if_neg (by rw [decide_eq_false h]; exact Bool.false_ne_true), lk_app]
    by_cases hr : r = q
    · rw [if_neg (fun z => h (hr ▸ lk_in.mp z)), if_pos hr, if_pos hr]
    · rw [if_neg hr, if_neg hr]
      cases hl : lkD kvs r <;> rfl
end Di
namespace Sh
open PySem DL Ti Di
theorem nodup_len : ∀ {l m : List Int}, l.Nodup → (∀ x ∈ l, x ∈ m) → l.length ≤ m.length
  | [], _, _, _ => Nat.zero_le _
  | x :: l, m, h, s => by
    have hx := s x List.mem_cons_self
    have hn := List.nodup_cons.mp h
    have := nodup_len (m := m.erase x) hn.2 fun y hy => (List.mem_erase_of_ne (fun (e : y = x) => hn.1 (e ▸ hy))).mpr (s y (List.mem_cons_of_mem _ hy))
    rw [List.length_erase_of_mem hx] at this
    have hp := List.length_pos_of_mem hx
    rw [List.length_cons]
    omega
def num (l : List Int) (x : Int) : Int := ((uniq l).idxOf x : Nat)
end Sh
namespace De
open PySem DL
inductive NB : Nat → D → Prop
  | non {n : Nat} : NB n .non
  | int {n : Nat} (i : Int) : NB n (.int i)
  | str {n : Nat} (x : Str) : PyData.canLay0 (.str x) = true → NB n (.str x)
  | lst {n : Nat} {ds : List D} : (∀ d ∈ ds, NB n d) → NB (n + 1) (.lst ds)
  | tup {n : Nat} {ds : List D} : (∀ d ∈ ds, NB n d) → NB (n + 1) (.tup ds)
theorem py_all {n : Nat} : ∀ {ds : List D}, (∀ d ∈ ds, ∃ p, py d = some p ∧ p.canLay0 = true ∧ p.depth ≤ n) → ∃ ps, pys ds = some ps ∧ PyData.canLayAll0 ps = true ∧ PyData.depthAll ps ≤ n
  | [], _ => ⟨[], rfl, rfl, Nat.zero_le _⟩
  | d :: ds, h => by
    obtain ⟨p, h1, h2, h3⟩ := h d List.mem_cons_self
    obtain ⟨ps, h4, h5, h6⟩ := py_all fun e he => h e (List.mem_cons_of_mem _ he)
    refine ⟨p :: ps, ?_, ?_, ?_⟩
    · unfold pys; rw [h1, h4]; rfl
    · unfold PyData.canLayAll0; rw [h2, h5]; rfl
    · unfold PyData.depthAll; omega
theorem NB.py {n : Nat} {d : D} (h : NB n d) : ∃ p, DL.py d = some p ∧ p.canLay0 = true ∧ p.depth ≤ n := by
  induction h with
  | non => exact ⟨.none, rfl, by simp [PyData.canLay0], by simp [PyData.depth]⟩
  | int i => exact ⟨.int i, rfl, by simp [PyData.canLay0], by simp [PyData.depth]⟩
  | str x hx => exact ⟨.str x, rfl, hx, by simp [PyData.depth]⟩
  | lst _ ih =>
    obtain ⟨ps, h1, h2, h3⟩ := py_all ih
    refine ⟨.list ps, ?_, ?_, ?_⟩
    · unfold DL.py; rw [h1]; rfl
    · simp [PyData.canLay0, h2]
    · simp [PyData.depth]; omega
  | tup _ ih =>
    obtain ⟨ps, h1, h2, h3⟩ := py_all ih
    refine ⟨.tuple ps, ?_, ?_, ?_⟩
    · unfold DL.py; rw [h1]; rfl
    · simp [PyData.canLay0, h2]
    · simp [PyData.depth]; omega
theorem eqv_all {ds : List D} (ih : ∀ d ∈ ds, ∀ {m : Nat} {e : D} {p q : PyData}, NB m e → DL.py d = some p → DL.py e = some q → (PyData.eqv p q = true ↔ d = e)) : ∀ {m : Nat} {es : List D} {ps qs : List PyData}, (∀ e ∈ es, NB m e) → pys ds = some ps → pys es = some qs → (PyData.eqvAll ps qs = true ↔ ds = es) := by
  induction ds with
  | nil =>
    intro m es ps qs hes hp hq
    cases hp
    cases es with
    | nil => cases hq; exact ⟨fun _ => rfl, fun _ => rfl⟩
    | cons e es =>
      unfold pys at hq
      cases h1 : DL.py e with
      | none => rw [h1] at hq; cases hq
      | some q1 =>
        cases h2 : pys es with
        | none => rw [h1, h2] at hq; cases hq
        | some q2 =>
          rw [h1, h2] at hq; cases hq
          exact ⟨fun h => (by simp [PyData.eqvAll] at h), fun h => nomatch h⟩
  | cons d ds ih2 =>
    intro m es ps qs hes hp hq
    unfold pys at hp
    cases g1 : DL.py d with
    | none => rw [g1] at hp; cases hp
    | some p1 =>
      cases g2 : pys ds with
      | none => rw [g1, g2] at hp; cases hp
      | some p2 =>
        rw [g1, g2] at hp; cases hp
        cases es with
        | nil => cases hq; exact ⟨fun h => (by simp [PyData.eqvAll] at h), fun h => nomatch h⟩
        | cons e es =>
          unfold pys at hq
          cases h1 : DL.py e with
          | none => rw [h1] at hq; cases hq
          | some q1 =>
            cases h2 : pys es with
            | none => rw [h1, h2] at hq; cases hq
            | some q2 =>
              rw [h1, h2] at hq; cases hq
              have a1 := ih d List.mem_cons_self (hes e List.mem_cons_self) g1 h1
              have a2 := ih2 (fun d hd => ih d (List.mem_cons_of_mem _ hd)) (fun e he => hes e (List.mem_cons_of_mem _ he)) g2 h2
              show (PyData.eqvAll (p1 :: p2) (q1 :: q2) = true) ↔ _
              unfold PyData.eqvAll
              rw [Bool.and_eq_true, a1, a2]
              exact ⟨fun ⟨x, y⟩ => by rw [x, y], fun h => by cases h; exact ⟨rfl, rfl⟩⟩
theorem NB.eqv {n : Nat} {d : D} (h : NB n d) : ∀ {m : Nat} {e : D} {p q : PyData}, NB m e → DL.py d = some p → DL.py e = some q → (PyData.eqv p q = true ↔ d = e) := by
  induction h with
  | non =>
    intro m e p q he hp hq
    cases hp
    cases he with
    | non => cases hq; simp [PyData.eqv]
    | int i => cases hq; simp [PyData.eqv]
    | str x hx => cases hq; simp [PyData.eqv]
    | lst h => obtain ⟨ps, h1, -, -⟩ := py_all (fun d hd => (h d hd).py); unfold DL.py at hq; rw [h1] at hq; cases hq; simp [PyData.eqv]
    | tup h => obtain ⟨ps, h1, -, -⟩ := py_all (fun d hd => (h d hd).py); unfold DL.py at hq; rw [h1] at hq; cases hq; simp [PyData.eqv]
  | int i =>
    intro m e p q he hp hq
    cases hp
    cases he with
    | non => cases hq; simp [PyData.eqv]
    | int i => cases hq; simp [PyData.eqv]
    | str x hx => cases hq; simp [PyData.eqv]
    | lst h => obtain ⟨ps, h1, -, -⟩ := py_all (fun d hd => (h d hd).py); unfold DL.py at hq; rw [h1] at hq; cases hq; simp [PyData.eqv]
    | tup h => obtain ⟨ps, h1, -, -⟩ := py_all (fun d hd => (h d hd).py); unfold DL.py at hq; rw [h1] at hq; cases hq; simp [PyData.eqv]
  | str x hx =>
    intro m e p q he hp hq
    cases hp
    cases he with
    | non => cases hq; simp [PyData.eqv]
    | int i => cases hq; simp [PyData.eqv]
    | str x hx => cases hq; simp [PyData.eqv]
    | lst h => obtain ⟨ps, h1, -, -⟩ := py_all (fun d hd => (h d hd).py); unfold DL.py at hq; rw [h1] at hq; cases hq; simp [PyData.eqv]
    | tup h => obtain ⟨ps, h1, -, -⟩ := py_all (fun d hd => (h d hd).py); unfold DL.py at hq; rw [h1] at hq; cases hq; simp [PyData.eqv]
  | lst hd ih =>
    intro m e p q he hp hq
    obtain ⟨ps, h1, -, -⟩ := py_all (fun d h => (hd d h).py)
    unfold DL.py at hp; rw [h1] at hp; cases hp
    cases he with
    | non => cases hq; simp [PyData.eqv]
    | int i => cases hq; simp [PyData.eqv]
    | str x hx => cases hq; simp [PyData.eqv]
    | lst h =>
      obtain ⟨qs, h2, -, -⟩ := py_all (fun d hd => (h d hd).py)
      unfold DL.py at hq; rw [h2] at hq; cases hq
      have := eqv_all (fun d hd {m e p q} => ih d hd) h h1 h2
      show PyData.eqv (.list ps) (.list qs) = true ↔ _
      unfold PyData.eqv
      rw [this]
      exact ⟨fun h => by rw [h], fun h => by cases h; rfl⟩
    | tup h => obtain ⟨ps, h1, -, -⟩ := py_all (fun d hd => (h d hd).py); unfold DL.py at hq; rw [h1] at hq; cases hq; simp [PyData.eqv]
  | tup hd ih =>
    intro m e p q he hp hq
    obtain ⟨ps, h1, -, -⟩ := py_all (fun d h => (hd d h).py)
    unfold DL.py at hp; rw [h1] at hp; cases hp
    cases he with
    | non => cases hq; simp [PyData.eqv]
    | int i => cases hq; simp [PyData.eqv]
    | str x hx => cases hq; simp [PyData.eqv]
    | lst h => obtain ⟨ps, h1, -, -⟩ := py_all (fun d hd => (h d hd).py); unfold DL.py at hq; rw [h1] at hq; cases hq; simp [PyData.eqv]
    | tup h =>
      obtain ⟨qs, h2, -, -⟩ := py_all (fun d hd => (h d hd).py)
      unfold DL.py at hq; rw [h2] at hq; cases hq
      have := eqv_all (fun d hd {m e p q} => ih d hd) h h1 h2
      show PyData.eqv (.tuple ps) (.tuple qs) = true ↔ _
      unfold PyData.eqv
      rw [this]
      exact ⟨fun h => by rw [h], fun h => by cases h; rfl⟩
theorem deep_eq {neg : Bool} {n m : Nat} {a b : D} (ha : NB n a) (hb : NB m b) (hn : n ≤ 60) (hm : m ≤ 60) {P : Prop} [Decidable P] (hP : a = b ↔ P) : deepEq neg a b = .ok (.bl (xorB neg (decide P))) := by
  obtain ⟨p, h1, h2, h3⟩ := ha.py
  obtain ⟨q, g1, g2, g3⟩ := hb.py
  have e := ha.eqv hb h1 g1
  have e2 : PyData.eqv p q = decide P := by
    rw [← Bool.decide_coe (PyData.eqv p q), decide_eq_decide, e, hP]
  unfold deepEq
  rw [h1, g1]
  show grd (SeqAt.shaped p && SeqAt.shaped q) (R.ok (D.bl (xorB neg (PyData.eqv p q)))) = _
  have s1 : SeqAt.shaped p = true := by unfold SeqAt.shaped; rw [h2, decide_eq_true (by omega)]; rfl
  have s2 : SeqAt.shaped q = true := by unfold SeqAt.shaped; rw [g2, decide_eq_true (by omega)]; rfl
  rw [s1, s2, e2]; rfl
theorem eq_lsts {neg : Bool} {n m : Nat} {xs ys : List D} (ha : NB n (.lst xs)) (hb : NB m (.lst ys)) (hn : n ≤ 60) (hm : m ≤ 60) {P : Prop} [Decidable P] (hP : xs = ys ↔ P) : dEq neg (.lst xs) (.lst ys) = .ok (.bl (xorB neg (decide P))) :=
  deep_eq ha hb hn hm ⟨fun h => hP.mp (by cases h; rfl), fun h => by rw [hP.mpr h]⟩
theorem NB.ints {n : Nat} (ns : List Int) : NB (n + 1) (.lst (ns.map .int)) := .lst fun d hd => by
  obtain ⟨i, _, rfl⟩ := List.mem_map.mp hd
  exact .int i
end De
namespace Gw
open PySem DL Ti Di Sh De
def W (l : List Int) : Int := maxI l (-1) + 1
theorem pys_ints : ∀ l : List Int, pys (l.map .int) = some (l.map PyData.int)
  | [] => rfl
  | x :: l => by
    show (py (.int x)).bind (fun p => (pys (l.map .int)).map fun ps => p :: ps) = _
    rw [pys_ints l]; rfl
theorem eqv_ints : ∀ l m : List Int, PyData.eqvAll (l.map .int) (m.map .int) = decide (l = m)
  | [], [] => rfl
  | [], _ :: _ => rfl
  | _ :: _, [] => rfl
  | x :: l, y :: m => by
    show (PyData.eqv (.int x) (.int y) && PyData.eqvAll (l.map .int) (m.map .int)) = _
    rw [eqv_ints l m]
    show ((x == y) && _) = _
    rw [Bool.eq_iff_iff]
    simp
end Gw
namespace Fn
open PySem DL
end Fn
namespace Fn
open PySem DL
end Fn
namespace Fn
open PySem DL
end Fn
namespace Br
open PySem DL Ti Di
end Br
namespace Pt
open PySem DL Ti Di Sh De Gw
end Pt
namespace Fn
open PySem DL
end Fn
namespace Nu
open PySem DL Ti
end Nu
namespace Fn
open PySem DL
end Fn
namespace Fn
open PySem DL
end Fn
namespace Fn
open PySem DL
end Fn
namespace Fn
open PySem DL
end Fn
namespace Bo
open PySem DL Ti
abbrev Tie := Str × Int × List Nat
def dT (t : Tie) : D := .tup [.str t.1, .int t.2.1, .tup (t.2.2.map kI)]
structure TieOk (m : Nat) (t : Tie) : Prop where
  word : t.1 = most ∨ t.1 = least
  lo : 1 ≤ t.2.1
  hi : t.2.1 ≤ 6
  ne : t.2.2 ≠ []
  sub : t.2.2.Sublist (List.range m)
theorem TieOk.lt {m : Nat} {t : Tie} (h : TieOk m t) : ∀ k ∈ t.2.2, k < m := fun k hk => List.mem_range.mp (h.sub.subset hk)
theorem TieOk.nd {m : Nat} {t : Tie} (h : TieOk m t) : t.2.2.Nodup := h.sub.nodup List.nodup_range
theorem TieOk.len {m : Nat} {t : Tie} (h : TieOk m t) : t.2.2.length ≤ m := by
  have := h.sub.length_le
  rwa [List.length_range] at this
end Bo
namespace Fn
open PySem DL
end Fn
namespace Ce
open PySem DL Ti
end Ce
namespace Tr
open PySem DL Ti Sh
def nx (b : Int) : Int := b % 1000000000000000000 + 1
def itN : Nat → Int → Int
  | 0, b => b
  | n + 1, b => itN n (nx b)
def Bg (b : Int) : Prop := 1 ≤ b ∧ b ≤ 1000000000000000000
theorem nx_bg (b : Int) : Bg (nx b) := by unfold Bg nx; omega
theorem itN_eq : ∀ (n : Nat) (b : Int), Bg b → n ≤ 100000 → itN n b = (b - 1 + n) % 1000000000000000000 + 1
  | 0, b, h, _ => by
    show b = _
    unfold Bg at h
    omega
  | n + 1, b, h, hn => by
    show itN n (nx b) = _
    rw [itN_eq n (nx b) (nx_bg b) (by omega)]
    unfold Bg at h
    unfold nx
    omega
theorem itN_inj {b : Int} (h : Bg b) {i j : Nat} (hi : i ≤ 100000) (hj : j ≤ 100000) (e : itN i b = itN j b) : i = j := by
  rw [itN_eq i b h hi, itN_eq j b h hj] at e
  unfold Bg at h
  omega
theorem free {b : Int} (h : Bg b) (l : List Int) (hl : l.length ≤ 1000) : ∃ i, i ≤ l.length ∧ itN i b ∉ l := by
  by_cases hc : ∃ i, i ≤ l.length ∧ itN i b ∉ l
  · exact hc
  · exfalso
    have := nodup_len (l := (List.range (l.length + 1)).map fun i => itN i b) (m := l) (by
      unfold List.Nodup
      rw [List.pairwise_map]
      refine List.nodup_range.imp_of_mem fun ha hb hne e => hne ?_
      rw [List.mem_range] at ha hb
      exact itN_inj h (by omega) (by omega) e) fun x hx => by
        obtain ⟨i, hi, rfl⟩ := List.mem_map.mp hx
        rw [List.mem_range] at hi
        by_cases hm : itN i b ∈ l
        · exact hm
        · exact absurd ⟨i, by omega, hm⟩ hc
    rw [List.length_map, List.length_range] at this
    omega
end Tr
namespace Me
open PySem DL Ti Di Sh Ce Tr
end Me
namespace Dw
open PySem DL Ti Di Sh Ce Tr Me Bo Gw
structure Drawn (top : Int) (menu : List Int) (lists : List (List Int)) (ties : List Tie) : Prop where
  m1 : menu.Pairwise (· < ·)
  m2 : ∀ b ∈ menu, Bg b
  m3 : menu.length ≤ 8
  m4 : menu ≠ []
  l1 : 1 ≤ lists.length
  l2 : (lists.length : Int) ≤ top
  l3 : lists.length ≤ 6
  l4 : ∀ l ∈ lists, l.Pairwise (· < ·) ∧ ∀ b ∈ l, b ∈ menu
  t1 : ties.length ≤ 12
  t2 : ∀ t ∈ ties, TieOk lists.length t
end Dw
namespace Dl
open PySem DL Di
def kN (k : Nat) : D := .int (k : Int)
def gO (hands : List (Option Int)) (k : Nat) : Option Int := hands.getD k none
def gP (pools : List (List Int)) (k : Nat) : List Int := pools.getD k []
structure Held (pools : List (List Int)) (hands : List (Option Int)) (own : List (Int × D)) : Prop where
  len : hands.length = pools.length
  inp : ∀ k x, gO hands k = some x → x ∈ gP pools k
  inj : ∀ j k x, gO hands j = some x → gO hands k = some x → j = k
  val : ∀ x d, lkD own x = some d → ∃ k, d = kN k ∧ gO hands k = some x
  has : ∀ k x, gO hands k = some x → lkD own x = some (kN k)
theorem kN_inj {j k : Nat} (h : kN j = kN k) : j = k := by
  unfold kN at h
  injection h with h
  omega
theorem gO_lt {hands : List (Option Int)} {k : Nat} {x : Int} (h : gO hands k = some x) : k < hands.length := by
  unfold gO at h
  by_cases hk : k < hands.length
  · exact hk
  · rw [List.getD_eq_getElem?_getD, List.getElem?_eq_none (by omega)] at h
    cases h
structure Bf (pools : List (List Int)) (hands : List (Option Int)) (start : Nat) (P : List Nat) (came : List (Int × D)) : Prop where
  nd : P.Nodup
  lt : ∀ p ∈ P, p < pools.length
  st : start ∈ P
  src : ∀ x d, lkD came x = some d → ∃ p, d = kN p ∧ p ∈ P ∧ x ∈ gP pools p
  back : ∀ p ∈ P, p ≠ start → ∃ x q, gO hands p = some x ∧ lkD came x = some (kN q) ∧ P.idxOf q < P.idxOf p
  fwd : ∀ x, x ∈ keys came → ∃ q ∈ P, q ≠ start ∧ gO hands q = some x
  cnt : (keys came).length + 1 = P.length
theorem Bf.start {pools : List (List Int)} {hands : List (Option Int)} {start : Nat} (hs : start < pools.length) : Bf pools hands start [start] [] where
  nd := by simp
  lt := fun p h => by rw [List.mem_singleton.mp h]; exact hs
  st := List.mem_singleton.mpr rfl
  src := fun x d h => by cases (h : (none : Option D) = some d)
  back := fun p h hn => absurd (List.mem_singleton.mp h) hn
  fwd := fun x h => absurd (h : x ∈ ([] : List Int)) List.not_mem_nil
  cnt := rfl
theorem idx_app {P : List Nat} {q p : Nat} (h : p ∈ P) : (P ++ [q]).idxOf p = P.idxOf p := by rw [List.idxOf_append, if_pos h]
theorem Bf.grow {pools : List (List Int)} {hands : List (Option Int)} {own came : List (Int × D)} {start place q : Nat} {P : List Nat} {b : Int} (W : Held pools hands own) (B : Bf pools hands start P came) (hn : gO hands start = none) (hp : place ∈ P) (hb : b ∈ gP pools place) (hc : b ∉ keys came) (hq : lkD own b = some (kN q)) :
    Bf pools hands start (P ++ [q]) (putD came b (kN place)) := by
  obtain ⟨k, e, hk⟩ := W.val b _ hq
  have e := kN_inj e
  subst e
  have hqs : q ≠ start := fun e => by rw [e, hn] at hk; cases hk
  have hqP : q ∉ P := fun h => by
    obtain ⟨x, q', g1, g2, -⟩ := B.back q h hqs
    rw [hk] at g1
    cases g1
    exact hc (lk_in.mp (by rw [g2]; rfl))
  have hx : ∀ {x : Int} {d : D}, lkD came x = some d → x ≠ b := fun h e => by
    subst e
    exact hc (lk_in.mp (by rw [h]; rfl))
  refine ⟨?_, ?_, List.mem_append_left _ B.st, ?_, ?_, ?_, ?_⟩
  · refine List.nodup_append.mpr ⟨B.nd, by simp, fun x hx1 y hy e => ?_⟩
    rw [List.mem_singleton.mp hy] at e
    subst e
    exact hqP hx1
  · intro p h
    rcases List.mem_append.mp h with h | h
    · exact B.lt p h
    · rw [List.mem_singleton.mp h, ← W.len]
      exact gO_lt hk
  · intro x d h
    rw [lk_put] at h
    split at h
    · rename_i e
      subst e
      cases h
      exact ⟨place, rfl, List.mem_append_left _ hp, hb⟩
    · obtain ⟨p, h1, h2, h3⟩ := B.src x d h
      exact ⟨p, h1, List.mem_append_left _ h2, h3⟩
  · intro p h hps
    rcases List.mem_append.mp h with h | h
    · obtain ⟨x, q', h1, h2, h3⟩ := B.back p h hps
      obtain ⟨p', e', hp', -⟩ := B.src x _ h2
      have e' := kN_inj e'
      subst e'
      refine ⟨x, q', h1, by rw [lk_put, if_neg (hx h2)]; exact h2, ?_⟩
      rw [idx_app h, idx_app hp']
      exact h3
    · rw [List.mem_singleton.mp h]
      refine ⟨b, place, hk, by rw [lk_put, if_pos rfl], ?_⟩
      rw [idx_app hp, List.idxOf_append, if_neg hqP]
      have := List.idxOf_lt_length_of_mem hp
      omega
  · intro x h
    rw [keys_put, if_neg hc] at h
    rcases List.mem_append.mp h with h | h
    · obtain ⟨q', h1, h2, h3⟩ := B.fwd x h
      exact ⟨q', List.mem_append_left _ h1, h2, h3⟩
    · rw [List.mem_singleton.mp h]
      exact ⟨q, List.mem_append_right _ (List.mem_singleton.mpr rfl), hqs, hk⟩
  · rw [keys_put, if_neg hc, List.length_append, List.length_append, List.length_singleton, List.length_singleton, B.cnt]
theorem Bf.len {pools : List (List Int)} {hands : List (Option Int)} {start : Nat} {P : List Nat} {came : List (Int × D)} (B : Bf pools hands start P came) : P.length ≤ pools.length ∧ came.length + 1 = P.length := by
  have h1 : P.length ≤ (List.range pools.length).length := by
    have aux : ∀ {l m : List Nat}, l.Nodup → (∀ x ∈ l, x ∈ m) → l.length ≤ m.length := by
      intro l
      induction l with
      | nil => intro m _ _; exact Nat.zero_le _
      | cons x l ih =>
        intro m h s
        have hx := s x List.mem_cons_self
        have hn := List.nodup_cons.mp h
        have := ih (m := m.erase x) hn.2 fun y hy => (List.mem_erase_of_ne (fun (e : y = x) => hn.1 (e ▸ hy))).mpr (s y (List.mem_cons_of_mem _ hy))
        rw [List.length_erase_of_mem hx] at this
        have hp := List.length_pos_of_mem hx
        rw [List.length_cons]
        omega
    exact aux B.nd fun x hx => List.mem_range.mpr (B.lt x hx)
  rw [List.length_range] at h1
  have h2 := B.cnt
  unfold keys at h2
  rw [List.length_map] at h2
  exact ⟨h1, h2⟩
end Dl
namespace Pl
open PySem DL Ti Di Sh De Bo Gw Dl
end Pl
namespace Rw
open PySem DL Ti Di Gw Dl
theorem putA_lst {ds : List D} {j : Int} {v : D} (h0 : 0 ≤ j) (h : j < ds.length) : putA (.lst ds) (.int j) v = .ok (.lst (ds.set j.toNat v)) := by
  show (match L2.ixN ds.length j with | some n => R.ok (D.lst (ds.set n v)) | none => R.bad) = _
  rw [DL.ixN_of h0 h]
end Rw
namespace Po
open PySem DL Ti Di Sh De Gw Pt Dl Pl Rw
end Po
namespace Bi
open PySem DL Ti Di Sh De Gw Pt Dl Pl Rw Po Nu
abbrev Row := List (Int × Int)
def prD (p : Int × Int) : D := .tup [.int p.1, .int p.2]
def ks (r : Row) : List Int := r.map (·.1)
def vl (r : Row) (b : Int) : Int := match r.find? (fun p => decide (p.1 = b)) with | some p => p.2 | none => 0
def gB (bill : List Row) (k : Nat) : Row := bill.getD k []
structure BillOk (bill : List Row) : Prop where
  nd : ∀ r ∈ bill, (ks r).Nodup
  sm : ∀ r ∈ bill, r.length ≤ 100
end Bi
namespace Be
open PySem DL Bi
inductive Pp where
  | tie (k : Int) : Pp
  | short (qs : List Int) : Pp
  | dear (pr : List Int) (td : List (Int × Int)) : Pp
  | split (ds : List Pp) : Pp
mutual
def dP : Pp → D
  | .tie k => .tup [.str (Str.ofString "tie"), .int k]
  | .short qs => .tup [.str (Str.ofString "short"), .lst (qs.map .int)]
  | .dear pr td => .tup [.str (Str.ofString "dear"), .lst (pr.map .int), .lst (td.map prD)]
  | .split ds => .tup [.str (Str.ofString "split"), .lst (dPs ds)]
def dPs : List Pp → List D
  | [] => []
  | p :: ps => dP p :: dPs ps
end
theorem dPs_map : ∀ ps : List Pp, dPs ps = ps.map dP
  | [] => rfl
  | p :: ps => congrArg (dP p :: ·) (dPs_map ps)
theorem dP_split (ds : List Pp) : dP (.split ds) = .tup [.str (Str.ofString "split"), .lst (ds.map dP)] := by
  rw [← dPs_map]; rfl
inductive Gd : Pp → Prop
  | tie (k : Int) : Gd (.tie k)
  | short (qs : List Int) : qs.length ≤ 1000 → Gd (.short qs)
  | dear (pr : List Int) (td : List (Int × Int)) : pr.length ≤ 1000 → td.length ≤ 1000 → Gd (.dear pr td)
  | split (ds : List Pp) : ds.length ≤ 1000 → (∀ k (h : k < ds.length), Gd ds[k]) → Gd (.split ds)
end Be
namespace Lc
open PySem DL Ti Gw
theorem lc_map {α : Type} {i : Nat} {f : En → R D} {ρ : En} (F G : α → D) (xs : List α) (hl : xs.length ≤ 1000000) (hf : ∀ a ∈ xs, f ((wipeR ρ [i]).set i (some (false, F a))) = .ok (G a)) : lcK (.ok (xs.map F)) [i] (gSet i) tYesD f ρ = .ok (.lst (xs.map G)) := by
  refine DL.lc_is (by rw [List.length_map]; exact hl) ?_
  have := lc_fmap (g := gSet i) (t := tYesD) (f := f) (ρ := wipeR ρ [i]) F G (fun _ => true) xs (fun a ha => lc_one rfl rfl fun _ => hf a ha)
  rw [List.filter_eq_self.mpr (fun _ _ => rfl)] at this
  exact this
theorem lc_if {α : Type} {i : Nat} {t : En → R Bool} {f : En → R D} {ρ : En} (F G : α → D) (p : α → Bool) (xs : List α) (hl : xs.length ≤ 1000000) (ht : ∀ a ∈ xs, t ((wipeR ρ [i]).set i (some (false, F a))) = .ok (p a)) (hf : ∀ a ∈ xs, p a = true → f ((wipeR ρ [i]).set i (some (false, F a))) = .ok (G a)) : lcK (.ok (xs.map F)) [i] (gSet i) t f ρ = .ok (.lst ((xs.filter p).map G)) := by
  refine DL.lc_is (by rw [List.length_map]; exact hl) ?_
  exact lc_fmap (g := gSet i) (t := t) (f := f) (ρ := wipeR ρ [i]) F G p xs (fun a ha => lc_one rfl (ht a ha) fun h => hf a ha h)
end Lc
namespace Fn
open PySem DL
end Fn
namespace Fn
open PySem DL
end Fn
namespace En
open PySem DL Ti Di Sh De Gw Pt Dl Pl Rw Po Nu Bi Lc
theorem cell0_eq (ns : List Int) (k : Int) (h : 0 ≤ k) : ∃ o, Fn.law_cell_cb3a [.scr ns, .int k] = .ok (o, .int (ns.getD k.toNat 0)) := by
  unfold Fn.law_cell_cb3a; rw [DL.ap_body (by rfl)]; unfold Fn.law_cell_cb3a_g
  walk_at "dl"
  by_cases hk : k < ns.length
  · rw [decide_eq_true hk]
    walk_at "dl"
    rw [DL.ixA_scrD h hk]
    walk_at "dl"
    exact ⟨_, rfl⟩
  · rw [decide_eq_false hk]
    walk_at "dl"
    rw [List.getD_eq_getElem?_getD, List.getElem?_eq_none (by omega)]
    exact ⟨_, rfl⟩
theorem entries_eq (ns : List Int) (hns : ns.length ≤ 63) (size : Nat) (h1 : 1 ≤ size) (h2 : size ≤ 1000) : ∃ cells : List Int, cells.length = size ∧ Fn.law_entries_7bb9 [.scr ns, .int (size : Int)] = .ok (true, .lst (cells.map .int)) := by
  unfold Fn.law_entries_7bb9; rw [DL.ap_body (by rfl)]; unfold Fn.law_entries_7bb9_g
  walk_at "dl"
  obtain ⟨ρ', g1, m, z3, m0, m1, g2⟩ := DL.loop_at (g := gSet 3) (gb := Fn.law_entries_7bb9_b1) D.int (cutD ns none (some 4))
    (fun i ρ => ∃ (m : Int) (z3 : DL.Slot), 0 ≤ m ∧ m ≤ 2147483647 ∧ ρ = [some (false, .scr ns), some (false, .int (size : Int)), some (false, .int m), z3, none, none]) [some (false, .scr ns), some (false, .int (size : Int)), some (false, .int 1), none, none, none] ⟨1, none, by omega, by omega, rfl⟩ (fun i a ρ ha ⟨m, z3, m0, m1, hρ⟩ => by
      subst hρ
      refine ⟨_, rfl, ?_⟩
      unfold Fn.law_entries_7bb9_b1
      walk_at "dl"
      rw [DL.mul_r (by omega) (by omega)]
      walk_at "dl"
      exact ⟨_, rfl, _, _, Int.emod_nonneg _ (by omega), by have := Int.emod_lt_of_pos (m * 31 + a) (show (0 : Int) < 2147483647 by omega); omega, rfl⟩)
  rw [g1]
  subst g2
  walk_at "dl"
  rw [DL.inR_small (by omega) (by omega)]
  walk_at "dl"
  rw [Int.toNat_natCast]
  obtain ⟨ρ', g1, m, cells, z5, m0, m1, hcl, g2⟩ := DL.loop_at (g := gSet 5) (gb := Fn.law_entries_7bb9_b2) (fun i : Nat => D.int (0 + (i : Int))) (List.range size)
    (fun i ρ => ∃ (m : Int) (cells : List Int) (z5 : DL.Slot), 0 ≤ m ∧ m ≤ 2147483647 ∧ cells.length = i ∧ ρ = [some (false, .scr ns), some (false, .int (size : Int)), some (false, .int m), z3, some (true, .lst (cells.map .int)), z5]) [some (false, .scr ns), some (false, .int (size : Int)), some (false, .int m), z3, some (true, .lst []), none] ⟨m, [], none, m0, m1, rfl, rfl⟩ (fun i a ρ ha ⟨m, cells, z5, m0, m1, hcl, hρ⟩ => by
      subst hρ
      have hi := DL.at_lt ha
      rw [List.getElem?_eq_getElem hi, List.getElem_range] at ha
      rw [List.length_range] at hi
      cases ha
      refine ⟨_, rfl, ?_⟩
      unfold Fn.law_entries_7bb9_b2
      walk_at "dl"
      rw [DL.mul_l (by omega) (by omega), DL.mul_l (by omega) (by omega)]
      walk_at "dl"
      have q1 := Int.emod_nonneg (m * m + 48271 * m + (0 + (i : Int)) + 7) (show (2147483647 : Int) ≠ 0 by omega)
      have q2 := Int.emod_lt_of_pos (m * m + 48271 * m + (0 + (i : Int)) + 7) (show (0 : Int) < 2147483647 by omega)
      generalize (m * m + 48271 * m + (0 + (i : Int)) + 7) % 2147483647 = m' at q1 q2 ⊢
      rw [DL.app_ok (by rw [List.length_map]; omega)]
      exact ⟨_, rfl, m', cells ++ [m'], _, q1, by omega, by rw [List.length_append, List.length_singleton, hcl], by rw [List.map_append]; rfl⟩)
  have g1' : loopD (gSet 5) Fn.law_entries_7bb9_b2 ((List.range size).map fun i : Nat => D.int (0 + (i : Int))) [some (false, .scr ns), some (false, .int (size : Int)), some (false, .int _), z3, some (true, .lst []), none] = .ok (.next ρ') := g1
  rw [g1']
  subst g2
  rw [List.length_range] at hcl
  walk_at "dl"
  rw [DL.inR_small (by omega) (by omega)]
  walk_at "dl"
  obtain ⟨ρ', g1, cells', z5', hcl', g2⟩ := DL.loop_at (g := gSet 5) (gb := Fn.law_entries_7bb9_b3) (fun i : Nat => D.int (4 + (i : Int))) (List.range ((ns.length : Int) - 4).toNat)
    (fun i ρ => ∃ (cells : List Int) (z5 : DL.Slot), cells.length = size ∧ ρ = [some (false, .scr ns), some (false, .int (size : Int)), some (false, .int m), z3, some (true, .lst (cells.map .int)), z5]) [some (false, .scr ns), some (false, .int (size : Int)), some (false, .int m), z3, some (true, .lst (cells.map .int)), z5] ⟨cells, z5, hcl, rfl⟩ (fun i a ρ ha ⟨cells, z5, hcl, hρ⟩ => by
      subst hρ
      have hi := DL.at_lt ha
      rw [List.getElem?_eq_getElem hi, List.getElem_range] at ha
      rw [List.length_range] at hi
      cases ha
      refine ⟨_, rfl, ?_⟩
      unfold Fn.law_entries_7bb9_b3
      walk_at "dl"
      rw [DL.ixA_scrD (by omega) (by omega), DL.mod_pos (by omega)]
      walk_at "dl"
      have q1 := Int.emod_nonneg (4 + (i : Int) - 4) (show (size : Int) ≠ 0 by omega)
      have q2 := Int.emod_lt_of_pos (4 + (i : Int) - 4) (show (0 : Int) < (size : Int) by omega)
      generalize (4 + (i : Int) - 4) % (size : Int) = j at q1 q2 ⊢
      rw [putA_lst q1 (by rw [List.length_map]; omega)]
      walk_at "dl"
      exact ⟨_, rfl, cells.set j.toNat (ns.getD (4 + (i : Int)).toNat 0), _, by rw [List.length_set]; exact hcl, by rw [List.map_set]⟩)
  rw [g1]
  subst g2
  walk_at "dl"
  exact ⟨cells', hcl', rfl⟩
structure Drew (bs : List Int) (top : Int) (count : Nat) (bill : List Row) : Prop where
  len : bill.length = count
  sub : ∀ r ∈ bill, (ks r).Sublist bs
  lo : ∀ r ∈ bill, ∀ p ∈ r, 0 ≤ p.2 ∧ p.2 < top
theorem Drew.ok {bs : List Int} {top : Int} {count : Nat} {bill : List Row} (h : Drew bs top count bill) (hb : bs.Pairwise (· < ·)) (hl : bs.length ≤ 100) : BillOk bill := by
  refine ⟨fun r hr => ?_, fun r hr => ?_⟩
  · exact (h.sub r hr).nodup (hb.imp fun h => Int.ne_of_lt h)
  · have := (h.sub r hr).length_le
    unfold ks at this
    rw [List.length_map] at this
    omega
end En
namespace Tx
open PySem DL Ti De Gw Bi Lc Be
theorem s_assoc (a b c : Str) : a ++ b ++ c = a ++ (b ++ c) := TL.ext_tl (by rw [TL.tl_append, TL.tl_append, TL.tl_append, TL.tl_append, List.append_assoc])
theorem len_app (a b : Str) : (a ++ b).length = a.length + b.length := by rw [TL.len_tl, TL.len_tl a, TL.len_tl b, TL.tl_append, List.length_append]
def num (i : Int) : Str := Str.ofString (toString i)
theorem str_num {i : Int} (h : i.natAbs < 10 ^ 61) : dStr [.int i] = .ok (.str (num i)) := by
  have h1 : i.natAbs.log2 < 1920 := DL.log_of (Nat.lt_of_lt_of_le h (by decide)) (by decide)
  show grd (decide (i.natAbs.log2 < 1920)) _ = _
  rw [decide_eq_true h1]; rfl
theorem num_neg (n : Nat) : num (Int.negSucc n) = Str.ofString "-" ++ num ((n + 1 : Nat) : Int) := TL.ext_tl (by
  rw [TL.tl_append]
  show TL.tl (Str.ofString ("-" ++ Nat.repr (n + 1))) = TL.tl (Str.ofString "-") ++ TL.tl (Str.ofString (Nat.repr (n + 1)))
  rw [TL.tl_ofString, TL.tl_ofString, TL.tl_ofString, String.toList_append, List.map_append])
theorem num_len {i : Int} (h : i.natAbs < 10 ^ 61) : (num i).length ≤ 62 := by
  have pos : ∀ n : Nat, n < 10 ^ 61 → (num (n : Int)).length ≤ 61 := fun n hn => by
    rw [TL.len_tl]
    unfold num
    rw [TL.tl_num]
    exact TL.numL_len (by decide) hn
  cases i with
  | ofNat n => exact Nat.le_trans (pos n h) (by decide)
  | negSucc n =>
    rw [num_neg, len_app]
    have := pos (n + 1) h
    have e : (Str.ofString "-").length = 1 := by decide +kernel
    omega
def cat (t : Str) (l : List Str) : Str := l.foldl (fun t y => t ++ Str.ofString " " ++ y) t
theorem cat_two (t : Str) (a b : List Str) : cat t (a ++ b) = cat (cat t a) b := List.foldl_append
theorem sp1 : (Str.ofString " ").length = 1 := by decide +kernel
theorem cat_len (B : Nat) : ∀ (l : List Str) (t : Str), (∀ y ∈ l, y.length ≤ B) → (cat t l).length ≤ t.length + l.length * (B + 1)
  | [], t, _ => by show t.length ≤ _; omega
  | y :: l, t, h => by
    have := cat_len B l (t ++ Str.ofString " " ++ y) fun z hz => h z (List.mem_cons_of_mem _ hz)
    have h1 := h y List.mem_cons_self
    rw [len_app, len_app, sp1] at this
    rw [List.length_cons, Nat.add_mul]
    show (cat (t ++ Str.ofString " " ++ y) l).length ≤ _
    omega
def due (e : Int × Int) : Str := num e.1 ++ Str.ofString "=" ++ num e.2
mutual
/-- a paper's text -/
def tx : Pp → Str
  | .tie k => Str.ofString "tie " ++ num k
  | .short qs => cat (Str.ofString "short") (qs.map num)
  | .dear pr td => cat (Str.ofString "dear") (pr.map num ++ Str.ofString "/" :: td.map due)
  | .split ds => Str.ofString "split " ++ Str.join (Str.ofString "") (txs ds)
def txs : List Pp → List Str
  | [] => []
  | p :: ps => (Str.ofString "(" ++ tx p ++ Str.ofString ")") :: txs ps
end
def inB (p : Pp) : Str := Str.ofString "(" ++ tx p ++ Str.ofString ")"
theorem txs_map : ∀ ps : List Pp, txs ps = ps.map inB
  | [] => rfl
  | p :: ps => congrArg (inB p :: ·) (txs_map ps)
theorem tx_split (ds : List Pp) : tx (.split ds) = Str.ofString "split " ++ Str.join (Str.ofString "") (ds.map inB) := by
  rw [← txs_map]; rfl
mutual
def sz : Pp → Nat
  | .tie _ => 70
  | .short qs => 10 + 63 * qs.length
  | .dear pr td => 12 + 63 * pr.length + 126 * td.length
  | .split ds => 6 + szs ds
def szs : List Pp → Nat
  | [] => 0
  | p :: ps => 2 + sz p + szs ps
end
theorem sz_split (ds : List Pp) : sz (.split ds) = 6 + szs ds := rfl
inductive Tk : Nat → Pp → Prop
  | tie {m : Nat} {k : Int} : k.natAbs < 10 ^ 61 → Tk m (.tie k)
  | short {m : Nat} {qs : List Int} : qs.length ≤ 100 → (∀ q ∈ qs, q.natAbs < 10 ^ 61) → Tk m (.short qs)
  | dear {m : Nat} {pr : List Int} {td : List (Int × Int)} : pr.length ≤ 100 → td.length ≤ 100 → (∀ q ∈ pr, q.natAbs < 10 ^ 61) → (∀ e ∈ td, e.1.natAbs < 10 ^ 61 ∧ e.2.natAbs < 10 ^ 61) → Tk m (.dear pr td)
  | split {m : Nat} {ds : List Pp} : ds.length ≤ 100 → (∀ k (h : k < ds.length), Tk m ds[k]) → Tk (m + 1) (.split ds)
theorem eq1 : (Str.ofString "=").length = 1 := by decide +kernel
theorem due_len {e : Int × Int} (h : e.1.natAbs < 10 ^ 61 ∧ e.2.natAbs < 10 ^ 61) : (due e).length ≤ 125 := by
  have h1 := num_len h.1
  have h2 := num_len h.2
  unfold due
  rw [len_app, len_app, eq1]
  omega
theorem join0 : ∀ l : List Str, (Str.join (Str.ofString "") l).length = (l.map fun y : Str => y.length).sum
  | [] => rfl
  | [x] => by show x.length = _; simp
  | x :: y :: l => by
    show (x ++ Str.ofString "" ++ Str.join (Str.ofString "") (y :: l)).length = _
    have e : (Str.ofString "").length = 0 := by decide +kernel
    rw [len_app, len_app, join0 (y :: l), e]
    rfl
theorem lpar1 : (Str.ofString "(").length = 1 := by decide +kernel
theorem rpar1 : (Str.ofString ")").length = 1 := by decide +kernel
theorem sl1 : (Str.ofString "/").length = 1 := by decide +kernel
theorem w_split : (Str.ofString "split ").length = 6 := by decide +kernel
theorem w_tie : (Str.ofString "tie ").length = 4 := by decide +kernel
theorem w_short : (Str.ofString "short").length = 5 := by decide +kernel
theorem w_dear : (Str.ofString "dear").length = 4 := by decide +kernel
theorem Tk.short_len {qs : List Int} (h : ∀ q ∈ qs, q.natAbs < 10 ^ 61) : (cat (Str.ofString "short") (qs.map num)).length ≤ 5 + qs.length * 63 := by
  have := cat_len 62 (qs.map num) (Str.ofString "short") fun y hy => by
    obtain ⟨q, hq, rfl⟩ := List.mem_map.mp hy
    exact num_len (h q hq)
  rw [w_short, List.length_map] at this
  exact this
theorem Tk.dear1_len {qs : List Int} (h : ∀ q ∈ qs, q.natAbs < 10 ^ 61) : (cat (Str.ofString "dear") (qs.map num)).length ≤ 4 + qs.length * 63 := by
  have := cat_len 62 (qs.map num) (Str.ofString "dear") fun y hy => by
    obtain ⟨q, hq, rfl⟩ := List.mem_map.mp hy
    exact num_len (h q hq)
  rw [w_dear, List.length_map] at this
  exact this
theorem Tk.dear_len {qs : List Int} {td : List (Int × Int)} (h : ∀ q ∈ qs, q.natAbs < 10 ^ 61) (h2 : ∀ e ∈ td, e.1.natAbs < 10 ^ 61 ∧ e.2.natAbs < 10 ^ 61) : (cat (Str.ofString "dear") (qs.map num ++ Str.ofString "/" :: td.map due)).length ≤ 6 + qs.length * 63 + td.length * 126 := by
  rw [cat_two]
  have h1 := Tk.dear1_len h
  have := cat_len 125 (td.map due) (cat (Str.ofString "dear") (qs.map num) ++ Str.ofString " " ++ Str.ofString "/") fun y hy => by
    obtain ⟨q, hq, rfl⟩ := List.mem_map.mp hy
    exact due_len (h2 q hq)
  rw [len_app, len_app, sp1, sl1, List.length_map] at this
  exact Nat.le_trans this (by omega)
theorem sum_le (ds : List Pp) (h : ∀ p ∈ ds, (tx p).length ≤ sz p) : ((ds.map inB).map fun y : Str => y.length).sum ≤ szs ds := by
  induction ds with
  | nil => exact Nat.le_refl _
  | cons p ds ih =>
    have h1 := h p List.mem_cons_self
    have h2 := ih fun q hq => h q (List.mem_cons_of_mem _ hq)
    show (inB p).length + ((ds.map inB).map fun y : Str => y.length).sum ≤ 2 + sz p + szs ds
    unfold inB at *
    rw [len_app, len_app, lpar1, rpar1]
    omega
theorem Tk.len {m : Nat} {p : Pp} (h : Tk m p) : (tx p).length ≤ sz p := by
  induction h with
  | @tie m k h =>
    have := num_len h
    show (Str.ofString "tie " ++ num k).length ≤ 70
    rw [len_app, w_tie]
    omega
  | short h1 h2 =>
    have := Tk.short_len h2
    show (cat _ _).length ≤ 10 + 63 * _
    omega
  | dear h1 h2 h3 h4 =>
    have := Tk.dear_len h3 h4
    show (cat _ _).length ≤ 12 + 63 * _ + 126 * _
    omega
  | @split m ds h1 _ ih =>
    rw [tx_split, len_app, join0, w_split, sz_split]
    have := sum_le ds fun p hp => by
      obtain ⟨k, hk, rfl⟩ := List.getElem_of_mem hp
      exact ih k hk
    omega
theorem Tk.mono {m : Nat} {p : Pp} (h : Tk m p) : ∀ {n : Nat}, m ≤ n → Tk n p := by
  induction h with
  | tie h => exact fun _ => .tie h
  | short h1 h2 => exact fun _ => .short h1 h2
  | dear h1 h2 h3 h4 => exact fun _ => .dear h1 h2 h3 h4
  | @split m ds h1 _ ih =>
    intro n hn
    obtain ⟨n, rfl⟩ : ∃ n', n = n' + 1 := ⟨n - 1, by omega⟩
    exact .split h1 fun k hk => ih k hk (by omega)
theorem sm {n : Nat} (h : n ≤ 16777216) : small n = true := by
  unfold small
  rw [DL.sizeLine_big]
  exact decide_eq_true h
theorem Tk.nb {m : Nat} {p : Pp} (M : Tk m p) : NB (2 * m + 3) (dP p) := by
  have hstr : ∀ (n : Nat) (w : Str), w = Str.ofString "tie" ∨ w = Str.ofString "short" ∨ w = Str.ofString "dear" ∨ w = Str.ofString "split" → NB n (.str w) := fun n w h => by
    rcases h with rfl | rfl | rfl | rfl <;> exact .str _ (by decide +kernel)
  have two : ∀ {n : Nat} {a b : D}, NB n a → NB n b → ∀ d ∈ [a, b], NB n d := fun ha hb d hd => by
    rcases List.mem_cons.mp hd with rfl | hd
    · exact ha
    · rw [List.mem_singleton.mp hd]; exact hb
  induction M with
  | @tie m k => exact .tup (two (hstr _ _ (.inl rfl)) (.int k))
  | @short m q => exact .tup (two (hstr _ _ (.inr (.inl rfl))) (NB.ints _))
  | @dear m pr td h1 h2 h3 =>
    refine .tup fun d hd => ?_
    rcases List.mem_cons.mp hd with rfl | hd
    · exact hstr _ _ (.inr (.inr (.inl rfl)))
    refine two ?_ ?_ d hd
    · exact NB.ints pr
    · refine .lst fun d hd => ?_
      obtain ⟨e, _, rfl⟩ := List.mem_map.mp hd
      exact .tup (two (.int _) (.int _))
  | @split m ds h1 _ ih =>
    rw [dP_split, show 2 * (m + 1) + 3 = (2 * m + 3) + 1 + 1 by omega]
    refine .tup (two (hstr _ _ (.inr (.inr (.inr rfl)))) (.lst fun d hd => ?_))
    obtain ⟨p, hp, rfl⟩ := List.mem_map.mp hd
    obtain ⟨k, hk, rfl⟩ := List.getElem_of_mem hp
    exact ih k hk
end Tx
namespace Nm
open PySem DL Ti De Gw Bi Lc Be Tx
theorem nd_lenT {α : Type} [DecidableEq α] : ∀ {ks BS : List α}, ks.Nodup → (∀ k ∈ ks, k ∈ BS) → ks.length ≤ BS.length
  | [], _, _, _ => Nat.zero_le _
  | k :: ks, BS, hn, h => by
    have hn := List.nodup_cons.mp hn
    have hk := h k List.mem_cons_self
    have := nd_lenT (ks := ks) (BS := BS.erase k) hn.2 fun x hx => (List.mem_erase_of_ne (fun e : x = k => hn.1 (by rw [← e]; exact hx))).mpr (h x (List.mem_cons_of_mem _ hx))
    rw [List.length_erase_of_mem hk] at this
    have hp : 0 < BS.length := List.length_pos_of_mem hk
    rw [List.length_cons]
    omega
def cd (x : Int) : Nat := 97 + (x % 26).toNat
theorem cd_lo (x : Int) : 97 ≤ cd x ∧ cd x ≤ 122 := by
  unfold cd
  have := Int.emod_lt_of_pos x (show (0 : Int) < 26 by omega)
  omega
theorem cd_inj {x y : Int} (h : cd x = cd y) : x % 26 = y % 26 := by
  unfold cd at h
  have h1 := Int.emod_nonneg x (show (26 : Int) ≠ 0 by omega)
  have h2 := Int.emod_nonneg y (show (26 : Int) ≠ 0 by omega)
  omega
def LT : Str := Str.ofString "abcdefghijklmnopqrstuvwxyz"
theorem LT_tl : TL.tl LT = (List.range 26).map (97 + ·) := by decide +kernel
theorem LT_len : LT.length = 26 := by decide +kernel
theorem lets (x : Int) : dIxA (.str LT) (.int (x % 26)) = .ok (.str (ofL [cd x])) := by
  have h1 := Int.emod_nonneg x (show (26 : Int) ≠ 0 by omega)
  have h2 := Int.emod_lt_of_pos x (show (0 : Int) < 26 by omega)
  obtain ⟨k, hk⟩ : ∃ k : Nat, x % 26 = k := ⟨(x % 26).toNat, by omega⟩
  have hk26 : k < 26 := by omega
  rw [hk]
  show grd (small LT.length) (match L2.atI LT.cps.toList (k : Int) with | some c => R.ok (D.str ⟨#[c]⟩) | none => .bad) = _
  have hat : (TL.tl LT)[k]? = some (97 + k) := by
    rw [LT_tl, List.getElem?_map, List.getElem?_range hk26]; rfl
  rw [sm (by rw [LT_len]; omega), L2.atI_nat hat]
  have e : cd x = 97 + k := by unfold cd; omega
  rw [e]
  rfl
theorem ofL_app (a b : List Nat) : ofL a ++ ofL b = ofL (a ++ b) := TL.ext_tl (by rw [TL.tl_append]; rfl)
theorem len_ofL (l : List Nat) : (ofL l).length = l.length := by rw [TL.len_tl]; rfl
theorem tl_ofL (l : List Nat) : TL.tl (ofL l) = l := rfl
theorem ofL_of (x : Str) : ofL (TL.tl x) = x := TL.ext_tl rfl
def Lo (l : List Nat) : Prop := ∀ c ∈ l, 97 ≤ c ∧ c ≤ 122
theorem Lo.app {a b : List Nat} (h : Lo a) (h2 : Lo b) : Lo (a ++ b) := fun c hc => (List.mem_append.mp hc).elim (h c) (h2 c)
theorem Lo.one (x : Int) : Lo [cd x] := fun c hc => by rw [List.mem_singleton.mp hc]; exact cd_lo x
def rr (c : Int) (r0 : Int) : Nat → Int
  | 0 => r0
  | k + 1 => if c % 4 > 1 then rr c r0 k / 26 else rr c r0 k
def keysD : List Str := [Str.ofString "steps", Str.ofString "before", Str.ofString "most", Str.ofString "least", Str.ofString "apart", Str.ofString "same"]
theorem keys_ok : ∀ k ∈ keysD, Lo (TL.tl k) ∧ (TL.tl k).length ≤ 6 ∧ 1 ≤ (TL.tl k).length := by
  unfold keysD Lo
  decide +kernel
theorem key_at (c : Int) : ∃ k ∈ keysD, dIxA (.lst [.str (Str.ofString "steps"), .str (Str.ofString "before"), .str (Str.ofString "most"), .str (Str.ofString "least"), .str (Str.ofString "apart"), .str (Str.ofString "same")]) (.int (c % 6)) = .ok (.str k) := by
  rcases (by omega : c % 6 = 0 ∨ c % 6 = 1 ∨ c % 6 = 2 ∨ c % 6 = 3 ∨ c % 6 = 4 ∨ c % 6 = 5) with h | h | h | h | h | h <;> rw [h]
  · exact ⟨_, List.mem_cons_self, rfl⟩
  · exact ⟨_, List.mem_cons_of_mem _ List.mem_cons_self, rfl⟩
  · exact ⟨_, List.mem_cons_of_mem _ (List.mem_cons_of_mem _ List.mem_cons_self), rfl⟩
  · exact ⟨_, List.mem_cons_of_mem _ (List.mem_cons_of_mem _ (List.mem_cons_of_mem _ List.mem_cons_self)), rfl⟩
  · exact ⟨_, List.mem_cons_of_mem _ (List.mem_cons_of_mem _ (List.mem_cons_of_mem _ (List.mem_cons_of_mem _ List.mem_cons_self))), rfl⟩
  · exact ⟨_, List.mem_cons_of_mem _ (List.mem_cons_of_mem _ (List.mem_cons_of_mem _ (List.mem_cons_of_mem _ (List.mem_cons_of_mem _ List.mem_cons_self)))), rfl⟩
theorem name_eq (cell : Int) (before : Str) (hb : Lo (TL.tl before)) (hl : before.length ≤ 8) : ∃ (pre post : List Nat) (b : Int), Lo pre ∧ Lo post ∧ pre.length + post.length ≤ 7 ∧ ∀ shift : Nat, ∃ o, Fn.law_name_03ec [.int cell, .int (shift : Int), .str before] = .ok (o, .str (ofL (pre ++ [cd (b + shift)] ++ post))) := by
  by_cases hA : cell % 4 = 1 ∧ 0 < before.length ∧ before.length < 8
  · refine ⟨TL.tl before, [], cell / 4, hb, (fun c hc => nomatch hc), by rw [← TL.len_tl]; show _ + 0 ≤ 7; omega, fun shift => ?_⟩
    unfold Fn.law_name_03ec; rw [DL.ap_body (by rfl)]; unfold Fn.law_name_03ec_g
    walk_at "dl"
    rw [decide_eq_true hA.1]
    walk_at "dl"
    rw [sm (by omega)]
    walk_at "dl"
    rw [decide_eq_true (show (0 : Int) < (before.length : Int) by omega)]
    walk_at "dl"
    rw [decide_eq_true (show (before.length : Int) < 8 by omega)]
    walk_at "dl"
    rw [show Str.ofString "abcdefghijklmnopqrstuvwxyz" = LT from rfl, lets]
    walk_at "dl"
    rw [sm (by rw [len_ofL]; show _ + 1 ≤ _; omega)]
    walk_at "dl"
    rw [← ofL_app, ofL_of]
    exact ⟨_, rfl⟩
  have hcond : ∀ shift : Nat, andK (R.ok (decide (cell % 4 = 1))) (tst (eChain dLt dLt (cst (.int 0)) (nop (aCons (rd 2) aNil) dLen) (cst (.int 8)))) [some (false, D.int cell), some (false, D.int (shift : Int)), some (false, D.str before), some (false, D.str LT), none, none, none, none, none, none] = .ok false := fun shift => by
    by_cases h1 : cell % 4 = 1
    · rw [decide_eq_true h1]
      walk_at "dl"
      rw [sm (by omega)]
      walk_at "dl"
      by_cases h2 : 0 < before.length
      · rw [decide_eq_true (show (0 : Int) < (before.length : Int) by omega)]
        walk_at "dl"
        rw [decide_eq_false (fun h => hA ⟨h1, h2, by omega⟩)]
      · rw [decide_eq_false (show ¬ (0 : Int) < (before.length : Int) by omega)]
        walk_at "dl"
    · rw [decide_eq_false h1]
      walk_at "dl"
  by_cases hB : cell % 16 = 6
  · obtain ⟨k, hk, ek⟩ := key_at (cell / 16)
    obtain ⟨k1, k2, k3⟩ := keys_ok k hk
    refine ⟨TL.tl k, [], cell / 96, k1, (fun c hc => nomatch hc), by show _ + 0 ≤ 7; omega, fun shift => ?_⟩
    unfold Fn.law_name_03ec; rw [DL.ap_body (by rfl)]; unfold Fn.law_name_03ec_g
    rw [show Str.ofString "abcdefghijklmnopqrstuvwxyz" = LT from rfl]
    walk_at "dl"
    rw [hcond]
    walk_at "dl"
    rw [decide_eq_true hB]
    walk_at "dl"
    rw [ek]
    walk_at "dl"
    rw [lets]
    walk_at "dl"
    rw [TL.len_tl, len_ofL, sm (by show _ + 1 ≤ _; omega)]
    walk_at "dl"
    rw [← ofL_app, ofL_of]
    exact ⟨_, rfl⟩
  have q1 : 0 ≤ cell / 4 % 8 ∧ cell / 4 % 8 < 8 := by omega
  obtain ⟨size, hsize⟩ : ∃ n : Nat, 1 + cell / 4 % 8 = n := ⟨(1 + cell / 4 % 8).toNat, by omega⟩
  have hs8 : 1 ≤ size ∧ size ≤ 8 := by omega
  have a1 := Int.emod_nonneg (cell / 32) (show (size : Int) ≠ 0 by omega)
  have a2 := Int.emod_lt_of_pos (cell / 32) (show (0 : Int) < (size : Int) by omega)
  obtain ⟨pl, hpl⟩ : ∃ n : Nat, cell / 32 % (size : Int) = n := ⟨(cell / 32 % (size : Int)).toNat, by omega⟩
  have hpls : pl < size := by omega
  refine ⟨(List.range pl).map fun j => cd (rr cell (cell / 256 % 1000000000000) j), (List.range' (pl + 1) (size - (pl + 1))).map fun j => cd (rr cell (cell / 256 % 1000000000000) j), rr cell (cell / 256 % 1000000000000) pl, (fun c hc => ?_), (fun c hc => ?_), by rw [List.length_map, List.length_map, List.length_range, List.length_range']; omega, fun shift => ?_⟩
  · obtain ⟨j, _, rfl⟩ := List.mem_map.mp hc
    exact cd_lo _
  · obtain ⟨j, _, rfl⟩ := List.mem_map.mp hc
    exact cd_lo _
  · unfold Fn.law_name_03ec; rw [DL.ap_body (by rfl)]; unfold Fn.law_name_03ec_g
    rw [show Str.ofString "abcdefghijklmnopqrstuvwxyz" = LT from rfl]
    walk_at "dl"
    rw [hcond]
    walk_at "dl"
    rw [decide_eq_false hB]
    walk_at "dl"
    rw [hsize, DL.mod_pos (by omega)]
    walk_at "dl"
    rw [hpl]
    rw [DL.inR_small (by omega) (by omega)]
    walk_at "dl"
    rw [Int.toNat_natCast]
    generalize cell / 256 % 1000000000000 = r0
    obtain ⟨ρ', g1, z8, g2⟩ := DL.loop_at (g := gSet 8) (gb := Fn.law_name_03ec_b1) (fun i : Nat => D.int (0 + (i : Int))) (List.range size)
      (fun i ρ => ∃ z8 : DL.Slot, ρ = [some (false, D.int cell), some (false, D.int (shift : Int)), some (false, D.str before), some (false, D.str LT), some (false, .int (size : Int)), some (false, .int (pl : Int)), some (false, .int (rr cell r0 i)), some (false, .str (ofL ((List.range i).map fun j => if j = pl then cd (rr cell r0 j + shift) else cd (rr cell r0 j)))), z8, none])
      [some (false, D.int cell), some (false, D.int (shift : Int)), some (false, D.str before), some (false, D.str LT), some (false, .int (size : Int)), some (false, .int (pl : Int)), some (false, .int r0), some (false, .str (Str.ofString "")), none, none] ⟨none, rfl⟩ (fun i a ρ ha ⟨z8, hρ⟩ => by
        subst hρ
        have hi := DL.at_lt ha
        rw [List.length_range] at hi
        rw [List.getElem?_eq_getElem (by rw [List.length_range]; exact hi), List.getElem_range] at ha
        cases ha
        refine ⟨_, rfl, ?_⟩
        unfold Fn.law_name_03ec_b1
        walk_at "dl"
        have hlen : ∀ x : Nat, (ofL ((List.range i).map fun j => if j = pl then cd (rr cell r0 j + shift) else cd (rr cell r0 j))).length + (ofL [x]).length ≤ 16777216 := fun x => by
          rw [len_ofL, len_ofL, List.length_map, List.length_range, List.length_singleton]
          omega
        have hnext : ∀ T : Str, ∃ ρ', iteK (R.ok (decide (1 < cell % 4))) (sSet 6 (bop (rd 6) (cst (D.int 26)) dDiv)) sSkip [some (false, D.int cell), some (false, D.int (shift : Int)), some (false, D.str before), some (false, D.str LT), some (false, .int (size : Int)), some (false, .int (pl : Int)), some (false, .int (rr cell r0 i)), some (false, .str T), some (false, D.int (0 + (i : Int))), none] = .ok (.next ρ') ∧ ∃ z8 : DL.Slot, ρ' = [some (false, D.int cell), some (false, D.int (shift : Int)), some (false, D.str before), some (false, D.str LT), some (false, .int (size : Int)), some (false, .int (pl : Int)), some (false, .int (rr cell r0 (i + 1))), some (false, .str T), z8, none] := fun T => by
          by_cases h4 : 1 < cell % 4
          · rw [decide_eq_true h4]
            walk_at "dl"
            rw [show rr cell r0 (i + 1) = rr cell r0 i / 26 from if_pos h4]
            exact ⟨_, rfl, _, rfl⟩
          · rw [decide_eq_false h4]
            walk_at "dl"
            rw [show rr cell r0 (i + 1) = rr cell r0 i from if_neg h4]
            exact ⟨_, rfl, _, rfl⟩
        by_cases hip : i = pl
        · rw [decide_eq_true (show 0 + (i : Int) = (pl : Int) by omega)]
          walk_at "dl"
          rw [lets]
          walk_at "dl"
          rw [sm (hlen _)]
          walk_at "dl"
          rw [ofL_app]
          rw [show (List.range (i + 1)).map (fun j => if j = pl then cd (rr cell r0 j + shift) else cd (rr cell r0 j)) = (List.range i).map (fun j => if j = pl then cd (rr cell r0 j + shift) else cd (rr cell r0 j)) ++ [cd (rr cell r0 i + shift)] by rw [List.range_succ, List.map_append, List.map_singleton, if_pos hip]]
          exact hnext _
        · rw [decide_eq_false (show ¬ 0 + (i : Int) = (pl : Int) by omega)]
          walk_at "dl"
          rw [lets]
          walk_at "dl"
          rw [sm (hlen _)]
          walk_at "dl"
          rw [ofL_app]
          rw [show (List.range (i + 1)).map (fun j => if j = pl then cd (rr cell r0 j + shift) else cd (rr cell r0 j)) = (List.range i).map (fun j => if j = pl then cd (rr cell r0 j + shift) else cd (rr cell r0 j)) ++ [cd (rr cell r0 i)] by rw [List.range_succ, List.map_append, List.map_singleton, if_neg hip]]
          exact hnext _)
    have g1' : loopD (gSet 8) Fn.law_name_03ec_b1 ((List.range size).map fun i : Nat => D.int (0 + (i : Int))) [some (false, D.int cell), some (false, D.int (shift : Int)), some (false, D.str before), some (false, D.str LT), some (false, .int (size : Int)), some (false, .int (pl : Int)), some (false, .int r0), some (false, .str (Str.ofString "")), none, none] = .ok (.next ρ') := g1
    rw [g1']
    subst g2
    walk_at "dl"
    have hsplit : (List.range size).map (fun j => if j = pl then cd (rr cell r0 j + shift) else cd (rr cell r0 j)) = (List.range pl).map (fun j => cd (rr cell r0 j)) ++ [cd (rr cell r0 pl + shift)] ++ (List.range' (pl + 1) (size - (pl + 1))).map fun j => cd (rr cell r0 j) := by
      have hr : List.range size = List.range pl ++ [pl] ++ List.range' (pl + 1) (size - (pl + 1)) := by
        rw [← List.range_succ, List.range_eq_range', List.range_eq_range']
        conv => lhs; rw [show size = (pl + 1) + (size - (pl + 1)) by omega]
        rw [show pl + 1 = 0 + 1 * (pl + 1) by omega, ← List.range'_append]
        simp
      rw [hr, List.map_append, List.map_append, List.map_singleton, if_pos rfl]
      congr 1
      · congr 1
        exact List.map_congr_left fun j hj => by rw [if_neg (by have := List.mem_range.mp hj; omega)]
      · refine List.map_congr_left fun j hj => ?_
        have := (List.mem_range'_1.mp hj).1
        rw [if_neg (by omega)]
    rw [hsplit]
    exact ⟨_, rfl⟩
def NmOk (x : Str) : Prop := Lo (TL.tl x) ∧ 1 ≤ x.length ∧ x.length ≤ 8 ∧ x ∉ keysD
structure ActsOk (acts : List Str) : Prop where
  nd : acts.Nodup
  ok : ∀ x ∈ acts, NmOk x
theorem eqF_strs (x : Str) (l : List Str) : ((l.map D.str).any fun y => eqF y (.str x)) = decide (x ∈ l) := by
  rw [List.any_map]
  by_cases h : x ∈ l
  · rw [decide_eq_true h, List.any_eq_true]
    exact ⟨x, h, beq_iff_eq.mpr rfl⟩
  · rw [decide_eq_false h, List.any_eq_false]
    intro y hy e
    have : y = x := beq_iff_eq.mp e
    exact h (this ▸ hy)
theorem in_strs {neg : Bool} (x : Str) (l : List Str) : dIn neg (.str x) (.lst (l.map .str)) = .ok (.bl (xorB neg (decide (x ∈ l)))) := by
  rw [DL.inSeq_flat rfl (by rw [List.all_eq_true]; intro d hd; obtain ⟨y, _, rfl⟩ := List.mem_map.mp hd; rfl), eqF_strs]
theorem acts_eq (cells : List Int) (hc : cells.length ≤ 7) : ∃ acts : List Str, acts.length = cells.length ∧ ActsOk acts ∧ Fn.law_acts_52c7 [.lst (cells.map .int)] = .ok (true, .lst (acts.map .str)) := by
  unfold Fn.law_acts_52c7; rw [DL.ap_body (by rfl)]; unfold Fn.law_acts_52c7_g
  walk_at "dl"
  have hk : D.lst [.str (Str.ofString "steps"), .str (Str.ofString "before"), .str (Str.ofString "most"), .str (Str.ofString "least"), .str (Str.ofString "apart"), .str (Str.ofString "same")] = D.lst (keysD.map D.str) := rfl
  rw [hk]
  obtain ⟨ρ', g1, acts, before, z4, z5, z6, u1, u2, u3, u4, g2⟩ := DL.loop_at (g := gSet 4) (gb := Fn.law_acts_52c7_b3) D.int cells
    (fun i ρ => ∃ (acts : List Str) (before : Str) (z4 z5 z6 : DL.Slot), acts.length = i ∧ ActsOk acts ∧ Lo (TL.tl before) ∧ before.length ≤ 8 ∧ ρ = [some (false, .lst (cells.map D.int)), some (false, D.lst (keysD.map D.str)), some (true, .lst (acts.map .str)), some (false, .str before), z4, z5, z6])
    [some (false, .lst (cells.map D.int)), some (false, D.lst (keysD.map D.str)), some (true, .lst []), some (false, .str (Str.ofString "")), none, none, none] ⟨[], Str.ofString "", none, none, none, rfl, ⟨.nil, (fun x h => nomatch h)⟩, by unfold Lo; decide +kernel, by decide +kernel, rfl⟩ (fun i cell ρ ha ⟨acts, before, z4, z5, z6, u1, u2, u3, u4, hρ⟩ => by
      subst hρ
      have hi := DL.at_lt ha
      refine ⟨_, rfl, ?_⟩
      unfold Fn.law_acts_52c7_b3
      walk_at "dl"
      obtain ⟨pre, post, b, n1, n2, n3, hn⟩ := name_eq cell before u3 u4
      have e0 : ∃ o, Fn.law_name_03ec [.int cell, .int 0, .str before] = .ok (o, .str (ofL (pre ++ [cd (b + (0 : Nat))] ++ post))) := hn 0
      obtain ⟨o0, e0⟩ := e0
      rw [DL.callE_of e0]
      walk_at "dl"
      have hinj : ∀ j k : Nat, j < 26 → k < 26 → ofL (pre ++ [cd (b + j)] ++ post) = ofL (pre ++ [cd (b + k)] ++ post) → j = k := fun j k hj hk e => by
        have e2 : pre ++ [cd (b + j)] ++ post = pre ++ [cd (b + k)] ++ post := by
          have := congrArg TL.tl e
          rw [tl_ofL, tl_ofL] at this
          exact this
        rw [List.append_assoc, List.append_assoc] at e2
        have e3 := List.append_cancel_left e2
        have e4 := cd_inj (List.cons.inj e3).1
        omega
      have key := DL.while_ind (t := Fn.law_acts_52c7_t2) (gb := Fn.law_acts_52c7_b1)
        (W := fun r => ∃ j : Nat, ofL (pre ++ [cd (b + j)] ++ post) ∉ acts ∧ ofL (pre ++ [cd (b + j)] ++ post) ∉ keysD ∧ r = .ok (.next [some (false, .lst (cells.map D.int)), some (false, D.lst (keysD.map D.str)), some (true, .lst (acts.map .str)), some (false, .str before), some (false, .int cell), some (false, .int (j : Int)), some (false, .str (ofL (pre ++ [cd (b + j)] ++ post)))]))
        (fun ρ => ∃ j : Nat, (∀ k, k < j → ofL (pre ++ [cd (b + k)] ++ post) ∈ acts ++ keysD) ∧ ρ = [some (false, .lst (cells.map D.int)), some (false, D.lst (keysD.map D.str)), some (true, .lst (acts.map .str)), some (false, .str before), some (false, .int cell), some (false, .int (j : Int)), some (false, .str (ofL (pre ++ [cd (b + j)] ++ post)))])
        (fun ρ : En => match ρ[5]? with | some (some (_, D.int j)) => 20 - j.toNat | _ => 0) (fun ρ ⟨j, hj, hρ⟩ => by
          subst hρ
          have hj11 : j ≤ 12 := by
            by_cases h : j ≤ 12
            · exact h
            have hnd : ((List.range 13).map fun k => ofL (pre ++ [cd (b + (k : Nat))] ++ post)).Nodup := by
              rw [List.nodup_iff_pairwise_ne, List.pairwise_map]
              refine List.Pairwise.imp_of_mem ?_ (List.nodup_iff_pairwise_ne.mp List.nodup_range)
              intro x y hx hy hne e
              exact hne (hinj x y (by have := List.mem_range.mp hx; omega) (by have := List.mem_range.mp hy; omega) e)
            have := nd_lenT hnd (BS := acts ++ keysD) fun x hx => by
              obtain ⟨k, hk, rfl⟩ := List.mem_map.mp hx
              exact hj k (by have := List.mem_range.mp hk; omega)
            rw [List.length_map, List.length_range, List.length_append, u1] at this
            have hk6 : keysD.length = 6 := rfl
            omega
          unfold Fn.law_acts_52c7_t2 Fn.law_acts_52c7_b1
          walk_at "dl"
          rw [in_strs]
          walk_at "dl"
          by_cases m1 : ofL (pre ++ [cd (b + j)] ++ post) ∈ acts
          · rw [decide_eq_true m1]
            walk_at "dl"
            obtain ⟨o1, e1⟩ := hn (j + 1)
            rw [show ((j : Int) + 1) = ((j + 1 : Nat) : Int) by omega, DL.callE_of e1]
            walk_at "dl"
            refine .inr ⟨trivial, .inl ⟨_, .inl rfl, ⟨j + 1, fun k hk => ?_, rfl⟩, ?_⟩⟩
            · by_cases h : k = j
              · rw [h]; exact List.mem_append_left _ m1
              · exact hj k (by omega)
            · show 20 - ((j + 1 : Nat) : Int).toNat < 20 - ((j : Nat) : Int).toNat
              rw [Int.toNat_natCast, Int.toNat_natCast]; omega
          · rw [decide_eq_false m1]
            walk_at "dl"
            rw [in_strs]
            walk_at "dl"
            by_cases m2 : ofL (pre ++ [cd (b + j)] ++ post) ∈ keysD
            · rw [decide_eq_true m2]
              obtain ⟨o1, e1⟩ := hn (j + 1)
              rw [show ((j : Int) + 1) = ((j + 1 : Nat) : Int) by omega, DL.callE_of e1]
              walk_at "dl"
              refine .inr ⟨trivial, .inl ⟨_, .inl rfl, ⟨j + 1, fun k hk => ?_, rfl⟩, ?_⟩⟩
              · by_cases h : k = j
                · rw [h]; exact List.mem_append_right _ m2
                · exact hj k (by omega)
              · show 20 - ((j + 1 : Nat) : Int).toNat < 20 - ((j : Nat) : Int).toNat
                rw [Int.toNat_natCast, Int.toNat_natCast]; omega
            · rw [decide_eq_false m2]
              exact .inl ⟨rfl, j, m1, m2, rfl⟩) FU [some (false, .lst (cells.map D.int)), some (false, D.lst (keysD.map D.str)), some (true, .lst (acts.map .str)), some (false, .str before), some (false, .int cell), some (false, .int 0), some (false, .str (ofL (pre ++ [cd (b + (0 : Nat))] ++ post)))] ⟨0, (fun k hk => absurd hk (Nat.not_lt_zero _)), rfl⟩ (by rw [DL.FU_eq]; show 20 - (0 : Int).toNat < 1000000; omega)
      obtain ⟨j, m1, m2, e⟩ := key
      rw [e]
      walk_at "dl"
      rw [DL.app_ok (by rw [List.length_map]; omega)]
      have hLo : Lo (TL.tl (ofL (pre ++ [cd (b + j)] ++ post))) := (n1.app (Lo.one _)).app n2
      have hlen : (ofL (pre ++ [cd (b + j)] ++ post)).length = pre.length + post.length + 1 := by
        rw [len_ofL, List.length_append, List.length_append, List.length_singleton]; omega
      refine ⟨_, rfl, acts ++ [ofL (pre ++ [cd (b + j)] ++ post)], ofL (pre ++ [cd (b + j)] ++ post), _, _, _, by rw [List.length_append, List.length_singleton, u1], ⟨?_, fun x hx => ?_⟩, hLo, by omega, by rw [List.map_append]; rfl⟩
      · rw [List.nodup_append]
        exact ⟨u2.nd, List.pairwise_singleton _ _, fun x hx y hy e => m1 (by rw [List.mem_singleton] at hy; rw [← hy, ← e]; exact hx)⟩
      · rcases List.mem_append.mp hx with hx | hx
        · exact u2.ok x hx
        · rw [List.mem_singleton.mp hx]
          exact ⟨hLo, by omega, by omega, m2⟩)
  rw [g1]
  subst g2
  walk_at "dl"
  exact ⟨acts, u1, u2, rfl⟩
end Nm
namespace Ro
open PySem DL Ti De Gw Bi Lc Be Tx Nm En
abbrev S (s : String) : Str := Str.ofString s
inductive Part where
  | pair (i j : Nat) | apart (i j : Nat) | same (i j : Nat) | tie (w : Bool) (many : Nat) (steps row : List Nat)
def W (w : Bool) : Str := if w then Str.ofString "least" else Str.ofString "most"
section
variable (acts : List Str)
def ac (k : Nat) : Str := acts.getD k Str.empty
def wds : Part → List Str
  | .pair i j => [ac acts i, Str.ofString "before", ac acts j]
  | .apart i j => [Str.ofString "apart", ac acts i, ac acts j]
  | .same i j => [Str.ofString "same", ac acts i, ac acts j]
  | .tie w m _ r => W w :: num (m : Int) :: r.map (ac acts)
def ptx (p : Part) : Str := Str.join (Str.ofString " ") (wds acts p)
def srt2 (i j : Nat) : List Nat := if i ≤ j then [i, j] else [j, i]
def pairOf : Part → Option (Nat × Nat)
  | .pair i j => some (i, j)
  | _ => none
def tieOf : Part → Option (Bool × Nat × List Nat)
  | .pair _ _ => none
  | .apart i j => some (true, 2, srt2 i j)
  | .same i j => some (false, 1, srt2 i j)
  | .tie w m s _ => some (w, m, s)
def dN (k : Nat) : D := .int (k : Int)
def dPr (p : Nat × Nat) : D := .tup [dN p.1, dN p.2]
def dTi (t : Bool × Nat × List Nat) : D := .tup [.str (W t.1), dN t.2.1, .tup (t.2.2.map dN)]
def opD {α : Type} (f : α → D) : Option α → D
  | some x => f x
  | none => .non
def dpt (p : Part) : D := .tup [.str (ptx acts p), opD dPr (pairOf p), opD dTi (tieOf p)]
structure TieOk (n : Nat) (t : Bool × Nat × List Nat) : Prop where
  lo : 1 ≤ t.2.1 ∧ t.2.1 ≤ 6
  up : t.2.2.Pairwise (· < ·)
  ne : t.2.2 ≠ []
  mem : ∀ k ∈ t.2.2, k < n
def PairOk (n : Nat) (turn : Nat → Nat) (p : Nat × Nat) : Prop := p.1 < n ∧ p.2 < n ∧ turn p.1 < turn p.2
def k7 (turn : Nat) : Nat → Nat := fun k => k * turn % 7
def POk (n : Nat) (turn : Nat → Nat) : Part → Prop
  | .pair i j => PairOk n turn (i, j)
  | .apart i j => i < n ∧ j < n ∧ i ≠ j
  | .same i j => i < n ∧ j < n ∧ i ≠ j
  | .tie w m s r => TieOk n (w, m, s) ∧ r.Perm s
end
theorem srt2_lt {i j : Nat} (h : i ≠ j) : (srt2 i j).Pairwise (· < ·) ∧ srt2 i j ≠ [] ∧ ∀ k, k ∈ srt2 i j ↔ k = i ∨ k = j := by
  unfold srt2
  split
  · exact ⟨by rw [List.pairwise_pair]; omega, (fun e => by cases e), fun k => by simp⟩
  · exact ⟨by rw [List.pairwise_pair]; omega, (fun e => by cases e), fun k => by simp [or_comm]⟩
theorem POk.tie {n : Nat} {turn : Nat → Nat} {p : Part} (h : POk n turn p) : ∀ t, tieOf p = some t → TieOk n t := fun t e => by
  cases p with
  | pair i j => cases e
  | apart i j =>
    cases e
    obtain ⟨h1, h2, h3⟩ := srt2_lt h.2.2
    exact ⟨by show 1 ≤ 2 ∧ 2 ≤ 6; omega, h1, h2, fun k hk => by
      rcases (h3 k).mp hk with rfl | rfl
      · exact h.1
      · exact h.2.1⟩
  | same i j =>
    cases e
    obtain ⟨h1, h2, h3⟩ := srt2_lt h.2.2
    exact ⟨by show 1 ≤ 1 ∧ 1 ≤ 6; omega, h1, h2, fun k hk => by
      rcases (h3 k).mp hk with rfl | rfl
      · exact h.1
      · exact h.2.1⟩
  | tie w m s r => cases e; exact h.1
theorem POk.pair {n : Nat} {turn : Nat → Nat} {p : Part} (h : POk n turn p) : ∀ q, pairOf p = some q → PairOk n turn q := fun q e => by
  cases p with
  | pair i j => cases e; exact h
  | _ => cases e
theorem srt_two (i j : Nat) : srt [(i : Int), (j : Int)] = (srt2 i j).map fun k : Nat => (k : Int) := by
  unfold srt2
  split
  · refine (DL.srt_of (.refl _) ?_).symm
    rw [List.pairwise_pair]; omega
  · refine (DL.srt_of (.swap _ _ _) ?_).symm
    rw [List.pairwise_pair]; omega
theorem turn_lt {i j turn : Nat} (h1 : i < 6) (h2 : j < 6) (h3 : 1 ≤ turn) (h4 : turn ≤ 6) (hn : i ≠ j) : i * turn % 7 ≠ j * turn % 7 := by
  rcases (by omega : turn = 1 ∨ turn = 2 ∨ turn = 3 ∨ turn = 4 ∨ turn = 5 ∨ turn = 6) with rfl | rfl | rfl | rfl | rfl | rfl <;> omega
theorem act_at {acts : List Str} {k : Nat} (h : k < acts.length) : dIxA (.lst (acts.map .str)) (.int (k : Int)) = .ok (.str (ac acts k)) := by
  refine DL.ixA_lst (by omega) ?_
  rw [Int.toNat_natCast, List.getElem?_map, List.getElem?_eq_getElem h]
  unfold ac
  rw [List.getD_eq_getElem?_getD, List.getElem?_eq_getElem h]; rfl
theorem ac_mem {acts : List Str} {k : Nat} (h : k < acts.length) : ac acts k ∈ acts := by
  unfold ac
  rw [List.getD_eq_getElem?_getD, List.getElem?_eq_getElem h]
  exact List.getElem_mem h
theorem e_before : Str.ofString " before " = Str.ofString " " ++ Str.ofString "before" ++ Str.ofString " " := by decide +kernel
theorem e_apart : Str.ofString "apart " = Str.ofString "apart" ++ Str.ofString " " := by decide +kernel
theorem e_same : Str.ofString "same " = Str.ofString "same" ++ Str.ofString " " := by decide +kernel
theorem tx_pair (acts : List Str) (i j : Nat) : ac acts i ++ Str.ofString " before " ++ ac acts j = ptx acts (.pair i j) := by
  show _ = ac acts i ++ Str.ofString " " ++ (Str.ofString "before" ++ Str.ofString " " ++ ac acts j)
  rw [e_before]
  simp only [s_assoc]
theorem tx_apart (acts : List Str) (i j : Nat) : Str.ofString "apart " ++ ac acts i ++ Str.ofString " " ++ ac acts j = ptx acts (.apart i j) := by
  show _ = Str.ofString "apart" ++ Str.ofString " " ++ (ac acts i ++ Str.ofString " " ++ ac acts j)
  rw [e_apart]
  simp only [s_assoc]
theorem tx_same (acts : List Str) (i j : Nat) : Str.ofString "same " ++ ac acts i ++ Str.ofString " " ++ ac acts j = ptx acts (.same i j) := by
  show _ = Str.ofString "same" ++ Str.ofString " " ++ (ac acts i ++ Str.ofString " " ++ ac acts j)
  rw [e_same]
  simp only [s_assoc]
theorem W_at (c : Int) : ∃ w : Bool, dIxA (.lst [.str (Str.ofString "most"), .str (Str.ofString "least")]) (.int (c % 2)) = .ok (.str (W w)) := by
  rcases (by omega : c % 2 = 0 ∨ c % 2 = 1) with h | h <;> rw [h]
  · exact ⟨false, rfl⟩
  · exact ⟨true, rfl⟩
theorem W_len (w : Bool) : (W w).length ≤ 5 := by cases w <;> decide +kernel
theorem join_len_sp : ∀ (l : List Str) (B : Nat), (∀ y ∈ l, y.length ≤ B) → (l.map fun y : Str => y.length).sum + l.length * (Str.ofString " ").length ≤ l.length * (B + 1)
  | [], _, _ => by show 0 + 0 * _ ≤ _; omega
  | y :: l, B, h => by
    have h1 := h y List.mem_cons_self
    have h2 := join_len_sp l B fun z hz => h z (List.mem_cons_of_mem _ hz)
    rw [sp1] at h2 ⊢
    rw [List.map_cons, List.sum_cons, List.length_cons, Nat.add_mul, Nat.add_mul]
    omega
theorem part_eq {acts : List Str} (A : ActsOk acts) (hn : 1 ≤ acts.length) (hn6 : acts.length ≤ 6) {turn : Nat} (ht : 1 ≤ turn) (ht6 : turn ≤ 6) (c0 c1 c2 : Int) : ∃ o p, Fn.law_part_16b1 [.lst [.int c0, .int c1, .int c2], .lst (acts.map .str), .int (turn : Int)] = .ok (o, dpt acts p) ∧ POk acts.length (k7 turn) p := by
  have hal : ∀ k, k < acts.length → (ac acts k).length ≤ 8 := fun k hk => (A.ok _ (ac_mem hk)).2.2.1
  unfold Fn.law_part_16b1; rw [DL.ap_body (by rfl)]; unfold Fn.law_part_16b1_g
  walk_at "dl"
  rw [DL.mod_pos (by omega)]
  walk_at "dl"
  rw [DL.mod_pos (by omega)]
  walk_at "dl"
  have a1 := Int.emod_nonneg (c0 / 5) (show (acts.length : Int) ≠ 0 by omega)
  have a2 := Int.emod_lt_of_pos (c0 / 5) (show (0 : Int) < (acts.length : Int) by omega)
  have a3 := Int.emod_nonneg c1 (show (acts.length : Int) ≠ 0 by omega)
  have a4 := Int.emod_lt_of_pos c1 (show (0 : Int) < (acts.length : Int) by omega)
  obtain ⟨one, h1⟩ : ∃ n : Nat, c0 / 5 % (acts.length : Int) = n := ⟨(c0 / 5 % (acts.length : Int)).toNat, by omega⟩
  obtain ⟨oth, h2⟩ : ∃ n : Nat, c1 % (acts.length : Int) = n := ⟨(c1 % (acts.length : Int)).toNat, by omega⟩
  rw [h1, h2]
  rw [h1] at a2
  rw [h2] at a4
  have hcond : ∀ (P : Prop) [Decidable P] (z6 : DL.Slot), andK (R.ok (decide P)) (tst (bop (rd 4) (rd 5) (dEq true))) [some (false, D.lst [D.int c0, D.int c1, D.int c2]), some (false, D.lst (acts.map D.str)), some (false, D.int (turn : Int)), some (false, D.int (acts.length : Int)), some (false, D.int (one : Int)), some (false, D.int (oth : Int)), z6, none, none, none, none, none, none] = R.ok (decide (P ∧ one ≠ oth)) := fun P _ z6 => by
    by_cases hP : P
    · rw [decide_eq_true hP]
      walk_at "dl"
      congr 1
      by_cases e : one = oth
      · rw [decide_eq_true (show (one : Int) = (oth : Int) by omega), decide_eq_false (fun h => h.2 e)]; rfl
      · rw [decide_eq_false (show ¬ (one : Int) = (oth : Int) by omega), decide_eq_true ⟨hP, e⟩]; rfl
    · rw [decide_eq_false hP, decide_eq_false (fun h => hP h.1)]
      walk_at "dl"
  have h1l : one < acts.length := by omega
  have h2l : oth < acts.length := by omega
  have L1 := hal one h1l
  have L2 := hal oth h2l
  have lb : (Str.ofString " before ").length = 8 := by decide +kernel
  have la : (Str.ofString "apart ").length = 6 := by decide +kernel
  have ls : (Str.ofString "same ").length = 5 := by decide +kernel
  rw [hcond]
  by_cases hp : c0 % 5 = 0 ∧ one ≠ oth
  · rw [decide_eq_true hp]
    walk_at "dl"
    rw [DL.mul_r (by omega) (by omega), DL.mul_r (by omega) (by omega)]
    walk_at "dl"
    have hne := turn_lt (by omega) (by omega) ht ht6 hp.2
    have x1 : (one : Int) * (turn : Int) % 7 = ((one * turn % 7 : Nat) : Int) := by rw [Int.natCast_emod, Int.natCast_mul]; rfl
    have x2 : (oth : Int) * (turn : Int) % 7 = ((oth * turn % 7 : Nat) : Int) := by rw [Int.natCast_emod, Int.natCast_mul]; rfl
    rw [x1, x2]
    by_cases hgt : oth * turn % 7 < one * turn % 7
    · rw [decide_eq_true (show ((oth * turn % 7 : Nat) : Int) < ((one * turn % 7 : Nat) : Int) by omega)]
      walk_at "dl"
      rw [act_at h1l, act_at h2l]
      walk_at "dl"
      rw [sm (by omega)]
      walk_at "dl"
      rw [sm (by rw [len_app]; omega)]
      walk_at "dl"
      rw [tx_pair]
      exact ⟨_, .pair oth one, rfl, h2l, h1l, hgt⟩
    · rw [decide_eq_false (show ¬ ((oth * turn % 7 : Nat) : Int) < ((one * turn % 7 : Nat) : Int) by omega)]
      walk_at "dl"
      rw [act_at h1l, act_at h2l]
      walk_at "dl"
      rw [sm (by omega)]
      walk_at "dl"
      rw [sm (by rw [len_app]; omega)]
      walk_at "dl"
      rw [tx_pair]
      exact ⟨_, .pair one oth, rfl, h1l, h2l, by show one * turn % 7 < oth * turn % 7; omega⟩
  rw [decide_eq_false hp]
  walk_at "dl"
  have es : D.lst [.int (one : Int), .int (oth : Int)] = .lst ([(one : Int), (oth : Int)].map D.int) := rfl
  rw [es, DL.sort_ints, srt_two]
  walk_at "dl"
  rw [hcond]
  by_cases hp1 : c0 % 5 = 1 ∧ one ≠ oth
  · rw [decide_eq_true hp1]
    walk_at "dl"
    rw [act_at h1l, act_at h2l]
    walk_at "dl"
    rw [sm (by omega)]
    walk_at "dl"
    rw [sm (by rw [len_app, sp1]; omega)]
    walk_at "dl"
    rw [sm (by rw [len_app, len_app, sp1]; omega)]
    walk_at "dl"
    rw [tx_apart]
    rw [List.map_map]
    exact ⟨_, .apart one oth, rfl, h1l, h2l, hp1.2⟩
  rw [decide_eq_false hp1]
  walk_at "dl"
  rw [hcond]
  by_cases hp2 : c0 % 5 = 2 ∧ one ≠ oth
  · rw [decide_eq_true hp2]
    walk_at "dl"
    rw [act_at h1l, act_at h2l]
    walk_at "dl"
    rw [sm (by omega)]
    walk_at "dl"
    rw [sm (by rw [len_app, sp1]; omega)]
    walk_at "dl"
    rw [sm (by rw [len_app, len_app, sp1]; omega)]
    walk_at "dl"
    rw [tx_same]
    rw [List.map_map]
    exact ⟨_, .same one oth, rfl, h1l, h2l, hp2.2⟩
  rw [decide_eq_false hp2]
  walk_at "dl"
  rw [DL.inR_small (by omega) (by omega)]
  walk_at "dl"
  rw [Int.toNat_natCast]
  have hS : ∃ steps : List Nat, steps.Pairwise (· < ·) ∧ steps ≠ [] ∧ (∀ k ∈ steps, k < acts.length) ∧ ∀ z6 : DL.Slot, lcK (.ok ((List.range acts.length).map fun k : Nat => D.int (0 + (k : Int)))) [12] (gSet 12) Fn.law_part_16b1_t2 Fn.law_part_16b1_e1 [some (false, D.lst [D.int c0, D.int c1, D.int c2]), some (false, D.lst (acts.map D.str)), some (false, D.int (turn : Int)), some (false, D.int (acts.length : Int)), some (false, D.int (one : Int)), some (false, D.int (oth : Int)), z6, none, none, none, none, none, none] = .ok (.lst (steps.map dN)) := by
    refine ⟨(List.range acts.length).filter fun k => decide (k = oth) || decide (c1 / 2 ^ (k + 3) % 2 = 1), List.Pairwise.filter _ List.pairwise_lt_range, fun e => ?_, fun k hk => List.mem_range.mp (List.mem_filter.mp hk).1, fun z6 => ?_⟩
    · have : oth ∈ (List.range acts.length).filter fun k => decide (k = oth) || decide (c1 / 2 ^ (k + 3) % 2 = 1) := List.mem_filter.mpr ⟨List.mem_range.mpr h2l, by rw [decide_eq_true rfl]; rfl⟩
      rw [e] at this
      cases this
    · rw [lc_if (i := 12) (t := Fn.law_part_16b1_t2) (f := Fn.law_part_16b1_e1) (fun k : Nat => D.int (0 + (k : Int))) dN (fun k => decide (k = oth) || decide (c1 / 2 ^ (k + 3) % 2 = 1)) (List.range acts.length) (by rw [List.length_range]; omega) (fun k hk => by
        unfold Fn.law_part_16b1_t2
        walk_at "dl"
        by_cases e : k = oth
        · rw [decide_eq_true (show 0 + (k : Int) = (oth : Int) by omega), decide_eq_true e]
          walk_at "dl"
        · rw [decide_eq_false (show ¬ 0 + (k : Int) = (oth : Int) by omega), decide_eq_false e]
          walk_at "dl"
          have hsh : dShr (.int c1) (.int (0 + (k : Int) + 3)) = .ok (.int (c1 / 2 ^ (k + 3))) := by
            show grd (decide (0 ≤ 0 + (k : Int) + 3)) (R.ok (D.int (c1 / 2 ^ (0 + (k : Int) + 3).toNat))) = _
            rw [decide_eq_true (show 0 ≤ 0 + (k : Int) + 3 by omega), show (0 + (k : Int) + 3).toNat = k + 3 by omega]
            rfl
          rw [hsh]
          walk_at "dl") (fun k hk _ => by
        unfold Fn.law_part_16b1_e1 dN
        walk_at "dl"
        rw [Int.zero_add])]
  obtain ⟨steps, s1, s2, s3, s4⟩ := hS
  rw [s4]
  walk_at "dl"
  obtain ⟨w, ew⟩ := W_at (c0 / 30)
  rw [ew]
  walk_at "dl"
  have hspos := List.length_pos_iff.mpr s2
  rw [DL.mod_pos (by omega)]
  walk_at "dl"
  have b1 := Int.emod_nonneg (c2 / 6) (show (steps.length : Int) ≠ 0 by omega)
  have b2 := Int.emod_lt_of_pos (c2 / 6) (show (0 : Int) < (steps.length : Int) by omega)
  generalize c2 / 6 % (steps.length : Int) = at_ at b1 b2 ⊢
  have hsl : steps.length ≤ 6 := by
    have := nd_lenT (ks := steps) (BS := List.range acts.length) (s1.imp fun h => Nat.ne_of_lt h) fun k hk => List.mem_range.mpr (s3 k hk)
    rw [List.length_range] at this
    omega
  rw [DL.cut_from (by omega), DL.cut_to (by omega), ← List.map_drop, ← List.map_take, ← List.map_append, DL.small_of (by rw [List.length_map, List.length_map, List.length_drop, List.length_take]; omega)]
  walk_at "dl"
  have fin : ∀ row : List Nat, row.Perm steps → ∃ o p, endD (noE (seqK (.ok (.next [some (false, D.lst [D.int c0, D.int c1, D.int c2]), some (false, D.lst (acts.map D.str)), some (false, D.int (turn : Int)), some (false, D.int (acts.length : Int)), some (false, D.int (one : Int)), some (false, D.int (oth : Int)), some (false, .lst (steps.map dN)), some (false, .str (W w)), some (false, .int (1 + c2 % 6)), some (false, .int at_), some (false, .lst (row.map dN)), none, none]))
      (sSeq (sSet 11 (jop (cst (.str (Str.ofString " "))) (bop (nop (aCons (rdE 7) (aCons (nop (aCons (rd 8) aNil) dStr) aNil)) mkLst) (lcD [12] (itr (rd 10)) (gSet 12) tYesD Fn.law_part_16b1_e3) dAdd)))
  (sRetO (nop (aCons (rdE 11) (aCons (cst .non) (aCons (nop (aCons (rdE 7) (aCons (rdE 8) (aCons (nop (aCons (rd 6) aNil) dTuple) aNil))) mkTup) aNil))) mkTup))))) = .ok (o, dpt acts p) ∧ POk acts.length (k7 turn) p := fun row hrow => by
    obtain ⟨many, hm⟩ : ∃ n : Nat, 1 + c2 % 6 = n := ⟨(1 + c2 % 6).toNat, by omega⟩
    have hrl : row.length ≤ 6 := by rw [hrow.length_eq]; exact hsl
    have hrm : ∀ k ∈ row, k < acts.length := fun k hk => s3 k (hrow.mem_iff.mp hk)
    rw [hm]
    walk_at "dl"
    rw [str_num (by omega)]
    walk_at "dl"
    rw [lc_map (i := 12) (f := Fn.law_part_16b1_e3) dN (fun k => D.str (ac acts k)) row (by omega) (fun k hk => by
      unfold Fn.law_part_16b1_e3 dN
      walk_at "dl"
      rw [act_at (hrm k hk)])]
    walk_at "dl"
    rw [DL.small_of (by omega)]
    walk_at "dl"
    have hj : D.str (W w) :: D.str (num (many : Int)) :: row.map (fun k => D.str (ac acts k)) = (W w :: num (many : Int) :: row.map (ac acts)).map D.str := by
      rw [List.map_cons, List.map_cons, List.map_map]; rfl
    have hnl := num_len (i := (many : Int)) (by omega)
    rw [hj, DL.join_strs (by
      have := join_len_sp (W w :: num (many : Int) :: row.map (ac acts)) 62 (fun y hy => by
        rcases List.mem_cons.mp hy with rfl | hy
        · have := W_len w; omega
        · rcases List.mem_cons.mp hy with rfl | hy
          · exact hnl
          · obtain ⟨k, hk, rfl⟩ := List.mem_map.mp hy
            have := hal k (hrm k hk)
            omega)
      rw [List.length_cons, List.length_cons, List.length_map] at this ⊢
      omega)]
    walk_at "dl"
    exact ⟨_, .tie w many steps row, rfl, ⟨by show 1 ≤ many ∧ many ≤ 6; omega, s1, s2, s3⟩, hrow⟩
  have hperm : (steps.drop at_.toNat ++ steps.take at_.toNat).Perm steps := by
    have := List.perm_append_comm (l₁ := steps.drop at_.toNat) (l₂ := steps.take at_.toNat)
    rw [List.take_append_drop] at this
    exact this
  by_cases hr : c2 / 36 % 2 = 1
  · rw [decide_eq_true hr, DL.ite_t]
    have e10 : ∀ row : List Nat, sSet 10 (uop (rd 10) dRevS) [some (false, D.lst [D.int c0, D.int c1, D.int c2]), some (false, D.lst (acts.map D.str)), some (false, D.int (turn : Int)), some (false, D.int (acts.length : Int)), some (false, D.int (one : Int)), some (false, D.int (oth : Int)), some (false, .lst (steps.map dN)), some (false, .str (W w)), some (false, .int (1 + c2 % 6)), some (false, .int at_), some (false, .lst (row.map dN)), none, none] = .ok (.next [some (false, D.lst [D.int c0, D.int c1, D.int c2]), some (false, D.lst (acts.map D.str)), some (false, D.int (turn : Int)), some (false, D.int (acts.length : Int)), some (false, D.int (one : Int)), some (false, D.int (oth : Int)), some (false, .lst (steps.map dN)), some (false, .str (W w)), some (false, .int (1 + c2 % 6)), some (false, .int at_), some (false, .lst (row.reverse.map dN)), none, none]) := fun row => by
      walk_at "dl"
      rw [List.map_reverse]
    rw [e10]
    exact fin _ ((List.reverse_perm _).trans hperm)
  · rw [decide_eq_false hr, DL.ite_f, DL.ap_skip]
    exact fin _ hperm
def tiesOf (ps : List Part) : List (Bool × Nat × List Nat) := ps.filterMap tieOf
def pairsOf (ps : List Part) : List (Nat × Nat) := ps.filterMap pairOf
structure PartsOk (n : Nat) (turn : Nat → Nat) (ps : List Part) : Prop where
  ok : ∀ p ∈ ps, POk n turn p
  ties : (tiesOf ps).length ≤ 12
  nd : (pairsOf ps).Nodup
  len : ps.length ≤ 30
theorem isN_opt {α : Type} (f : α → D) (hf : ∀ a, isN (f a) = false) (o : Option α) : isN (opD f o) = !o.isSome := by
  cases o with
  | none => rfl
  | some a => exact hf a
theorem filt_pairs : ∀ ps : List Part, (ps.filter fun p => (pairOf p).isSome).map (fun p => opD dPr (pairOf p)) = (pairsOf ps).map dPr
  | [] => rfl
  | p :: ps => by
    unfold pairsOf
    rw [List.filterMap_cons]
    cases h : pairOf p with
    | none => rw [List.filter_cons_of_neg (by rw [h]; exact Bool.false_ne_true)]; exact filt_pairs ps
    | some q => rw [List.filter_cons_of_pos (by rw [h]; rfl), List.map_cons, List.map_cons, h]; exact congrArg _ (filt_pairs ps)
theorem filt_ties : ∀ ps : List Part, (ps.filter fun p => (tieOf p).isSome).map (fun p => opD dTi (tieOf p)) = (tiesOf ps).map dTi
  | [] => rfl
  | p :: ps => by
    unfold tiesOf
    rw [List.filterMap_cons]
    cases h : tieOf p with
    | none => rw [List.filter_cons_of_neg (by rw [h]; exact Bool.false_ne_true)]; exact filt_ties ps
    | some q => rw [List.filter_cons_of_pos (by rw [h]; rfl), List.map_cons, List.map_cons, h]; exact congrArg _ (filt_ties ps)
theorem dN_inj {a b : Nat} (h : dN a = dN b) : a = b := by
  unfold dN at h
  have := D.int.inj h
  omega
theorem dPr_inj {a b : Nat × Nat} (h : dPr a = dPr b) : a = b := by
  unfold dPr at h
  have h1 := D.tup.inj h
  have h2 := (List.cons.inj h1).1
  have h3 := (List.cons.inj (List.cons.inj h1).2).1
  exact Prod.ext (dN_inj h2) (dN_inj h3)
theorem nb_dPr (p : Nat × Nat) {n : Nat} : NB (n + 1) (dPr p) := .tup fun d hd => by
  rcases List.mem_cons.mp hd with rfl | hd
  · exact .int _
  · rw [List.mem_singleton.mp hd]; exact .int _
theorem any_eqv {n m : Nat} {x : D} {p : PyData} (hx : NB n x) (h1 : py x = some p) : ∀ {ds : List D} {ps : List PyData}, (∀ d ∈ ds, NB m d) → pys ds = some ps → ((ps.any fun z => PyData.eqv z p) = true ↔ x ∈ ds)
  | [], ps, _, g => by
    cases g
    exact ⟨fun h => (by cases h), fun h => nomatch h⟩
  | d :: ds, ps, hd, g => by
    unfold pys at g
    obtain ⟨q, k1, k2, k3⟩ := (hd d List.mem_cons_self).py
    rw [k1] at g
    cases hq : pys ds with
    | none => rw [hq] at g; cases g
    | some qs =>
      rw [hq] at g
      cases g
      have ih := any_eqv hx h1 (fun d h => hd d (List.mem_cons_of_mem _ h)) hq
      rw [List.any_cons, Bool.or_eq_true, List.mem_cons, ih, (hd d List.mem_cons_self).eqv hx k1 h1]
      exact ⟨fun h => h.imp Eq.symm id, fun h => h.imp Eq.symm id⟩
theorem in_deepR {neg : Bool} {n : Nat} (hn : n ≤ 60) {α : Type} (F : α → D) (hinj : ∀ a b, F a = F b → a = b) (hnb : ∀ a, NB n (F a)) (hfl : ∀ a, isFlat (F a) = false) (x : α) (l : List α) {P : Prop} [Decidable P] (hP : x ∈ l ↔ P) : dIn neg (F x) (.lst (l.map F)) = .ok (.bl (xorB neg (decide P))) := by
  obtain ⟨p, h1, h2, h3⟩ := (hnb x).py
  have hds : ∀ d ∈ l.map F, NB n d := fun d hd => by
    obtain ⟨a, _, rfl⟩ := List.mem_map.mp hd
    exact hnb a
  obtain ⟨ps, g1, g2, g3⟩ := py_all fun d h => (hds d h).py
  show inSeq neg (F x) (l.map F) = _
  unfold inSeq
  rw [hfl, Bool.false_and, if_neg Bool.false_ne_true, show DL.py (F x) = some p from h1, g1]
  have s1 : SeqAt.shaped p = true := by unfold SeqAt.shaped; rw [h2, decide_eq_true (by omega)]; rfl
  have s2 : SeqAt.shaped (.list ps) = true := by
    unfold SeqAt.shaped
    rw [show PyData.canLay0 (.list ps) = true by simp [PyData.canLay0, g2], decide_eq_true (by simp [PyData.depth]; omega)]; rfl
  show grd (SeqAt.shaped p && SeqAt.shaped (.list ps)) (R.ok (D.bl (xorB neg (ps.any fun z => PyData.eqv z p)))) = _
  rw [s1, s2]
  show R.ok (D.bl (xorB neg (ps.any fun z => PyData.eqv z p))) = _
  congr 3
  rw [Bool.eq_iff_iff, decide_eq_true_eq, ← hP]
  refine (any_eqv (hnb x) h1 hds g1).trans ⟨fun h => ?_, fun h => List.mem_map.mpr ⟨x, h, rfl⟩⟩
  obtain ⟨a, ha, e⟩ := List.mem_map.mp h
  rw [← hinj _ _ e]; exact ha
theorem in_pairs {neg : Bool} (q : Nat × Nat) (qs : List (Nat × Nat)) : dIn neg (dPr q) (.lst (qs.map dPr)) = .ok (.bl (xorB neg (decide (q ∈ qs)))) :=
  in_deepR (n := 1) (by omega) dPr (fun _ _ => dPr_inj) (fun a => nb_dPr a) (fun _ => rfl) q qs Iff.rfl
theorem parts_eq {acts : List Str} (A : ActsOk acts) (hn : 1 ≤ acts.length) (hn6 : acts.length ≤ 6) {turn : Nat} (ht : 1 ≤ turn) (ht6 : turn ≤ 6) (cells : List Int) (many : Nat) (hm : many ≤ 30) (hc : cells.length = 3 * many) : ∃ o ps, Fn.law_parts_881e [.lst (cells.map .int), .lst (acts.map .str), .int (turn : Int)] = .ok (o, .lst (ps.map (dpt acts))) ∧ PartsOk acts.length (k7 turn) ps := by
  unfold Fn.law_parts_881e; rw [DL.ap_body (by rfl)]; unfold Fn.law_parts_881e_g
  walk_at "dl"
  rw [DL.rng3_ok (by omega) (by omega) (by omega) (by omega) (by omega) (by omega)]
  walk_at "dl"
  rw [show (((cells.length : Int) - 2 - 0 + 3 - 1) / 3).toNat = many by omega]
  obtain ⟨ρ', g1, ps, z4, z5, z6, z7, u1, u2, g2⟩ := DL.loop_at (g := gSet 4) (gb := Fn.law_parts_881e_b5) (fun k : Nat => D.int (0 + (k : Int) * 3)) (List.range many)
    (fun i ρ => ∃ (ps : List Part) (z4 z5 z6 z7 : DL.Slot), PartsOk acts.length (k7 turn) ps ∧ ps.length ≤ i ∧ ρ = [some (false, D.lst (cells.map D.int)), some (false, D.lst (acts.map D.str)), some (false, D.int (turn : Int)), some (true, D.lst (ps.map (dpt acts))), z4, z5, z6, z7, none])
    [some (false, D.lst (cells.map D.int)), some (false, D.lst (acts.map D.str)), some (false, D.int (turn : Int)), some (true, D.lst []), none, none, none, none, none] ⟨[], none, none, none, none, ⟨(fun p h => nomatch h), Nat.zero_le _, .nil, Nat.zero_le _⟩, Nat.zero_le _, rfl⟩ (fun i a ρ ha ⟨ps, z4, z5, z6, z7, P, hlen, hρ⟩ => by
      subst hρ
      have hi := DL.at_lt ha
      rw [List.length_range] at hi
      rw [List.getElem?_eq_getElem (by rw [List.length_range]; exact hi), List.getElem_range] at ha
      cases ha
      refine ⟨_, rfl, ?_⟩
      unfold Fn.law_parts_881e_b5
      walk_at "dl"
      rw [DL.cut_mid (by omega) (by omega), ← List.map_drop, ← List.map_take]
      obtain ⟨c0, c1, c2, hc3⟩ : ∃ c0 c1 c2 : Int, (cells.drop (0 + (i : Int) * 3).toNat).take ((0 + (i : Int) * 3 + 3).toNat - (0 + (i : Int) * 3).toNat) = [c0, c1, c2] := by
        have hl : ((cells.drop (0 + (i : Int) * 3).toNat).take ((0 + (i : Int) * 3 + 3).toNat - (0 + (i : Int) * 3).toNat)).length = 3 := by
          rw [List.length_take, List.length_drop]; omega
        match h : (cells.drop (0 + (i : Int) * 3).toNat).take ((0 + (i : Int) * 3 + 3).toNat - (0 + (i : Int) * 3).toNat), hl with
        | [a, b, c], _ => exact ⟨a, b, c, rfl⟩
      rw [hc3]
      obtain ⟨o, p, e, hp⟩ := part_eq A hn hn6 ht ht6 c0 c1 c2
      rw [show [c0, c1, c2].map D.int = [.int c0, .int c1, .int c2] from rfl, DL.callE_of e]
      walk_at "dl"
      have t2 : ∀ (q : Part) (ρ : En), ρ[8]? = some (some (false, dpt acts q)) → Fn.law_parts_881e_t2 ρ = .ok (tieOf q).isSome := fun q ρ hρ => by
        unfold Fn.law_parts_881e_t2 dpt at *
        walk_at "dl"
        rw [hρ]
        walk_at "dl"
        rw [isN_opt dTi (fun _ => rfl)]
        cases (tieOf q).isSome <;> rfl
      have e1 : ∀ (q : Part) (ρ : En), ρ[8]? = some (some (false, dpt acts q)) → Fn.law_parts_881e_e1 ρ = .ok (dpt acts q) := fun q ρ hρ => by
        unfold Fn.law_parts_881e_e1
        walk_at "dl"
        rw [hρ]
        rfl
      have t4 : ∀ (q : Part) (ρ : En), ρ[8]? = some (some (false, dpt acts q)) → Fn.law_parts_881e_t4 ρ = .ok (pairOf q).isSome := fun q ρ hρ => by
        unfold Fn.law_parts_881e_t4 dpt at *
        walk_at "dl"
        rw [hρ]
        walk_at "dl"
        rw [isN_opt dPr (fun _ => rfl)]
        cases (pairOf q).isSome <;> rfl
      have e3 : ∀ (q : Part) (ρ : En), ρ[8]? = some (some (false, dpt acts q)) → Fn.law_parts_881e_e3 ρ = .ok (opD dPr (pairOf q)) := fun q ρ hρ => by
        unfold Fn.law_parts_881e_e3 dpt at *
        walk_at "dl"
        rw [hρ]
        rfl
      have hpl := P.len
      rw [lc_if (i := 8) (t := Fn.law_parts_881e_t2) (f := Fn.law_parts_881e_e1) (dpt acts) (dpt acts) (fun q => (tieOf q).isSome) ps (by omega) (fun q _ => t2 q _ rfl) (fun q _ _ => e1 q _ rfl)]
      walk_at "dl"
      rw [lc_if (i := 8) (t := Fn.law_parts_881e_t4) (f := Fn.law_parts_881e_e3) (dpt acts) (fun q => opD dPr (pairOf q)) (fun q => (pairOf q).isSome) ps (by omega) (fun q _ => t4 q _ rfl) (fun q _ _ => e3 q _ rfl)]
      rw [filt_pairs]
      have hbl : (ps.filter fun q => (tieOf q).isSome).length = (tiesOf ps).length := by
        have := congrArg List.length (filt_ties ps)
        rw [List.length_map, List.length_map] at this
        exact this
      have more : PartsOk acts.length (k7 turn) (ps ++ [p]) → ∃ ρ', (R.ok (.next [some (false, D.lst (cells.map D.int)), some (false, D.lst (acts.map D.str)), some (false, D.int (turn : Int)), some (true, D.lst (ps.map (dpt acts) ++ [dpt acts p])), some (false, D.int (0 + (i : Int) * 3)), some (false, dpt acts p), some (false, D.lst ((ps.filter fun q => (tieOf q).isSome).map (dpt acts))), some (false, D.lst ((pairsOf ps).map dPr)), none]) : R Fl) = .ok (.next ρ') ∧
          ∃ (ps : List Part) (z4 z5 z6 z7 : DL.Slot), PartsOk acts.length (k7 turn) ps ∧ ps.length ≤ i + 1 ∧ ρ' = [some (false, D.lst (cells.map D.int)), some (false, D.lst (acts.map D.str)), some (false, D.int (turn : Int)), some (true, D.lst (ps.map (dpt acts))), z4, z5, z6, z7, none] := fun P' =>
        ⟨_, rfl, ps ++ [p], _, _, _, _, P', by rw [List.length_append, List.length_singleton]; omega, by rw [List.map_append]; rfl⟩
      have stay : ∃ ρ', (R.ok (.next [some (false, D.lst (cells.map D.int)), some (false, D.lst (acts.map D.str)), some (false, D.int (turn : Int)), some (true, D.lst (ps.map (dpt acts))), some (false, D.int (0 + (i : Int) * 3)), some (false, dpt acts p), some (false, D.lst ((ps.filter fun q => (tieOf q).isSome).map (dpt acts))), some (false, D.lst ((pairsOf ps).map dPr)), none]) : R Fl) = .ok (.next ρ') ∧
          ∃ (ps : List Part) (z4 z5 z6 z7 : DL.Slot), PartsOk acts.length (k7 turn) ps ∧ ps.length ≤ i + 1 ∧ ρ' = [some (false, D.lst (cells.map D.int)), some (false, D.lst (acts.map D.str)), some (false, D.int (turn : Int)), some (true, D.lst (ps.map (dpt acts))), z4, z5, z6, z7, none] :=
        ⟨_, rfl, ps, _, _, _, _, P, by omega, rfl⟩
      have all : ∀ q ∈ ps ++ [p], POk acts.length (k7 turn) q := fun q hq => by
        rcases List.mem_append.mp hq with hq | hq
        · exact P.ok q hq
        · rw [List.mem_singleton.mp hq]; exact hp
      have hta : tiesOf (ps ++ [p]) = tiesOf ps ++ (tieOf p).toList := by
        unfold tiesOf
        rw [List.filterMap_append]
        cases h : tieOf p <;> simp [List.filterMap_cons, h]
      have hpa : pairsOf (ps ++ [p]) = pairsOf ps ++ (pairOf p).toList := by
        unfold pairsOf
        rw [List.filterMap_append]
        cases h : pairOf p <;> simp [List.filterMap_cons, h]
      have hsplit : (tieOf p = none ∧ ∃ q, pairOf p = some q) ∨ ((∃ t, tieOf p = some t) ∧ pairOf p = none) := by
        cases p with
        | pair i j => exact .inl ⟨rfl, _, rfl⟩
        | apart i j => exact .inr ⟨⟨_, rfl⟩, rfl⟩
        | same i j => exact .inr ⟨⟨_, rfl⟩, rfl⟩
        | tie w m s r => exact .inr ⟨⟨_, rfl⟩, rfl⟩
      have hd : dpt acts p = .tup [.str (ptx acts p), opD dPr (pairOf p), opD dTi (tieOf p)] := rfl
      rcases hsplit with ⟨h1, q, h2⟩ | ⟨⟨t, h1⟩, h2⟩
      · rw [h1, h2] at hd
        rw [hd] at more stay ⊢
        walk_at "dl"
        rw [show opD dTi none = D.non from rfl]
        walk_at "dl"
        rw [show opD dPr (some q) = dPr q from rfl]
        rw [show isN (dPr q) = false from rfl]
        walk_at "dl"
        rw [in_pairs]
        walk_at "dl"
        by_cases hq : q ∈ pairsOf ps
        · rw [decide_eq_true hq]
          walk_at "dl"
          exact stay
        · rw [decide_eq_false hq]
          walk_at "dl"
          rw [DL.app_ok (by rw [List.length_map]; omega)]
          refine more ⟨all, by rw [hta, h1]; simp; exact P.ties, ?_, by rw [List.length_append, List.length_singleton]; omega⟩
          rw [hpa, h2]
          show (pairsOf ps ++ [q]).Nodup
          rw [List.nodup_append]
          exact ⟨P.nd, List.pairwise_singleton _ _, fun x hx y hy e => hq (by rw [List.mem_singleton] at hy; rw [← hy, ← e]; exact hx)⟩
      · rw [h1, h2] at hd
        rw [hd] at more stay ⊢
        walk_at "dl"
        rw [show opD dTi (some t) = dTi t from rfl]
        rw [show isN (dTi t) = false from rfl]
        walk_at "dl"
        rw [hbl]
        by_cases hl : (tiesOf ps).length < 12
        · rw [decide_eq_true (show ((tiesOf ps).length : Int) < 12 by omega)]
          walk_at "dl"
          rw [DL.app_ok (by rw [List.length_map]; omega)]
          refine more ⟨all, by rw [hta, h1]; simp; omega, ?_, by rw [List.length_append, List.length_singleton]; omega⟩
          rw [hpa, h2]
          simp
          exact P.nd
        · rw [decide_eq_false (show ¬ ((tiesOf ps).length : Int) < 12 by omega)]
          walk_at "dl"
          rw [show opD dPr none = D.non from rfl]
          walk_at "dl"
          exact stay)
  rw [g1]
  subst g2
  walk_at "dl"
  exact ⟨_, ps, rfl, u1⟩
theorem six_at (c : Int) : ∃ r : Nat, 1 ≤ r ∧ r ≤ 6 ∧ dIxA (.lst [.int 3, .int 2, .int 4, .int 6, .int 5, .int 1]) (.int (c % 6)) = .ok (.int (r : Int)) := by
  rcases (by omega : c % 6 = 0 ∨ c % 6 = 1 ∨ c % 6 = 2 ∨ c % 6 = 3 ∨ c % 6 = 4 ∨ c % 6 = 5) with h | h | h | h | h | h <;> rw [h]
  · exact ⟨3, by omega, by omega, rfl⟩
  · exact ⟨2, by omega, by omega, rfl⟩
  · exact ⟨4, by omega, by omega, rfl⟩
  · exact ⟨6, by omega, by omega, rfl⟩
  · exact ⟨5, by omega, by omega, rfl⟩
  · exact ⟨1, by omega, by omega, rfl⟩
theorem eight_at (c : Int) : ∃ r : Nat, r ≤ 27 ∧ dIxA (.lst [.int 3, .int 5, .int 1, .int 0, .int 2, .int 8, .int 12, .int 27]) (.int (c % 8)) = .ok (.int (r : Int)) := by
  rcases (by omega : c % 8 = 0 ∨ c % 8 = 1 ∨ c % 8 = 2 ∨ c % 8 = 3 ∨ c % 8 = 4 ∨ c % 8 = 5 ∨ c % 8 = 6 ∨ c % 8 = 7) with h | h | h | h | h | h | h | h <;> rw [h]
  · exact ⟨3, by omega, rfl⟩
  · exact ⟨5, by omega, rfl⟩
  · exact ⟨1, by omega, rfl⟩
  · exact ⟨0, by omega, rfl⟩
  · exact ⟨2, by omega, rfl⟩
  · exact ⟨8, by omega, rfl⟩
  · exact ⟨12, by omega, rfl⟩
  · exact ⟨27, by omega, rfl⟩
structure RoundOk (acts : List Str) (turn : Nat) (ps : List Part) : Prop where
  A : ActsOk acts
  lo : 1 ≤ acts.length
  hi : acts.length ≤ 6
  t1 : 1 ≤ turn
  t6 : turn ≤ 6
  P : PartsOk acts.length (k7 turn) ps
end Ro
namespace Rs
open PySem DL Ti De Gw Bi Lc Be Tx Nm En Ro
section
variable (acts : List Str)
def head : Str := Str.join (Str.ofString " ") (Str.ofString "steps" :: acts)
def prTx (p : Nat × Nat) : Str := ptx acts (.pair p.1 p.2)
def tiTx (t : Bool × Nat × List Nat) : Str := ptx acts (.tie t.1 t.2.1 t.2.2 t.2.2)
def rows (prs : List (Nat × Nat)) (ts : List (Bool × Nat × List Nat)) : List Str := head acts :: (prs.map (prTx acts) ++ ts.map (tiTx acts))
end
theorem len_join (z : Str) : ∀ l : List Str, (Str.join z l).length ≤ (l.map fun y : Str => y.length).sum + l.length * z.length
  | [] => Nat.zero_le _
  | [x] => by show x.length ≤ _; simp
  | x :: y :: l => by
    show (x ++ z ++ Str.join z (y :: l)).length ≤ _
    have := len_join z (y :: l)
    rw [len_app, len_app, List.map_cons, List.sum_cons, List.length_cons, Nat.add_mul]
    omega
theorem len_sp {l : List Str} {B : Nat} (h : ∀ y ∈ l, y.length ≤ B) : (Str.join (Str.ofString " ") l).length ≤ l.length * (B + 1) :=
  Nat.le_trans (len_join _ _) (join_len_sp l B h)
variable {acts : List Str} (A : ActsOk acts) (hn6 : acts.length ≤ 6)
include A in
theorem al {k : Nat} (hk : k < acts.length) : (ac acts k).length ≤ 8 := (A.ok _ (ac_mem hk)).2.2.1
theorem st5 : (Str.ofString "steps").length = 5 := by decide +kernel
include A hn6 in
theorem head_len : (head acts).length ≤ 63 := by
  have := len_sp (l := Str.ofString "steps" :: acts) (B := 8) fun y hy => by
    rcases List.mem_cons.mp hy with rfl | hy
    · rw [st5]; omega
    · exact (A.ok y hy).2.2.1
  rw [List.length_cons] at this
  exact Nat.le_trans this (by omega)
include A hn6 in
theorem head_join : dJoin (Str.ofString " ") (.lst (D.str (Str.ofString "steps") :: acts.map D.str)) = .ok (.str (head acts)) := by
  rw [show D.str (Str.ofString "steps") :: acts.map D.str = (Str.ofString "steps" :: acts).map D.str from rfl, DL.join_strs]
  · rfl
  · have := join_len_sp (Str.ofString "steps" :: acts) 8 fun y hy => by
      rcases List.mem_cons.mp hy with rfl | hy
      · rw [st5]; omega
      · exact (A.ok y hy).2.2.1
    rw [List.length_cons] at this ⊢
    omega
end Rs
namespace Isn
open PySem DL Ti Ce
def sgn (c : Nat) : D := .str ⟨#[c]⟩
def lets : Str := Str.ofString "abcdefghijklmnopqrstuvwxyz"
theorem lets_list : lets.cps.toList = (List.range 26).map (· + 97) := by decide +kernel
theorem mem_lets (c : Nat) : c ∈ lets.cps.toList ↔ 97 ≤ c ∧ c ≤ 122 := by
  rw [lets_list, List.mem_map]
  constructor
  · rintro ⟨k, hk, rfl⟩
    have := List.mem_range.mp hk
    omega
  · rintro ⟨h1, h2⟩
    exact ⟨c - 97, List.mem_range.mpr (by omega), by omega⟩
theorem sign_in (c : Nat) : dIn true (sgn c) (.str lets) = .ok (.bl (!decide (97 ≤ c ∧ c ≤ 122))) := by
  show R.ok (D.bl (xorB true (decide (c ∈ lets.cps.toList)))) = _
  rw [decide_eq_decide.mpr (mem_lets c)]
  rfl
def letB (c : Nat) : Bool := decide (97 ≤ c ∧ c ≤ 122)
def nameB (z : Str) : Bool := decide (1 ≤ z.cps.size ∧ z.cps.size ≤ 8) && z.cps.toList.all letB
theorem is_name_eq (z : Str) (hl : z.length ≤ 100000) : ∃ o, Fn.is_name_33f3 [.str z] = .ok (o, .bl (nameB z)) := by
  unfold Fn.is_name_33f3; rw [DL.ap_body (by rfl)]; unfold Fn.is_name_33f3_g
  walk_at "dl"
  rw [DL.small_of (by omega)]
  walk_at "dl"
  have hz : z.length = z.cps.size := rfl
  have key : (1 ≤ z.cps.size ∧ z.cps.size ≤ 8) → ∃ o, endD (noE (seqK (loopD (gSet 1) Fn.is_name_33f3_b1 (z.cps.toList.map sgn) [some (false, .str z), none]) (sRetO (cst (D.bl true))))) = .ok (o, .bl (z.cps.toList.all letB)) := by
    intro _
    have := DL.loop_find (g := gSet 1) (gb := Fn.is_name_33f3_b1) (o := true) (x := .bl false) (fun ρ => ∃ x : DL.Slot, ρ = [some (false, .str z), x]) sgn letB z.cps.toList [some (false, .str z), none] ⟨none, rfl⟩ (fun c _ ρ ⟨x, hρ⟩ => by
      subst hρ
      refine ⟨_, rfl, ?_⟩
      have hs := sign_in c
      unfold lets at hs
      constructor
      · intro h
        refine ⟨[some (false, .str z), some (false, sgn c)], ?_, _, rfl⟩
        unfold Fn.is_name_33f3_b1
        walk_at "dl"
        rw [hs, show decide (97 ≤ c ∧ c ≤ 122) = true from h]
        walk_at "dl"
      · intro h
        unfold Fn.is_name_33f3_b1
        walk_at "dl"
        rw [hs, show decide (97 ≤ c ∧ c ≤ 122) = false from h]
        walk_at "dl")
    rcases this with ⟨e1, ρ', e2, x, rfl⟩ | ⟨e1, e2⟩
    · rw [e2, e1]
      walk_at "dl"
      exact ⟨_, rfl⟩
    · rw [e2, e1]
      walk_at "dl"
      exact ⟨_, rfl⟩
  unfold nameB
  by_cases h1 : 1 ≤ z.cps.size
  · rw [decide_eq_true (show (1 : Int) ≤ (z.length : Int) by omega)]
    walk_at "dl"
    by_cases h8 : z.cps.size ≤ 8
    · rw [decide_eq_true (show (z.length : Int) ≤ 8 by omega), decide_eq_true (⟨h1, h8⟩ : 1 ≤ z.cps.size ∧ z.cps.size ≤ 8)]
      walk_at "dl"
      exact key ⟨h1, h8⟩
    · rw [decide_eq_false (show ¬ (z.length : Int) ≤ 8 by omega), decide_eq_false (fun h : 1 ≤ z.cps.size ∧ z.cps.size ≤ 8 => h8 h.2)]
      walk_at "dl"
      exact ⟨_, rfl⟩
  · rw [decide_eq_false (show ¬ (1 : Int) ≤ (z.length : Int) by omega), decide_eq_false (fun h : 1 ≤ z.cps.size ∧ z.cps.size ≤ 8 => h1 h.1)]
    walk_at "dl"
    exact ⟨_, rfl⟩
end Isn
namespace Fn
open PySem DL
end Fn
namespace Fn
open PySem DL
end Fn
namespace Fn
open PySem DL
end Fn
namespace Fn
open PySem DL
def parts_of_fc9f_b1 : En → R Fl :=
  (sIf (tst (bop (bop (rd 0) (rd 4) dIxA) (cst (.str (Str.ofString "("))) (dEq false))) (sSeq (sIf (tst (bop (rd 2) (cst (.int 0)) (dEq false))) (sSet 3 (bop (rd 4) (cst (.int 1)) dAdd)) sSkip)
  (sSet 2 (bop (rd 2) (cst (.int 1)) dAdd))) (sIf (tst (bop (rd 2) (cst (.int 0)) (dEq false))) sNever (sIf (tst (bop (bop (rd 0) (rd 4) dIxA) (cst (.str (Str.ofString ")"))) (dEq false))) (sSeq (sSet 2 (bop (rd 2) (cst (.int 1)) dSub))
  (sIf (tst (bop (rd 2) (cst (.int 0)) (dEq false))) (sAppend 1 (slc (rd 0) (pSome (uop (rdE 3) flatO)) (pSome (uop (rdE 4) flatO)))) sSkip)) sSkip)))
end Fn
namespace Fn
open PySem DL
end Fn
namespace Fn
open PySem DL
end Fn
namespace Fn
open PySem DL
end Fn
namespace Rt
open PySem DL Ti De Gw Bi Lc Be Tx
theorem tl_sp : TL.tl (Str.ofString " ") = [32] := by decide +kernel
theorem spl_ne (S : List Nat) : ∀ (k : Nat) (acc l : List Nat), TL.spl S k acc l ≠ []
  | 0, acc, [] => by unfold TL.spl; simp
  | k + 1, acc, [] => by unfold TL.spl; simp
  | 0, acc, c :: r => by
    unfold TL.spl
    split
    · simp
    · exact spl_ne S 0 _ r
  | k + 1, acc, c :: r => by unfold TL.spl; exact spl_ne S k acc r
theorem num_tl (n : Nat) : TL.tl (num (n : Int)) = TL.numL n := TL.tl_num n
theorem str1 {c : Nat} {w : Str} {d : Nat} (h : TL.tl w = [d]) : (⟨#[c]⟩ : Str) = w ↔ c = d := by
  constructor
  · intro e
    have : TL.tl (⟨#[c]⟩ : Str) = TL.tl w := by rw [e]
    rw [h] at this
    exact (List.cons.inj this).1
  · intro e
    refine TL.ext_tl ?_
    rw [h, e]
theorem at_code {T : Str} {k c : Nat} (h : (TL.tl T)[k]? = some c) (hT : T.length ≤ 16000000) : dIxA (.str T) (.int (k : Int)) = .ok (.str ⟨#[c]⟩) := by
  show grd (small T.length) (match L2.atI T.cps.toList (k : Int) with | some c => R.ok (D.str ⟨#[c]⟩) | none => .bad) = _
  rw [sm (by omega), L2.atI_nat h]
  rfl
theorem cut_tl (T : Str) (lo hi : Option Int) : TL.tl (L2.cutS T lo hi) = cutD (TL.tl T) lo hi := by
  unfold L2.cutS cutD
  rw [TL.len_tl]
inductive Bal : List Nat → Prop
  | nil : Bal []
  | ch {c : Nat} {l : List Nat} : c ≠ 40 → c ≠ 41 → Bal l → Bal (c :: l)
  | br {a b : List Nat} : Bal a → Bal b → Bal (40 :: (a ++ 41 :: b))
theorem Bal.app {a b : List Nat} (h : Bal a) (h2 : Bal b) : Bal (a ++ b) := by
  induction h with
  | nil => exact h2
  | ch h3 h4 _ ih => exact .ch h3 h4 ih
  | br h3 _ _ ih =>
    rw [List.cons_append, List.append_assoc, List.cons_append]
    exact .br h3 ih
theorem Bal.of : ∀ {l : List Nat}, (∀ c ∈ l, c ≠ 40 ∧ c ≠ 41) → Bal l
  | [], _ => .nil
  | c :: l, h => .ch (h c List.mem_cons_self).1 (h c List.mem_cons_self).2 (Bal.of fun d hd => h d (List.mem_cons_of_mem _ hd))
theorem tl_lp : TL.tl (Str.ofString "(") = [40] := by decide +kernel
theorem tl_rp : TL.tl (Str.ofString ")") = [41] := by decide +kernel
inductive Rd : Nat → Pp → Prop
  | tie {m : Nat} {k : Int} : 0 ≤ k → k < 10 ^ 60 → Rd m (.tie k)
  | short {m : Nat} {qs : List Int} : qs.length ≤ 100 → (∀ q ∈ qs, 0 ≤ q ∧ q < 10 ^ 60) → Rd m (.short qs)
  | dear {m : Nat} {pr : List Int} {td : List (Int × Int)} : pr.length ≤ 100 → td.length ≤ 100 → (∀ q ∈ pr, q.natAbs < 10 ^ 60) → (∀ e ∈ td, (0 ≤ e.1 ∧ e.1 < 10 ^ 60) ∧ 0 ≤ e.2 ∧ e.2 < 10 ^ 60) → Rd m (.dear pr td)
  | split {m : Nat} {ds : List Pp} : 1 ≤ ds.length → ds.length ≤ 100 → (∀ k (h : k < ds.length), Rd m ds[k]) → Rd (m + 1) (.split ds)
theorem Rd.tk {m : Nat} {p : Pp} (h : Rd m p) : Tk m p := by
  induction h with
  | tie h1 h2 => exact .tie (by omega)
  | short h1 h2 => exact .short h1 fun q hq => by have := h2 q hq; omega
  | dear h1 h2 h3 h4 => exact .dear h1 h2 (fun q hq => by have := h3 q hq; omega) fun e he => by have := h4 e he; omega
  | split h1 h2 _ ih => exact .split h2 ih
theorem Rd.mono {m : Nat} {p : Pp} (h : Rd m p) : ∀ {n : Nat}, m ≤ n → Rd n p := by
  induction h with
  | tie h1 h2 => exact fun _ => .tie h1 h2
  | short h1 h2 => exact fun _ => .short h1 h2
  | dear h1 h2 h3 h4 => exact fun _ => .dear h1 h2 h3 h4
  | @split m ds h1 h2 _ ih =>
    intro n hn
    obtain ⟨n, rfl⟩ : ∃ n', n = n' + 1 := ⟨n - 1, by omega⟩
    exact .split h1 h2 fun k hk => ih k hk (by omega)
def Ev (T : Str) (parts : List Str) (deep start : Nat) (z : DL.Slot) : En := [some (false, .str T), some (true, .lst (parts.map .str)), some (false, .int (deep : Int)), some (false, .int (start : Int)), z]
abbrev Fk : Nat → D := fun k => D.int (0 + (k : Int))
theorem at_code' {T : Str} {k c : Nat} (h : (TL.tl T)[k]? = some c) (hT : T.length ≤ 16000000) : dIxA (.str T) (.int (0 + (k : Int))) = .ok (.str ⟨#[c]⟩) := by
  rw [Int.zero_add]; exact at_code h hT
theorem step_in {T : Str} (hT : T.length ≤ 16000000) {k c deep start : Nat} {parts : List Str} {z : DL.Slot} (h : (TL.tl T)[k]? = some c) (hd : 1 ≤ deep) (h1 : c ≠ 40) (h2 : c ≠ 41) : Fn.parts_of_fc9f_b1 ((Ev T parts deep start z).set 4 (some (false, Fk k))) = .ok (.next (Ev T parts deep start (some (false, Fk k)))) := by
  unfold Fn.parts_of_fc9f_b1 Ev Fk
  walk_at "dl"
  rw [at_code' h hT]
  walk_at "dl"
  rw [decide_eq_false (fun e => h1 ((str1 tl_lp).mp e))]
  walk_at "dl"
  rw [decide_eq_false (show ¬ (deep : Int) = 0 by omega)]
  walk_at "dl"
  rw [at_code' h hT]
  walk_at "dl"
  rw [decide_eq_false (fun e => h2 ((str1 tl_rp).mp e))]
  walk_at "dl"
theorem step_open {T : Str} (hT : T.length ≤ 16000000) {k deep start : Nat} {parts : List Str} {z : DL.Slot} (h : (TL.tl T)[k]? = some 40) : Fn.parts_of_fc9f_b1 ((Ev T parts deep start z).set 4 (some (false, Fk k))) = .ok (.next (Ev T parts (deep + 1) (if deep = 0 then k + 1 else start) (some (false, Fk k)))) := by
  unfold Fn.parts_of_fc9f_b1 Ev Fk
  walk_at "dl"
  rw [at_code' h hT]
  walk_at "dl"
  rw [decide_eq_true ((str1 tl_lp).mpr rfl)]
  walk_at "dl"
  by_cases hd : deep = 0
  · subst hd
    rw [show decide (((0 : Nat) : Int) = 0) = true from rfl]
    walk_at "dl"
    rw [show (0 + (k : Int) + 1) = ((k + 1 : Nat) : Int) by omega]
    rfl
  · rw [decide_eq_false (show ¬ (deep : Int) = 0 by omega)]
    walk_at "dl"
    rw [if_neg hd]
    rfl
theorem step_close {T : Str} (hT : T.length ≤ 16000000) {k deep start : Nat} {parts : List Str} {z : DL.Slot} (h : (TL.tl T)[k]? = some 41) (hp : parts.length ≤ 1000) : Fn.parts_of_fc9f_b1 ((Ev T parts (deep + 1) start z).set 4 (some (false, Fk k))) = .ok (.next (Ev T (if deep = 0 then parts ++ [L2.cutS T (some (start : Int)) (some (k : Int))] else parts) deep start (some (false, Fk k)))) := by
  have n41 : (41 : Nat) ≠ 40 := by omega
  unfold Fn.parts_of_fc9f_b1 Ev Fk
  walk_at "dl"
  rw [at_code' h hT]
  walk_at "dl"
  rw [decide_eq_false (fun e => n41 ((str1 tl_lp).mp e))]
  walk_at "dl"
  rw [decide_eq_false (show ¬ ((deep + 1 : Nat) : Int) = 0 by omega)]
  walk_at "dl"
  rw [at_code' h hT]
  walk_at "dl"
  rw [decide_eq_true ((str1 tl_rp).mpr rfl)]
  walk_at "dl"
  rw [show ((deep + 1 : Nat) : Int) - 1 = (deep : Int) by omega]
  by_cases hd : deep = 0
  · subst hd
    rw [show decide (((0 : Nat) : Int) = 0) = true from rfl]
    walk_at "dl"
    rw [Int.zero_add, DL.cut_str, sm (by omega)]
    walk_at "dl"
    rw [DL.app_ok (by rw [List.length_map]; omega)]
    rw [show (parts ++ [L2.cutS T (some (start : Int)) (some (k : Int))]).map D.str = parts.map D.str ++ [D.str (L2.cutS T (some (start : Int)) (some (k : Int)))] by rw [List.map_append]; rfl]
    rfl
  · rw [decide_eq_false (show ¬ (deep : Int) = 0 by omega)]
    walk_at "dl"
    rw [if_neg hd]
theorem run_step {gb : En → R Fl} {k : Nat} {rest : List D} {ρ ρ' : En} (h : gb (ρ.set 4 (some (false, Fk k))) = .ok (.next ρ')) : loopD (gSet 4) gb (Fk k :: rest) ρ = loopD (gSet 4) gb rest ρ' := by
  unfold loopD
  show (match some (ρ.set 4 (some (false, Fk k))) with | none => R.bad | some ρ1 => bd (gb ρ1) _) = _
  dsimp only
  rw [h]
  cases rest <;> rfl
def seg (k n : Nat) : List D := (List.range' k n).map Fk
theorem seg_cons (k n : Nat) : seg k (n + 1) = Fk k :: seg (k + 1) n := rfl
theorem seg_app (k m n : Nat) : seg k (m + n) = seg k m ++ seg (k + m) n := by
  unfold seg
  rw [← List.map_append]
  congr 1
  rw [show k + m = k + 1 * m by omega, List.range'_append]
theorem run_bal {T : Str} (hT : T.length ≤ 16000000) {l : List Nat} (hb : Bal l) : ∀ (k deep start : Nat) (parts : List Str) (z : DL.Slot) (rest : List D), 1 ≤ deep → parts.length ≤ 1000 → (∀ i (h : i < l.length), (TL.tl T)[k + i]? = some l[i]) →
    ∃ z', loopD (gSet 4) Fn.parts_of_fc9f_b1 (seg k l.length ++ rest) (Ev T parts deep start z) = loopD (gSet 4) Fn.parts_of_fc9f_b1 rest (Ev T parts deep start z') := by
  induction hb with
  | nil => exact fun k deep start parts z rest _ _ _ => ⟨z, rfl⟩
  | @ch c l h1 h2 _ ih =>
    intro k deep start parts z rest hd hp ht
    rw [List.length_cons, seg_cons, List.cons_append, run_step (step_in hT (by have := ht 0 (by rw [List.length_cons]; omega); simpa using this) hd h1 h2)]
    exact ih (k + 1) deep start parts _ rest hd hp fun i hi => by
      have := ht (i + 1) (by rw [List.length_cons]; omega)
      rw [show k + 1 + i = k + (i + 1) by omega]
      simpa using this
  | @br a b _ _ iha ihb =>
    intro k deep start parts z rest hd hp ht
    have hlen : (40 :: (a ++ 41 :: b)).length = (a.length + (b.length + 1)) + 1 := by simp
    rw [hlen, seg_cons, List.cons_append, run_step (step_open hT (by have := ht 0 (by rw [hlen]; omega); simpa using this)), if_neg (by omega), seg_app, List.append_assoc]
    obtain ⟨z1, e1⟩ := iha (k + 1) (deep + 1) start parts (some (false, Fk k)) (seg (k + 1 + a.length) (b.length + 1) ++ rest) (by omega) hp fun i hi => by
      have := ht (i + 1) (by rw [hlen]; omega)
      rw [show k + 1 + i = k + (i + 1) by omega, this]
      rw [List.getElem_cons_succ, List.getElem_append_left hi]
    rw [e1, seg_cons, List.cons_append, run_step (step_close hT (by
      have := ht (a.length + 1) (by rw [hlen]; omega)
      rw [show k + 1 + a.length = k + (a.length + 1) by omega, this]
      rw [List.getElem_cons_succ, List.getElem_append_right (Nat.le_refl _)]
      simp) hp), if_neg (by omega)]
    exact ihb (k + 1 + a.length + 1) deep start parts _ rest hd hp fun i hi => by
      have := ht (a.length + 1 + i + 1) (by rw [hlen]; omega)
      rw [show k + 1 + a.length + 1 + i = k + (a.length + 1 + i + 1) by omega, this]
      rw [List.getElem_cons_succ, List.getElem_append_right (by omega)]
      simp [show a.length + 1 + i - a.length = i + 1 by omega]
theorem run_parts {T : Str} (hT : T.length ≤ 16000000) : ∀ (ds : List Str) (k start : Nat) (parts : List Str) (z : DL.Slot), (∀ p ∈ ds, Bal (TL.tl p)) → parts.length + ds.length ≤ 1000 → (TL.tl T).drop k = (ds.map fun p => 40 :: (TL.tl p ++ [41])).flatten →
    ∃ z' start', loopD (gSet 4) Fn.parts_of_fc9f_b1 (seg k ((TL.tl T).length - k)) (Ev T parts 0 start z) = .ok (.next (Ev T (parts ++ ds) 0 start' z'))
  | [], k, start, parts, z, _, _, ht => by
    have h0 : (TL.tl T).length - k = 0 := by
      have := congrArg List.length ht
      rw [List.length_drop] at this
      exact this
    rw [h0, List.append_nil]
    exact ⟨z, start, rfl⟩
  | p :: ds, k, start, parts, z, hb, hp, ht => by
    rw [List.length_cons] at hp
    rw [List.map_cons, List.flatten_cons] at ht
    have hat : ∀ i (h : i < (40 :: (TL.tl p ++ [41])).length), (TL.tl T)[k + i]? = some (40 :: (TL.tl p ++ [41]))[i] := fun i h => by
      rw [← List.getElem?_drop, ht, List.getElem?_append_left h, List.getElem?_eq_getElem h]
    have hlen : (40 :: (TL.tl p ++ [41])).length = (TL.tl p).length + 1 + 1 := by simp
    have hl : (TL.tl T).length - k = (TL.tl p).length + 1 + 1 + ((TL.tl T).length - (k + ((TL.tl p).length + 1 + 1))) := by
      have := congrArg List.length ht
      rw [List.length_drop, List.length_append, hlen] at this
      omega
    rw [hl, seg_app, show (TL.tl p).length + 1 + 1 = ((TL.tl p).length + 1) + 1 from rfl, seg_cons, List.cons_append]
    rw [run_step (step_open hT (by have := hat 0 (by rw [hlen]; omega); simpa using this)), if_pos rfl, seg_app, List.append_assoc]
    obtain ⟨z1, e1⟩ := run_bal hT (hb p List.mem_cons_self) (k + 1) 1 (k + 1) parts (some (false, Fk k)) (seg (k + 1 + (TL.tl p).length) 1 ++ seg (k + ((TL.tl p).length + 1 + 1)) ((TL.tl T).length - (k + ((TL.tl p).length + 1 + 1)))) (by omega) (by omega) fun i hi => by
      have := hat (i + 1) (by rw [hlen]; omega)
      rw [show k + 1 + i = k + (i + 1) by omega, this, List.getElem_cons_succ, List.getElem_append_left hi]
    rw [show Ev T parts (0 + 1) (k + 1) (some (false, Fk k)) = Ev T parts 1 (k + 1) (some (false, Fk k)) from rfl, e1, seg_cons, List.cons_append, run_step (step_close (deep := 0) hT (by
      have := hat ((TL.tl p).length + 1) (by rw [hlen]; omega)
      rw [show k + 1 + (TL.tl p).length = k + ((TL.tl p).length + 1) by omega, this, List.getElem_cons_succ, List.getElem_append_right (Nat.le_refl _)]
      simp) (by omega)), if_pos rfl]
    have hcut : L2.cutS T (some ((k + 1 : Nat) : Int)) (some ((k + 1 + (TL.tl p).length : Nat) : Int)) = p := TL.ext_tl (by
      rw [cut_tl, DL.cut_mid (by omega) (by omega), Int.toNat_natCast, Int.toNat_natCast, show k + 1 + (TL.tl p).length - (k + 1) = (TL.tl p).length by omega, ← List.drop_drop, ht]
      show ((TL.tl p ++ [41] ++ _).take _) = _
      rw [List.append_assoc, List.take_left])
    rw [hcut]
    obtain ⟨z', start', e2⟩ := run_parts hT ds (k + ((TL.tl p).length + 1 + 1)) (k + 1) (parts ++ [p]) (some (false, Fk (k + 1 + (TL.tl p).length))) (fun q hq => hb q (List.mem_cons_of_mem _ hq)) (by rw [List.length_append, List.length_singleton]; omega) (by
      rw [← List.drop_drop, ht, show (TL.tl p).length + 1 + 1 = (40 :: (TL.tl p ++ [41])).length from hlen.symm, List.drop_left])
    refine ⟨z', start', ?_⟩
    rw [List.append_assoc] at e2
    exact e2
theorem w1 : Str.ofString "tie" ≠ Str.ofString "split" := by decide +kernel
theorem w2 : Str.ofString "short" ≠ Str.ofString "split" := by decide +kernel
theorem w3 : Str.ofString "short" ≠ Str.ofString "tie" := by decide +kernel
theorem w4 : Str.ofString "dear" ≠ Str.ofString "split" := by decide +kernel
theorem w5 : Str.ofString "dear" ≠ Str.ofString "tie" := by decide +kernel
theorem w6 : Str.ofString "dear" ≠ Str.ofString "short" := by decide +kernel
end Rt
namespace Rre
open PySem DL Ti De Gw Bi Lc Be Tx Nm En Ro Rs
def PIn (n : Nat) : Part → Prop
  | .pair i j => i < n ∧ j < n ∧ True
  | .apart i j => i < n ∧ j < n ∧ i ≠ j
  | .same i j => i < n ∧ j < n ∧ i ≠ j
  | .tie w m s r => TieOk n (w, m, s) ∧ r.Perm s
theorem pin_of {n : Nat} {turn : Nat → Nat} {p : Part} (h : POk n turn p) : PIn n p := by
  cases p with
  | pair i j => exact ⟨h.1, h.2.1, trivial⟩
  | _ => exact h
theorem idxF_strs (x : Str) : ∀ (l : List Str) (n : Nat), x ∈ l → idxF (.str x) (l.map .str) n = some (n + l.idxOf x)
  | [], _, h => by cases h
  | a :: l, n, h => by
    rw [List.map_cons]
    unfold idxF
    rw [show eqF (.str a) (.str x) = (a == x) from rfl, List.idxOf_cons]
    by_cases e : a = x
    · subst e
      rw [beq_self_eq_true, if_pos rfl]; rfl
    · rw [show (a == x) = false from beq_eq_false_iff_ne.mpr e, if_neg Bool.false_ne_true]
      rw [idxF_strs x l (n + 1) ((List.mem_cons.mp h).resolve_left fun z => e z.symm)]
      exact congrArg some (by simp only [cond_false]; omega)
theorem idx_strs {l : List Str} {x : Str} (h : x ∈ l) : dIndex (.lst (l.map .str)) (.str x) = .ok (.int ((l.idxOf x : Nat) : Int)) := by
  show grd (isFlat (.str x) && (l.map .str).all isFlat) (match idxF (.str x) (l.map .str) 0 with | some j => R.ok (D.int (j : Nat)) | none => .bad) = _
  rw [idxF_strs x l 0 h, show (isFlat (.str x) && (l.map .str).all isFlat) = true by
    rw [Bool.and_eq_true, List.all_map]
    exact ⟨rfl, List.all_eq_true.mpr fun _ _ => rfl⟩, Nat.zero_add]
  rfl
theorem idx_ac {acts : List Str} (hn : acts.Nodup) {k : Nat} (h : k < acts.length) : acts.idxOf (ac acts k) = k := by
  unfold ac
  rw [List.getD_eq_getElem?_getD, List.getElem?_eq_getElem h]
  exact hn.idxOf_getElem k h
theorem uT_nodup : ∀ {l : List Str}, l.Nodup → uT l = l := by
  intro l
  have key : ∀ (n : Nat) (l : List Str), l.length = n → l.Nodup → uT l = l := by
    intro n
    induction n with
    | zero => intro l hl _; rw [List.length_eq_zero_iff.mp hl]; rfl
    | succ n ih =>
      intro l hl hn
      have hne : l ≠ [] := fun z => by rw [z] at hl; cases hl
      have e := List.dropLast_concat_getLast hne
      have hn2 : (l.dropLast ++ [l.getLast hne]).Nodup := by rw [e]; exact hn
      rw [List.nodup_append] at hn2
      rw [← e, uT_snoc, ih l.dropLast (by rw [List.length_dropLast]; omega) hn2.1, if_neg]
      intro hm
      exact hn2.2.2 _ hm _ List.mem_cons_self rfl
  exact fun hn => key _ l rfl hn
theorem fig_one {x : Str} {c m : Nat} (e : x = ⟨#[c]⟩) (h : c ∈ (Str.ofString "123456").cps.toList) (hd : isDig [c] = true) (hv : NumText.digitsVal [c] = m) : dIn false (.str x) (.str (Str.ofString "123456")) = .ok (.bl true) ∧ x.length = 1 ∧ dIntT [.str x] = .ok (.int (m : Int)) := by
  subst e
  refine ⟨?_, rfl, ?_⟩
  · show R.ok (D.bl (xorB false (decide (c ∈ (Str.ofString "123456").cps.toList)))) = _
    rw [decide_eq_true h]; rfl
  · rw [DL.intT_str hd (by show 1 ≤ 640; omega)]
    rw [show NumText.digitsVal (TL.tl ⟨#[c]⟩) = m from hv]
theorem fig_in {m : Nat} (h1 : 1 ≤ m) (h2 : m ≤ 6) : dIn false (.str (num (m : Int))) (.str (Str.ofString "123456")) = .ok (.bl true) ∧ (num (m : Int)).length = 1 ∧ dIntT [.str (num (m : Int))] = .ok (.int (m : Int)) := by
  rcases (by omega : m = 1 ∨ m = 2 ∨ m = 3 ∨ m = 4 ∨ m = 5 ∨ m = 6) with rfl | rfl | rfl | rfl | rfl | rfl
  · exact fig_one (c := 49) (by decide +kernel) (by decide +kernel) (by decide +kernel) (by decide +kernel)
  · exact fig_one (c := 50) (by decide +kernel) (by decide +kernel) (by decide +kernel) (by decide +kernel)
  · exact fig_one (c := 51) (by decide +kernel) (by decide +kernel) (by decide +kernel) (by decide +kernel)
  · exact fig_one (c := 52) (by decide +kernel) (by decide +kernel) (by decide +kernel) (by decide +kernel)
  · exact fig_one (c := 53) (by decide +kernel) (by decide +kernel) (by decide +kernel) (by decide +kernel)
  · exact fig_one (c := 54) (by decide +kernel) (by decide +kernel) (by decide +kernel) (by decide +kernel)
theorem in_ml (x : Str) : dIn false (.str x) (.tup [.str (Str.ofString "most"), .str (Str.ofString "least")]) = .ok (.bl (decide (x = Str.ofString "most" ∨ x = Str.ofString "least"))) := by
  show grd true (R.ok (D.bl (xorB false ([D.str (Str.ofString "most"), D.str (Str.ofString "least")].any fun y => eqF y (.str x))))) = _
  show R.ok (D.bl ((Str.ofString "most" == x) || ((Str.ofString "least" == x) || false))) = _
  congr 2
  rw [Bool.or_false, Bool.eq_iff_iff, Bool.or_eq_true, beq_iff_eq, beq_iff_eq, decide_eq_true_eq]
  exact ⟨fun h => h.imp Eq.symm Eq.symm, fun h => h.imp Eq.symm Eq.symm⟩
theorem kw1 : ¬ (Str.ofString "apart" = Str.ofString "most" ∨ Str.ofString "apart" = Str.ofString "least") := by decide +kernel
theorem kw2 : ¬ (Str.ofString "same" = Str.ofString "most" ∨ Str.ofString "same" = Str.ofString "least") := by decide +kernel
theorem kw3 : ¬ Str.ofString "same" = Str.ofString "apart" := by decide +kernel
theorem tl_sp : TL.tl (Str.ofString " ") = 32 :: [] := by decide +kernel
theorem keys_in (x : Str) : dInK [(Str.ofString "steps"), (Str.ofString "before"), (Str.ofString "most"), (Str.ofString "least"), (Str.ofString "apart"), (Str.ofString "same")] false (.str x) = .ok (.bl (decide (x ∈ Nm.keysD))) := rfl
end Rre
namespace Rre
open PySem DL Ti De Gw Bi Lc Be Tx Nm En Ro Rs
theorem num_tl {m : Nat} (h1 : 1 ≤ m) (h2 : m ≤ 6) : TL.tl (num (m : Int)) = [48 + m] := by
  rcases (by omega : m = 1 ∨ m = 2 ∨ m = 3 ∨ m = 4 ∨ m = 5 ∨ m = 6) with rfl | rfl | rfl | rfl | rfl | rfl <;> decide +kernel
theorem key_lo {k : Str} (h : k ∈ Nm.keysD) : Lo (TL.tl k) := (keys_ok k h).1
def Wd (x : Str) : Prop := (32 : Nat) ∉ TL.tl x ∧ (59 : Nat) ∉ TL.tl x
theorem Wd.lo {x : Str} (h : Lo (TL.tl x)) : Wd x := ⟨fun hm => by have := h _ hm; omega, fun hm => by have := h _ hm; omega⟩
theorem wd_key {k : Str} (h : k ∈ Nm.keysD) : Wd k := .lo (key_lo h)
theorem wd_ac {acts : List Str} (A : ActsOk acts) {k : Nat} (h : k < acts.length) : Wd (ac acts k) := .lo (A.ok _ (ac_mem h)).1
theorem wds_wd {acts : List Str} (A : ActsOk acts) {p : Part} (h : PIn acts.length p) : ∀ w ∈ wds acts p, Wd w := by
  cases p with
  | pair i j =>
    intro w hw
    simp only [wds, List.mem_cons, List.not_mem_nil, or_false] at hw
    rcases hw with rfl | rfl | rfl
    · exact wd_ac A h.1
    · exact wd_key (by unfold Nm.keysD; simp)
    · exact wd_ac A h.2.1
  | apart i j =>
    intro w hw
    simp only [wds, List.mem_cons, List.not_mem_nil, or_false] at hw
    rcases hw with rfl | rfl | rfl
    · exact wd_key (by unfold Nm.keysD; simp)
    · exact wd_ac A h.1
    · exact wd_ac A h.2.1
  | same i j =>
    intro w hw
    simp only [wds, List.mem_cons, List.not_mem_nil, or_false] at hw
    rcases hw with rfl | rfl | rfl
    · exact wd_key (by unfold Nm.keysD; simp)
    · exact wd_ac A h.1
    · exact wd_ac A h.2.1
  | tie w m s r =>
    intro x hx
    obtain ⟨T, hr⟩ := h
    simp only [wds, List.mem_cons, List.mem_map] at hx
    rcases hx with rfl | rfl | ⟨k, hk, rfl⟩
    · cases w
      · exact wd_key (by unfold Nm.keysD Ro.W; simp)
      · exact wd_key (by unfold Nm.keysD Ro.W; simp)
    · unfold Wd
      rw [num_tl T.lo.1 T.lo.2]
      have := T.lo
      dsimp only at this
      constructor <;> simp <;> omega
    · exact wd_ac A (T.mem k (hr.mem_iff.mp hk))
theorem wds_ne {acts : List Str} {p : Part} : wds acts p ≠ [] := by cases p <;> simp [wds]
theorem ptx_split {acts : List Str} (A : ActsOk acts) {p : Part} (h : PIn acts.length p) : splitL (ptx acts p) (Str.ofString " ") = wds acts p :=
  DL.split_join Rre.tl_sp wds_ne fun w hw => (wds_wd A h w hw).1
end Rre
namespace Rre
open PySem DL Ti De Gw Bi Lc Be Tx Nm En Ro Rs
theorem mem_joinL {y : List Nat} {c : Nat} : ∀ {parts : List (List Nat)}, c ∈ TL.joinL y parts → c ∈ y ∨ ∃ p ∈ parts, c ∈ p
  | [], h => by cases h
  | [x], h => .inr ⟨x, List.mem_cons_self, h⟩
  | x :: z :: l, h => by
    have h : c ∈ x ++ (y ++ TL.joinL y (z :: l)) := h
    rcases List.mem_append.mp h with h | h
    · exact .inr ⟨x, List.mem_cons_self, h⟩
    · rcases List.mem_append.mp h with h | h
      · exact .inl h
      · rcases mem_joinL (parts := z :: l) h with h | ⟨p, hp, hc⟩
        · exact .inl h
        · exact .inr ⟨p, List.mem_cons_of_mem _ hp, hc⟩
theorem no_semi {l : List Str} (h : ∀ w ∈ l, Wd w) : (59 : Nat) ∉ TL.tl (Str.join (Str.ofString " ") l) := fun hm => by
  rw [TL.tl_join, Rre.tl_sp] at hm
  rcases mem_joinL hm with hm | ⟨p, hp, hc⟩
  · rw [List.mem_singleton] at hm; cases hm
  · obtain ⟨w, hw, rfl⟩ := List.mem_map.mp hp
    exact (h w hw).2 hc
theorem head_wd {acts : List Str} (A : ActsOk acts) : ∀ w ∈ Str.ofString "steps" :: acts, Wd w := fun w hw => by
  rcases List.mem_cons.mp hw with rfl | hw
  · exact wd_key (by unfold Nm.keysD; simp)
  · exact .lo (A.ok w hw).1
theorem tl_semi : TL.tl (Str.ofString "; ") = 59 :: [32] := by decide +kernel
end Rre
namespace Rre
open PySem DL Ti De Gw Bi Lc Be Tx Nm En Ro Rs
theorem ac_ne {acts : List Str} (A : ActsOk acts) {k : Nat} (h : k < acts.length) : ¬ ac acts k = Str.ofString "before" := fun e => (A.ok _ (ac_mem h)).2.2.2 (by rw [e]; unfold Nm.keysD; simp)
theorem num_ne {m : Nat} (h1 : 1 ≤ m) (h2 : m ≤ 6) : ¬ num (m : Int) = Str.ofString "before" := fun e => by
  have := congrArg TL.tl e
  rw [num_tl h1 h2] at this
  have h := congrArg List.length this
  rw [show (TL.tl (Str.ofString "before")).length = 6 by decide +kernel] at h
  cases h
theorem ptx_len {acts : List Str} (A : ActsOk acts) (h6 : acts.length ≤ 6) {p : Part} (h : PIn acts.length p) : (ptx acts p).length ≤ 100 := by
  have hal : ∀ {k : Nat}, k < acts.length → (ac acts k).length ≤ 8 := fun hk => (A.ok _ (ac_mem hk)).2.2.1
  have hk : ∀ k ∈ Nm.keysD, k.length ≤ 8 := by
    unfold Nm.keysD
    decide +kernel
  have hB : (∀ y ∈ wds acts p, y.length ≤ 8) ∧ (wds acts p).length ≤ 8 := by
    cases p with
    | pair i j =>
      refine ⟨fun y hy => ?_, by show 3 ≤ 8; omega⟩
      simp only [wds, List.mem_cons, List.not_mem_nil, or_false] at hy
      rcases hy with rfl | rfl | rfl
      · exact hal h.1
      · exact hk _ (by unfold Nm.keysD; simp)
      · exact hal h.2.1
    | apart i j =>
      refine ⟨fun y hy => ?_, by show 3 ≤ 8; omega⟩
      simp only [wds, List.mem_cons, List.not_mem_nil, or_false] at hy
      rcases hy with rfl | rfl | rfl
      · exact hk _ (by unfold Nm.keysD; simp)
      · exact hal h.1
      · exact hal h.2.1
    | same i j =>
      refine ⟨fun y hy => ?_, by show 3 ≤ 8; omega⟩
      simp only [wds, List.mem_cons, List.not_mem_nil, or_false] at hy
      rcases hy with rfl | rfl | rfl
      · exact hk _ (by unfold Nm.keysD; simp)
      · exact hal h.1
      · exact hal h.2.1
    | tie w m s r =>
      obtain ⟨T, hr⟩ := h
      have hsn : r.Nodup := hr.nodup_iff.mpr (T.up.imp fun h => Nat.ne_of_lt h)
      have hrl : r.length ≤ 6 := by
        have := nd_lenT (BS := List.range acts.length) hsn fun k hk => List.mem_range.mpr (T.mem k (hr.mem_iff.mp hk))
        rw [List.length_range] at this; omega
      refine ⟨fun y hy => ?_, by simp only [wds, List.length_cons, List.length_map]; omega⟩
      simp only [wds, List.mem_cons, List.mem_map] at hy
      rcases hy with rfl | rfl | ⟨k, hk2, rfl⟩
      · have := W_len w; omega
      · have := (fig_in T.lo.1 T.lo.2).2.1
        have : (num (m : Int)).length = 1 := this
        omega
      · exact hal (T.mem k (hr.mem_iff.mp hk2))
  have := len_sp hB.1
  have h9 : (wds acts p).length * (8 + 1) ≤ 8 * 9 := Nat.mul_le_mul hB.2 (Nat.le_refl _)
  unfold ptx
  omega
end Rre
namespace Fn
open PySem DL
end Fn
namespace Fn
open PySem DL
end Fn
namespace Fn
open PySem DL
end Fn
namespace Lo
open PySem DL Ti
end Lo
namespace Or
open PySem DL Ti Ce De
abbrev Od := List (Nat × Nat)
def oP (p : Nat × Nat) : D := .tup [.int p.1, .int p.2]
def ofN (ks : List Nat) : List Int := ks.map fun (k : Nat) => (k : Int)
theorem ofN_map (ks : List Nat) : (ofN ks).map D.int = ks.map kI := by unfold ofN; rw [List.map_map]; rfl
theorem mem_ofN {ks : List Nat} {k : Nat} : (k : Int) ∈ ofN ks ↔ k ∈ ks := by
  unfold ofN
  rw [List.mem_map]
  exact ⟨fun ⟨j, hj, e⟩ => (Int.ofNat.inj e) ▸ hj, fun h => ⟨k, h, rfl⟩⟩
theorem in_ofN {ks : List Nat} {k : Nat} : decide ((k : Int) ∈ ofN ks) = decide (k ∈ ks) := decide_eq_decide.mpr mem_ofN
theorem kI_inj {a b : List Nat} (h : a.map kI = b.map kI) : a = b := (List.map_inj_right (fun x y e => by unfold kI at e; injection e with e; omega)).mp h
def Fit (ord : Od) (n : Nat) : Prop := ∀ p ∈ ord, p.1 < n ∧ p.2 < n
theorem loop_first {α : Type} {g : D → En → Option En} {gb : En → R Fl} (I : En → Prop) (F : α → D) (p : α → Bool) (r : α → D) : ∀ (xs : List α) (ρ : En), I ρ →
    (∀ a ∈ xs, ∀ ρ, I ρ → ∃ ρ1, g (F a) ρ = some ρ1 ∧ (p a = false → ∃ ρ', gb ρ1 = .ok (.next ρ') ∧ I ρ') ∧ (p a = true → ∃ o, gb ρ1 = .ok (.ret o (r a)))) →
    (xs.find? p = none ∧ ∃ ρ', loopD g gb (xs.map F) ρ = .ok (.next ρ') ∧ I ρ') ∨ (∃ a o, xs.find? p = some a ∧ loopD g gb (xs.map F) ρ = .ok (.ret o (r a)))
  | [], ρ, h0, _ => .inl ⟨rfl, ρ, rfl, h0⟩
  | a :: xs, ρ, h0, h => by
    obtain ⟨ρ1, h1, h2, h3⟩ := h a List.mem_cons_self ρ h0
    rw [List.map_cons]
    unfold loopD
    rw [h1, List.find?_cons]
    dsimp only
    cases hp : p a with
    | false =>
      obtain ⟨ρ', h4, h5⟩ := h2 hp
      rw [h4]
      exact loop_first I F p r xs ρ' h5 fun a ha => h a (List.mem_cons_of_mem _ ha)
    | true =>
      obtain ⟨o, h4⟩ := h3 hp
      rw [h4]
      exact .inr ⟨a, o, rfl, rfl⟩
def freeB (ord : Od) (ats : List Nat) (s : Nat) : Bool := ord.all fun p => !(decide (p.2 = s) && !decide (p.1 ∈ ats))
theorem free_eq (ord : Od) (ats : List Nat) (s : Nat) : ∃ o, Fn.free_935b [.lst (ord.map oP), .lst (ats.map kI), .int s] = .ok (o, .bl (freeB ord ats s)) := by
  rw [← ofN_map]
  unfold Fn.free_935b; rw [DL.ap_bodyV (by rfl)]; unfold Fn.free_935b_g
  walk_at "dl"
  have := DL.loop_find (g := gSet 3) (gb := Fn.free_935b_b1 [.lst (ord.map oP), .lst ((ofN ats).map .int), .int s]) (o := true) (x := .bl false) (fun ρ => ∃ x : DL.Slot, ρ = [none, none, none, x]) oP (fun p => !(decide (p.2 = s) && !decide (p.1 ∈ ats))) ord [none, none, none, none] ⟨none, rfl⟩ (fun p _ ρ ⟨x, hρ⟩ => by
    subst hρ
    refine ⟨_, rfl, ?_⟩
    have hb : Fn.free_935b_b1 [.lst (ord.map oP), .lst ((ofN ats).map .int), .int s] [none, none, none, some (false, oP p)] = if (!(decide (p.2 = s) && !decide (p.1 ∈ ats))) = true then .ok (.next [none, none, none, some (false, oP p)]) else .ok (.ret true (.bl false)) := by
      unfold Fn.free_935b_b1
      rw [show oP p = .tup [.int p.1, .int p.2] from rfl]
      walk_at "dl"
      rw [decide_eq_decide.mpr (show ((p.2 : Int) = s) ↔ p.2 = s by omega)]
      by_cases h1 : p.2 = s
      · rw [decide_eq_true h1]
        walk_at "dl"
        rw [in_ofN]
        by_cases h2 : p.1 ∈ ats
        · rw [decide_eq_true h2]
          walk_at "dl"
        · rw [decide_eq_false h2]
          walk_at "dl"
      · rw [decide_eq_false h1]
        walk_at "dl"
    exact ⟨fun h => ⟨_, hb.trans (if_pos h), _, rfl⟩, fun h => hb.trans (if_neg (by rw [h]; exact Bool.false_ne_true))⟩)
  unfold freeB
  rcases this with ⟨e1, ρ', e2, x, rfl⟩ | ⟨e1, e2⟩
  · rw [e2, e1]
    walk_at "dl"
    exact ⟨_, rfl⟩
  · rw [e2, e1]
    walk_at "dl"
    exact ⟨_, rfl⟩
def nxB (ord : Od) (ats : List Nat) (s : Nat) : Bool := !decide (s ∈ ats) && freeB ord ats s
def nf (ord : Od) (n : Nat) (ats : List Nat) : Option Nat := (List.range n).find? (nxB ord ats)
def oN : Option Nat → D
  | none => .non
  | some s => kI s
theorem rng0 : (fun (i : Nat) => D.int (0 + (i : Int))) = kI := by funext i; unfold kI; rw [Int.zero_add]
theorem next_free_eq (ord : Od) (n : Nat) (ats : List Nat) (hn : n ≤ 1000) : ∃ o, Fn.next_free_7b8a [.int n, .lst (ord.map oP), .lst (ats.map kI)] = .ok (o, oN (nf ord n ats)) := by
  rw [← ofN_map]
  unfold Fn.next_free_7b8a; rw [DL.ap_bodyV (by rfl)]; unfold Fn.next_free_7b8a_g
  walk_at "dl"
  rw [DL.inR_small (by omega) (by omega)]
  walk_at "dl"
  rw [rng0, Int.toNat_natCast]
  have := loop_first (g := gSet 3) (gb := Fn.next_free_7b8a_b1 [.int n, .lst (ord.map oP), .lst ((ofN ats).map .int)]) (fun ρ => ∃ x : DL.Slot, ρ = [none, none, none, x]) kI (nxB ord ats) kI (List.range n) [none, none, none, none] ⟨none, rfl⟩ (fun s _ ρ ⟨x, hρ⟩ => by
    subst hρ
    refine ⟨_, rfl, ?_⟩
    obtain ⟨o, hf⟩ := free_eq ord ats s
    rw [← ofN_map] at hf
    have hb : ∃ o, Fn.next_free_7b8a_b1 [.int n, .lst (ord.map oP), .lst ((ofN ats).map .int)] [none, none, none, some (false, kI s)] = if nxB ord ats s = true then .ok (.ret o (kI s)) else .ok (.next [none, none, none, some (false, kI s)]) := by
      unfold Fn.next_free_7b8a_b1 kI nxB
      walk_at "dl"
      rw [in_ofN]
      by_cases h1 : s ∈ ats
      · rw [decide_eq_true h1]
        walk_at "dl"
        exact ⟨false, trivial⟩
      · rw [decide_eq_false h1]
        walk_at "dl"
        rw [DL.callO_flat hf rfl]
        cases freeB ord ats s
        · walk_at "dl"
          exact ⟨false, trivial⟩
        · walk_at "dl"
          exact ⟨_, rfl⟩
    obtain ⟨o, hb⟩ := hb
    exact ⟨fun h => ⟨_, hb.trans (if_neg (by rw [h]; exact Bool.false_ne_true)), _, rfl⟩, fun h => ⟨o, hb.trans (if_pos h)⟩⟩)
  unfold nf
  rcases this with ⟨e1, ρ', e2, x, rfl⟩ | ⟨a, o, e1, e2⟩
  · rw [e2, e1]
    walk_at "dl"
    exact ⟨_, rfl⟩
  · rw [e2, e1]
    walk_at "dl"
    exact ⟨_, rfl⟩
theorem nf_some {ord : Od} {n : Nat} {ats : List Nat} {s : Nat} (h : nf ord n ats = some s) : s < n ∧ s ∉ ats ∧ freeB ord ats s = true := by
  have h1 := List.mem_of_find?_eq_some h
  have h2 := List.find?_some h
  unfold nxB at h2
  rw [Bool.and_eq_true, Bool.not_eq_true', decide_eq_false_iff_not] at h2
  exact ⟨List.mem_range.mp h1, h2⟩
theorem nf_none {ord : Od} {n : Nat} {ats : List Nat} {s : Nat} (h : nf ord n ats = none) (hs : s < n) (ha : s ∉ ats) : freeB ord ats s = false := by
  have := List.find?_eq_none.mp h s (List.mem_range.mpr hs)
  unfold nxB at this
  rw [Bool.and_eq_true, Bool.not_eq_true', decide_eq_false_iff_not] at this
  cases hf : freeB ord ats s with
  | false => rfl
  | true => exact absurd ⟨ha, hf⟩ this
theorem not_free {ord : Od} {ats : List Nat} {s : Nat} (h : freeB ord ats s = false) : ∃ p ∈ ord, p.2 = s ∧ p.1 ∉ ats := by
  unfold freeB at h
  obtain ⟨p, hp, e⟩ := List.all_eq_false.mp h
  rw [Bool.not_eq_true, Bool.not_eq_false', Bool.and_eq_true, decide_eq_true_eq, Bool.not_eq_true', decide_eq_false_iff_not] at e
  exact ⟨p, hp, e⟩
def stl (ord : Od) (n : Nat) : Nat → List Nat → List Nat
  | 0, ats => ats
  | k + 1, ats => match nf ord n ats with
    | none => ats
    | some s => stl ord n k (ats ++ [s])
def Gr (ord : Od) (n : Nat) (l : List Nat) : Prop := ∀ k (h : k < l.length), nf ord n (l.take k) = some l[k]
theorem gr_nil {ord : Od} {n : Nat} : Gr ord n [] := fun _ h => absurd h (Nat.not_lt_zero _)
theorem gr_snoc {ord : Od} {n : Nat} {l : List Nat} {s : Nat} (g : Gr ord n l) (h : nf ord n l = some s) : Gr ord n (l ++ [s]) := fun k hk => by
  rw [List.length_append, List.length_singleton] at hk
  by_cases hl : k < l.length
  · rw [List.take_append_of_le_length (by omega), List.getElem_append_left hl]; exact g k hl
  · have : k = l.length := by omega
    subst this
    rw [List.take_left, h, List.getElem_append_right (by omega)]; simp
theorem gr_in {ord : Od} {n : Nat} {l : List Nat} (g : Gr ord n l) : ∀ s ∈ l, s < n := fun s hs => by
  obtain ⟨k, hk, rfl⟩ := List.mem_iff_getElem.mp hs
  exact (nf_some (g k hk)).1
theorem gr_nodup {ord : Od} {n : Nat} : ∀ {l : List Nat}, Gr ord n l → l.Nodup := fun {l} g => by
  rw [List.nodup_iff_pairwise_ne, List.pairwise_iff_getElem]
  intro i j hi hj hij e
  refine (nf_some (g j hj)).2.1 ?_
  rw [List.mem_take_iff_getElem]
  exact ⟨i, by omega, e⟩
theorem nd_lenN : ∀ {ks BS : List Nat}, ks.Nodup → (∀ k ∈ ks, k ∈ BS) → ks.length ≤ BS.length
  | [], _, _, _ => Nat.zero_le _
  | k :: ks, BS, hn, h => by
    have hn := List.nodup_cons.mp hn
    have hk := h k List.mem_cons_self
    have := nd_lenN (ks := ks) (BS := BS.erase k) hn.2 fun x hx => (List.mem_erase_of_ne (fun e : x = k => hn.1 (by rw [← e]; exact hx))).mpr (h x (List.mem_cons_of_mem _ hx))
    rw [List.length_erase_of_mem hk] at this
    have hp : 0 < BS.length := List.length_pos_of_mem hk
    rw [List.length_cons]
    omega
theorem nd_range {l : List Nat} {n : Nat} (h : l.Nodup) (h2 : ∀ s ∈ l, s < n) : l.length ≤ n := by
  have := nd_lenN (BS := List.range n) h fun k hk => List.mem_range.mpr (h2 k hk)
  rwa [List.length_range] at this
theorem gr_len {ord : Od} {n : Nat} {l : List Nat} (g : Gr ord n l) : l.length ≤ n := nd_range (gr_nodup g) (gr_in g)
theorem stl_gr {ord : Od} {n : Nat} : ∀ (k : Nat) (l : List Nat), Gr ord n l → Gr ord n (stl ord n k l)
  | 0, l, g => g
  | k + 1, l, g => by
    unfold stl
    cases h : nf ord n l with
    | none => exact g
    | some s => exact stl_gr k _ (gr_snoc g h)
theorem stl_none {ord : Od} {n : Nat} : ∀ (k : Nat) (l : List Nat), Gr ord n l → n - l.length ≤ k → nf ord n (stl ord n k l) = none
  | 0, l, g, h => by
    cases e : nf ord n l with
    | none => exact e
    | some s =>
      have := gr_len (gr_snoc g e)
      rw [List.length_append, List.length_singleton] at this
      omega
  | k + 1, l, g, h => by
    unfold stl
    cases e : nf ord n l with
    | none => exact e
    | some s => exact stl_none k _ (gr_snoc g e) (by rw [List.length_append, List.length_singleton]; omega)
theorem settled_loop (ord : Od) (n : Nat) (hn : n ≤ 1000) : ∀ (f k : Nat) (l : List Nat), Gr ord n l → n - l.length ≤ k → n - l.length < f →
    whileD Fn.settled_daa0_t2 Fn.settled_daa0_b1 f [some (false, .int n), some (false, .lst (ord.map oP)), some (true, .lst (l.map kI)), some (false, oN (nf ord n l))] = .ok (.next [some (false, .int n), some (false, .lst (ord.map oP)), some (true, .lst ((stl ord n k l).map kI)), some (false, .non)])
  | 0, _, _, _, _, h => absurd h (Nat.not_lt_zero _)
  | f + 1, k, l, g, hk, h => by
    have hl := gr_len g
    cases e : nf ord n l with
    | none =>
      have : stl ord n k l = l := by
        cases k with
        | zero => rfl
        | succ k => unfold stl; rw [e]
      rw [this]
      unfold whileD
      unfold Fn.settled_daa0_t2 oN
      walk_at "dl"
    | some s =>
      have g2 := gr_snoc g e
      have hl2 := gr_len g2
      rw [List.length_append, List.length_singleton] at hl2
      obtain ⟨k, rfl⟩ : ∃ j, k = j + 1 := ⟨k - 1, by omega⟩
      obtain ⟨o, hf⟩ := next_free_eq ord n (l ++ [s]) hn
      have ih := settled_loop ord n hn f k (l ++ [s]) g2 (by rw [List.length_append, List.length_singleton]; omega) (by rw [List.length_append, List.length_singleton]; omega)
      unfold whileD
      have ht : Fn.settled_daa0_t2 [some (false, .int n), some (false, .lst (ord.map oP)), some (true, .lst (l.map kI)), some (false, oN (some s))] = .ok true := by
        unfold Fn.settled_daa0_t2 oN kI
        walk_at "dl"
      have hb : Fn.settled_daa0_b1 [some (false, .int n), some (false, .lst (ord.map oP)), some (true, .lst (l.map kI)), some (false, oN (some s))] = .ok (.next [some (false, .int n), some (false, .lst (ord.map oP)), some (true, .lst ((l ++ [s]).map kI)), some (false, oN (nf ord n (l ++ [s])))]) := by
        unfold Fn.settled_daa0_b1
        rw [show oN (some s) = kI s from rfl]
        rw [List.map_append, show [s].map kI = [kI s] from rfl] at hf ⊢
        walk_at "dl"
        rw [DL.app_ok (by rw [List.length_map]; omega)]
        walk_at "dl"
        rw [DL.callE_of hf]
        walk_at "dl"
      rw [ht, hb]
      rw [DL.bd_ok, if_pos rfl]
      show whileD _ _ f _ = _
      rw [ih]
      rw [show stl ord n (k + 1) l = stl ord n k (l ++ [s]) by rw [stl, e]]
theorem settled_eq (ord : Od) (n : Nat) (hn : n ≤ 1000) : Fn.settled_daa0 [.int n, .lst (ord.map oP)] = .ok (true, .lst ((stl ord n n []).map kI)) := by
  unfold Fn.settled_daa0; rw [DL.ap_body (by rfl)]; unfold Fn.settled_daa0_g
  walk_at "dl"
  obtain ⟨o, hf⟩ := next_free_eq ord n [] hn
  rw [List.map_nil] at hf
  rw [DL.callE_of hf]
  walk_at "dl"
  have := settled_loop ord n hn FU n [] gr_nil (by simp) (by rw [DL.FU_eq]; simp; omega)
  rw [List.map_nil] at this
  rw [this]
  walk_at "dl"
end Or
namespace Ow
open PySem DL Ti Ce De Or
structure IsRow (rs : List Nat) (n : Nat) : Prop where
  len : rs.length = n
  nd : rs.Nodup
  lt : ∀ s ∈ rs, s < n
theorem IsRow.ins {rs : List Nat} {n : Nat} (h : IsRow rs n) (j : Nat) (hj : j ≤ n) : IsRow (rs.take j ++ [n] ++ rs.drop j) (n + 1) := by
  have hp : (rs.take j ++ [n] ++ rs.drop j).Perm (n :: rs) := by
    rw [List.append_assoc]
    refine (List.perm_append_comm_assoc _ _ _).trans ?_
    rw [List.take_append_drop]
    exact List.Perm.refl _
  refine ⟨?_, hp.nodup_iff.mpr (List.nodup_cons.mpr ⟨fun hn => Nat.lt_irrefl _ (h.lt n hn), h.nd⟩), fun s hs => ?_⟩
  · rw [hp.length_eq, List.length_cons, h.len]
  · rcases List.mem_cons.mp (hp.mem_iff.mp hs) with rfl | hs
    · exact Nat.lt_succ_self _
    · exact Nat.lt_succ_of_lt (h.lt s hs)
def Up (rs : List Nat) (p : Nat × Nat) : Prop := ∃ (i j : Nat) (hi : i < rs.length) (hj : j < rs.length), i < j ∧ p = (rs[i], rs[j])
end Ow
namespace Rg
open PySem DL Ti Ce De Or
theorem idxF_kI (s : Nat) : ∀ (l : List Nat) (n : Nat), s ∈ l → idxF (kI s) (l.map kI) n = some (n + l.idxOf s)
  | [], _, h => by cases h
  | a :: l, n, h => by
    rw [List.map_cons]
    unfold idxF
    have he : eqF (kI a) (kI s) = decide (a = s) := by
      show decide ((a : Int) = s) = _
      exact decide_eq_decide.mpr (by omega)
    rw [he, List.idxOf_cons]
    by_cases e : a = s
    · subst e
      rw [decide_eq_true rfl, if_pos rfl, beq_self_eq_true]; rfl
    · rw [decide_eq_false e, if_neg Bool.false_ne_true, show (a == s) = false from beq_eq_false_iff_ne.mpr e]
      have := idxF_kI s l (n + 1) ((List.mem_cons.mp h).resolve_left fun z => e z.symm)
      rw [this]
      exact congrArg some (by simp only [cond_false]; omega)
theorem idx_kI {l : List Nat} {s : Nat} (h : s ∈ l) : dIndex (.lst (l.map kI)) (kI s) = .ok (.int ((l.idxOf s : Nat) : Int)) := by
  show grd (isFlat (kI s) && (l.map kI).all isFlat) (match idxF (kI s) (l.map kI) 0 with | some j => R.ok (D.int (j : Nat)) | none => .bad) = _
  rw [idxF_kI s l 0 h, show (isFlat (kI s) && (l.map kI).all isFlat) = true by
    rw [Bool.and_eq_true, List.all_map]
    exact ⟨rfl, List.all_eq_true.mpr fun _ _ => rfl⟩, Nat.zero_add]
  rfl
theorem last_kI (ini : List Nat) (x : Nat) : dIxA (.lst ((ini ++ [x]).map kI)) (.int (-1)) = .ok (kI x) := by
  rw [List.map_append]
  show (match L2.atI (ini.map kI ++ [kI x]) (-1) with | some d => R.ok d | none => R.bad) = _
  rw [L2.atI_last]
theorem nb_kI (l : List Nat) : NB 2 (.lst (l.map kI)) := by rw [← ofN_map]; exact NB.ints (ofN l)
theorem eq_kI {neg : Bool} {a b : List Nat} : dEq neg (.lst (a.map kI)) (.lst (b.map kI)) = .ok (.bl (xorB neg (decide (a = b)))) := eq_lsts (nb_kI a) (nb_kI b) (by omega) (by omega) ⟨kI_inj, fun e => by rw [e]⟩
theorem eq_nil {neg : Bool} {a : List Nat} : dEq neg (.lst (a.map kI)) (.lst []) = .ok (.bl (xorB neg (decide (a = [])))) := eq_kI (b := [])
def oaB (left : List Nat) (s : Nat) (p : Nat × Nat) : Bool := decide (p.2 = s) && decide (p.1 ∈ left)
def oa (ord : Od) (left : List Nat) (s : Nat) : Nat := match ord.find? (oaB left s) with
  | some p => p.1
  | none => s
theorem one_ahead_eq (ord : Od) (left : List Nat) (s : Nat) : ∃ o, Fn.one_ahead_d424 [.lst (ord.map oP), .lst (left.map kI), kI s] = .ok (o, kI (oa ord left s)) := by
  rw [← ofN_map]
  unfold Fn.one_ahead_d424; rw [DL.ap_body (by rfl)]; unfold Fn.one_ahead_d424_g
  walk_at "dl"
  have := loop_first (g := gSet 3) (gb := Fn.one_ahead_d424_b1) (fun ρ => ∃ x : DL.Slot, ρ = [some (false, .lst (ord.map oP)), some (false, .lst ((ofN left).map .int)), some (false, kI s), x]) oP (oaB left s) (fun p => kI p.1) ord [some (false, .lst (ord.map oP)), some (false, .lst ((ofN left).map .int)), some (false, kI s), none] ⟨none, rfl⟩ (fun p _ ρ ⟨x, hρ⟩ => by
    subst hρ
    refine ⟨_, rfl, ?_⟩
    have hb : ∃ o, Fn.one_ahead_d424_b1 [some (false, .lst (ord.map oP)), some (false, .lst ((ofN left).map .int)), some (false, kI s), some (false, oP p)] = if oaB left s p = true then .ok (.ret o (kI p.1)) else .ok (.next [some (false, .lst (ord.map oP)), some (false, .lst ((ofN left).map .int)), some (false, kI s), some (false, oP p)]) := by
      unfold Fn.one_ahead_d424_b1 kI oaB
      rw [show oP p = .tup [.int p.1, .int p.2] from rfl]
      walk_at "dl"
      rw [decide_eq_decide.mpr (show ((p.2 : Int) = s) ↔ p.2 = s by omega)]
      by_cases h1 : p.2 = s
      · rw [decide_eq_true h1]
        walk_at "dl"
        rw [in_ofN]
        by_cases h2 : p.1 ∈ left
        · rw [decide_eq_true h2]
          walk_at "dl"
          exact ⟨_, rfl⟩
        · rw [decide_eq_false h2]
          walk_at "dl"
          exact ⟨false, trivial⟩
      · rw [decide_eq_false h1]
        walk_at "dl"
        exact ⟨false, trivial⟩
    obtain ⟨o, hb⟩ := hb
    exact ⟨fun h => ⟨_, hb.trans (if_neg (by rw [h]; exact Bool.false_ne_true)), _, rfl⟩, fun h => ⟨o, hb.trans (if_pos h)⟩⟩)
  unfold oa
  rcases this with ⟨e1, ρ', e2, x, rfl⟩ | ⟨a, o, e1, e2⟩
  · rw [e2, e1]
    walk_at "dl"
    exact ⟨_, rfl⟩
  · rw [e2, e1]
    walk_at "dl"
    exact ⟨_, rfl⟩
def Wt (ord : Od) (left : List Nat) : Prop := ∀ s ∈ left, ∃ p ∈ ord, p.2 = s ∧ p.1 ∈ left
theorem oa_in {ord : Od} {left : List Nat} (W : Wt ord left) {s : Nat} (hs : s ∈ left) : oa ord left s ∈ left ∧ (oa ord left s, s) ∈ ord := by
  unfold oa
  cases h : ord.find? (oaB left s) with
  | none =>
    obtain ⟨p, hp, h1, h2⟩ := W s hs
    refine absurd ?_ (List.find?_eq_none.mp h p hp)
    unfold oaB
    rw [decide_eq_true h1, decide_eq_true h2]; rfl
  | some p =>
    have h1 := List.mem_of_find?_eq_some h
    have h2 := List.find?_some h
    unfold oaB at h2
    rw [Bool.and_eq_true, decide_eq_true_eq, decide_eq_true_eq] at h2
    refine ⟨h2.2, ?_⟩
    dsimp only
    rw [← h2.1]; exact h1
structure Bk (ord : Od) (left bs : List Nat) : Prop where
  nd : bs.Nodup
  is : ∀ b ∈ bs, b ∈ left
  ch : ∀ i (h : i + 1 < bs.length), (bs[i + 1], bs[i]) ∈ ord
theorem Bk.snoc {ord : Od} {left ini : List Nat} {x : Nat} (W : Wt ord left) (B : Bk ord left (ini ++ [x])) (h : oa ord left x ∉ ini ++ [x]) : Bk ord left (ini ++ [x] ++ [oa ord left x]) := by
  obtain ⟨h1, h2⟩ := oa_in W (B.is x (List.mem_append_right _ List.mem_cons_self))
  refine ⟨?_, ?_, ?_⟩
  · rw [List.nodup_append]
    refine ⟨B.nd, List.pairwise_singleton _ _, fun a ha b hb e => ?_⟩
    rw [List.mem_singleton] at hb
    subst hb e
    exact h ha
  · intro b hb
    rcases List.mem_append.mp hb with hb | hb
    · exact B.is b hb
    · rw [List.mem_singleton] at hb; subst hb; exact h1
  · intro i hi
    have hl : (ini ++ [x]).length = ini.length + 1 := by simp
    rw [List.length_append, List.length_singleton] at hi
    by_cases hc : i + 1 < (ini ++ [x]).length
    · rw [List.getElem_append_left hc, List.getElem_append_left (show i < (ini ++ [x]).length by omega)]
      exact B.ch i hc
    · have : i = ini.length := by omega
      subst this
      have e1 : (ini ++ [x] ++ [oa ord left x])[ini.length + 1]'(by simp) = oa ord left x := by
        rw [List.getElem_append_right (by rw [hl]; omega)]; simp
      have e2 : (ini ++ [x] ++ [oa ord left x])[ini.length]'(by simp) = x := by
        rw [List.getElem_append_left (by rw [hl]; omega), List.getElem_append_right (by omega)]; simp
      rw [e1, e2]
      exact h2
theorem ring_loop (ord : Od) (left : List Nat) (W : Wt ord left) (A B C : DL.Slot) (hl : left.length ≤ 1000) (n : Nat) : ∀ (f : Nat) (ini : List Nat) (x : Nat), Bk ord left (ini ++ [x]) → left.length + 1 - ini.length < f →
    ∃ (ini' : List Nat) (x' : Nat), Bk ord left (ini' ++ [x']) ∧ oa ord left x' ∈ ini' ++ [x'] ∧ whileD Fn.ring_d7b8_t4 Fn.ring_d7b8_b3 f [A, some (false, .lst (ord.map oP)), C, some (false, .lst (left.map kI)), some (true, .lst ((ini ++ [x]).map kI)), some (false, kI (oa ord left x))] = .ok (.next [A, some (false, .lst (ord.map oP)), C, some (false, .lst (left.map kI)), some (true, .lst ((ini' ++ [x']).map kI)), some (false, kI (oa ord left x'))])
  | 0, _, _, _, h => absurd h (Nat.not_lt_zero _)
  | f + 1, ini, x, K, h => by
    have hb := nd_lenN K.nd K.is
    rw [List.length_append, List.length_singleton] at hb
    have ht : Fn.ring_d7b8_t4 [A, some (false, .lst (ord.map oP)), C, some (false, .lst (left.map kI)), some (true, .lst ((ini ++ [x]).map kI)), some (false, kI (oa ord left x))] = .ok (!decide (oa ord left x ∈ ini ++ [x])) := by
      unfold Fn.ring_d7b8_t4
      rw [← ofN_map (ini ++ [x]), show kI (oa ord left x) = .int ((oa ord left x : Nat) : Int) from rfl]
      walk_at "dl"
      rw [in_ofN]
    unfold whileD
    rw [ht, DL.bd_ok]
    by_cases hc : oa ord left x ∈ ini ++ [x]
    · rw [decide_eq_true hc]
      exact ⟨ini, x, K, hc, rfl⟩
    · have K2 := K.snoc W hc
      have hb2 := nd_lenN K2.nd K2.is
      rw [List.length_append, List.length_append, List.length_singleton, List.length_singleton] at hb2
      rw [decide_eq_false hc]
      obtain ⟨o, hf⟩ := one_ahead_eq ord left (oa ord left x)
      have hbd : Fn.ring_d7b8_b3 [A, some (false, .lst (ord.map oP)), C, some (false, .lst (left.map kI)), some (true, .lst ((ini ++ [x]).map kI)), some (false, kI (oa ord left x))] = .ok (.next [A, some (false, .lst (ord.map oP)), C, some (false, .lst (left.map kI)), some (true, .lst ((ini ++ [x] ++ [oa ord left x]).map kI)), some (false, kI (oa ord left (oa ord left x)))]) := by
        unfold Fn.ring_d7b8_b3
        walk_at "dl"
        rw [DL.app_ok (by rw [List.length_map, List.length_append, List.length_singleton]; omega)]
        rw [show (ini ++ [x]).map kI ++ [kI (oa ord left x)] = (ini ++ [x] ++ [oa ord left x]).map kI by rw [List.map_append (l₂ := [oa ord left x])]; rfl]
        walk_at "dl"
        rw [last_kI]
        walk_at "dl"
        rw [DL.callE_of hf]
        walk_at "dl"
      rw [show ((!false) = true) from rfl, if_pos rfl, hbd]
      exact ring_loop ord left W A B C hl n f (ini ++ [x]) (oa ord left x) K2 (by rw [List.length_append, List.length_singleton]; omega)
structure IsRg (ord : Od) (n : Nat) (l : List Nat) : Prop where
  ne : l ≠ []
  nd : l.Nodup
  lt : ∀ s ∈ l, s < n
  ch : ∀ i (h : i + 1 < l.length), (l[i], l[i + 1]) ∈ ord
  cl : ∀ h : l ≠ [], (l.getLast h, l.head h) ∈ ord
theorem isrg {ord : Od} {left ini : List Nat} {x n : Nat} (W : Wt ord left) (hlt : ∀ s ∈ left, s < n) (K : Bk ord left (ini ++ [x])) (h : oa ord left x ∈ ini ++ [x]) : IsRg ord n ((ini ++ [x]).drop ((ini ++ [x]).idxOf (oa ord left x))).reverse := by
  have hx := oa_in W (K.is x (List.mem_append_right _ List.mem_cons_self))
  have hj := List.idxOf_lt_length_iff.mpr h
  have hg : (ini ++ [x])[(ini ++ [x]).idxOf (oa ord left x)] = oa ord left x := List.getElem_idxOf hj
  generalize hje : (ini ++ [x]).idxOf (oa ord left x) = j at hj hg
  have hlen : (ini ++ [x]).length = ini.length + 1 := by simp
  have hd : ((ini ++ [x]).drop j).length = ini.length + 1 - j := by rw [List.length_drop, hlen]
  refine ⟨?_, ?_, ?_, ?_, ?_⟩
  · intro e
    rw [List.reverse_eq_nil_iff] at e
    rw [e, List.length_nil] at hd
    omega
  · exact (List.reverse_perm _).nodup_iff.mpr (K.nd.sublist (List.drop_sublist _ _))
  · intro s hs
    exact hlt s (K.is s (List.mem_of_mem_drop (List.mem_reverse.mp hs)))
  · intro i hi
    rw [List.length_reverse, hd] at hi
    have e := K.ch (j + (ini.length + 1 - j - 1 - (i + 1))) (by rw [hlen]; omega)
    rw [List.getElem_reverse, List.getElem_reverse, List.getElem_drop, List.getElem_drop]
    have e1 : (ini ++ [x])[j + (((ini ++ [x]).drop j).length - 1 - i)]'(by rw [hd, hlen]; omega) = (ini ++ [x])[j + (ini.length + 1 - j - 1 - (i + 1)) + 1]'(by rw [hlen]; omega) := by
      congr 1; rw [hd]; omega
    have e2 : (ini ++ [x])[j + (((ini ++ [x]).drop j).length - 1 - (i + 1))]'(by rw [hd, hlen]; omega) = (ini ++ [x])[j + (ini.length + 1 - j - 1 - (i + 1))]'(by rw [hlen]; omega) := by
      congr 1; rw [hd]
    rw [e1, e2]; exact e
  · intro hne
    rw [List.getLast_reverse, List.head_reverse, List.head_drop, List.getLast_drop]
    rw [show (ini ++ [x]).getLast (by simp) = x by simp, hg]
    exact hx.2
def lft (ord : Od) (n : Nat) : List Nat := (List.range n).filter fun s => !decide (s ∈ stl ord n n [])
theorem wt_left {ord : Od} {n : Nat} (hf : Fit ord n) : Wt ord (lft ord n) := by
  have g := stl_gr (ord := ord) (n := n) n [] gr_nil
  have hn := stl_none (ord := ord) (n := n) n [] gr_nil (by simp)
  intro s hs
  unfold lft at hs ⊢
  rw [List.mem_filter, List.mem_range, Bool.not_eq_true', decide_eq_false_iff_not] at hs
  obtain ⟨p, hp, h1, h2⟩ := not_free (nf_none hn hs.1 hs.2)
  refine ⟨p, hp, h1, ?_⟩
  rw [List.mem_filter, List.mem_range, Bool.not_eq_true', decide_eq_false_iff_not]
  exact ⟨(hf p hp).1, h2⟩
theorem left_nil {ord : Od} {n : Nat} : lft ord n = [] ↔ (stl ord n n []).length = n := by
  have g := stl_gr (ord := ord) (n := n) n [] gr_nil
  unfold lft
  rw [List.filter_eq_nil_iff]
  constructor
  · intro h
    have h1 := nd_range (gr_nodup g) (gr_in g)
    have h2 := nd_lenN (ks := List.range n) (BS := stl ord n n []) List.nodup_range fun k hk => by
      have := h k hk
      rw [Bool.not_eq_true, Bool.not_eq_false', decide_eq_true_eq] at this
      exact this
    rw [List.length_range] at h2
    omega
  · intro h s hs
    rw [Bool.not_eq_true, Bool.not_eq_false', decide_eq_true_eq]
    refine Classical.byContradiction fun hc => ?_
    have := nd_lenN (ks := s :: stl ord n n []) (BS := List.range n) (List.nodup_cons.mpr ⟨hc, gr_nodup g⟩) fun k hk => by
      rcases List.mem_cons.mp hk with rfl | hk
      · exact hs
      · exact List.mem_range.mpr (gr_in g k hk)
    rw [List.length_range, List.length_cons] at this
    omega
theorem ring_eq (ord : Od) (n : Nat) (hf : Fit ord n) (hn : n ≤ 1000) : ∃ found : List Nat, Fn.ring_d7b8 [.int n, .lst (ord.map oP)] = .ok (true, .lst (found.map kI)) ∧ (((stl ord n n []).length = n ∧ found = []) ∨ ((stl ord n n []).length ≠ n ∧ IsRg ord n found)) := by
  have hl : (lft ord n).length ≤ 1000 := by
    have := List.length_filter_le (fun s => !decide (s ∈ stl ord n n [])) (List.range n)
    rw [List.length_range] at this
    unfold lft; omega
  unfold Fn.ring_d7b8; rw [DL.ap_body (by rfl)]; unfold Fn.ring_d7b8_g
  walk_at "dl"
  rw [DL.callE_of (settled_eq ord n hn)]
  walk_at "dl"
  rw [DL.inR_small (by omega) (by omega)]
  walk_at "dl"
  rw [rng0, Int.toNat_natCast]
  have hlc := lc_filter (g := gSet 5) (t := Fn.ring_d7b8_t2) (f := Fn.ring_d7b8_e1) (ρ := [some (false, .int n), some (false, .lst (ord.map oP)), some (false, .lst ((ofN (stl ord n n [])).map .int)), none, none, none]) kI (fun s => !decide (s ∈ stl ord n n [])) (List.range n) (fun k hk => by
    refine lc_one rfl ?_ fun h => rfl
    unfold Fn.ring_d7b8_t2 kI
    walk_at "dl"
    rw [in_ofN])
  rw [ofN_map] at hlc
  rw [DL.lc_is (by rw [List.length_map, List.length_range]; omega) hlc]
  walk_at "dl"
  rw [show (List.range n).filter (fun s => !decide (s ∈ stl ord n n [])) = lft ord n from rfl]
  rw [eq_nil (neg := false)]
  by_cases hL : lft ord n = []
  · rw [decide_eq_true hL]
    walk_at "dl"
    refine ⟨[], rfl, .inl ⟨left_nil.mp hL, rfl⟩⟩
  · rw [decide_eq_false hL]
    walk_at "dl"
    obtain ⟨l0, ls, hls⟩ := List.exists_cons_of_ne_nil hL
    have h0 : l0 ∈ lft ord n := by rw [hls]; exact List.mem_cons_self
    rw [DL.ixA_lst (x := kI l0) (by omega) (by rw [hls]; rfl)]
    walk_at "dl"
    rw [show [kI l0] = (([] : List Nat) ++ [l0]).map kI from rfl, last_kI]
    walk_at "dl"
    obtain ⟨o, h1⟩ := one_ahead_eq ord (lft ord n) l0
    rw [DL.callE_of h1]
    walk_at "dl"
    obtain ⟨ini, x, K, hx, e⟩ := ring_loop ord (lft ord n) (wt_left hf) (some (false, .int n)) none (some (false, .lst ((stl ord n n []).map kI))) hl n FU [] l0 ⟨List.pairwise_singleton _ _, fun b hb => by
      rw [List.nil_append, List.mem_singleton] at hb; subst hb; exact h0, fun i hi => by simp at hi⟩ (by rw [DL.FU_eq]; simp; omega)
    rw [show (([] : List Nat) ++ [l0]).map kI = [kI l0] from rfl] at e
    rw [e]
    walk_at "dl"
    rw [idx_kI hx]
    walk_at "dl"
    rw [DL.cut_from (by omega), Int.toNat_natCast, ← List.map_drop, ← List.map_reverse]
    exact ⟨_, rfl, .inr ⟨fun e => hL (left_nil.mpr e), isrg (wt_left hf) (fun s hs => List.mem_range.mp (List.mem_filter.mp hs).1) K hx⟩⟩
end Rg
namespace Cy
open PySem DL Ti Ce De Or Rg Ow
theorem Up.idx {rs : List Nat} {n : Nat} (hr : IsRow rs n) {p : Nat × Nat} (h : Up rs p) : rs.idxOf p.1 < rs.idxOf p.2 := by
  obtain ⟨i, j, hi, hj, hij, rfl⟩ := h
  dsimp only
  rw [hr.nd.idxOf_getElem, hr.nd.idxOf_getElem]
  exact hij
end Cy
namespace Rre
open PySem DL Ti De Gw Bi Lc Be Tx Nm En Ro Rs
def rtxs (acts : List Str) (ps : List Part) (more : List Str) : Str := Str.join (Str.ofString "; ") (head acts :: (ps.map (ptx acts) ++ more))
structure PartsIn (n : Nat) (ps : List Part) : Prop where
  ok : ∀ p ∈ ps, PIn n p
  nd : (pairsOf ps).Nodup
  len : ps.length ≤ 60
theorem pairs_cons (p : Part) (ps : List Part) : pairsOf (p :: ps) = (pairOf p).toList ++ pairsOf ps := by
  unfold pairsOf
  rw [List.filterMap_cons]
  cases pairOf p <;> rfl
theorem ties_cons (p : Part) (ps : List Part) : tiesOf (p :: ps) = (tieOf p).toList ++ tiesOf ps := by
  unfold tiesOf
  rw [List.filterMap_cons]
  cases tieOf p <;> rfl
theorem text_split {acts : List Str} (A : ActsOk acts) {ps : List Part} (h : ∀ p ∈ ps, PIn acts.length p) {more : List Str} (hm : ∀ t ∈ more, (59 : Nat) ∉ TL.tl t) : splitL (rtxs acts ps more) (Str.ofString "; ") = head acts :: (ps.map (ptx acts) ++ more) := by
  refine DL.split_join tl_semi (by simp) fun t ht => ?_
  rcases List.mem_cons.mp ht with rfl | ht
  · exact no_semi (head_wd A)
  · rcases List.mem_append.mp ht with ht | ht
    · obtain ⟨p, hp, rfl⟩ := List.mem_map.mp ht
      exact no_semi (wds_wd A (h p hp))
    · exact hm t ht
def Ringed (n : Nat) (prs : List (Nat × Nat)) : Prop := Rg.lft prs n ≠ []
theorem ring_any {n : Nat} {prs : List (Nat × Nat)} (hn : n ≤ 6) (hf : Or.Fit prs n) : ∃ (o : Bool) (found : List Nat), Fn.ring_d7b8 [.int (n : Int), .lst (prs.map dPr)] = .ok (o, .lst (found.map kI)) ∧ (found = [] ↔ ¬ Ringed n prs) := by
  obtain ⟨found, e, h3⟩ := Rg.ring_eq prs n hf (by omega)
  refine ⟨_, found, e, ?_⟩
  unfold Ringed
  rw [Decidable.not_not, Rg.left_nil]
  rcases h3 with ⟨h, rfl⟩ | ⟨h, hr⟩
  · exact ⟨fun _ => h, fun _ => rfl⟩
  · exact ⟨fun z => absurd z hr.ne, fun z => absurd z h⟩
theorem fit_in {n : Nat} {ps : List Part} (h : ∀ p ∈ ps, PIn n p) : Or.Fit (pairsOf ps) n := fun q hq => by
  obtain ⟨p, hp, e⟩ := List.mem_filterMap.mp hq
  have := h p hp
  cases p with
  | pair i j => cases e; exact ⟨this.1, this.2.1⟩
  | _ => cases e
section
variable {acts : List Str} (A : ActsOk acts) (h1 : 1 ≤ acts.length) (h6 : acts.length ≤ 6) {ps : List Part} (P : PartsIn acts.length ps)
include A h1 h6 P
end
end Rre
namespace Rue
open PySem DL Ti De Gw Bi Lc Be Tx Nm En Ro Rs Rre
theorem sum_le {l : List Str} {B : Nat} (h : ∀ y ∈ l, y.length ≤ B) : (l.map fun y : Str => y.length).sum ≤ l.length * B := by
  induction l with
  | nil => exact Nat.zero_le _
  | cons x l ih =>
    have h1 := h x List.mem_cons_self
    have h2 := ih fun y hy => h y (List.mem_cons_of_mem _ hy)
    rw [List.map_cons, List.sum_cons, List.length_cons, Nat.add_mul]
    omega
theorem rtx_len {acts : List Str} (A : ActsOk acts) (h6 : acts.length ≤ 6) {ps : List Part} (P : PartsIn acts.length ps) {more : List Str} (hm : more.length ≤ 20) (hy : ∀ y ∈ more, y.length ≤ 100) : (rtxs acts ps more).length ≤ 16000 := by
  have h1 := len_join (Str.ofString "; ") (head acts :: (ps.map (ptx acts) ++ more))
  have h2 := sum_le (l := head acts :: (ps.map (ptx acts) ++ more)) (B := 100) fun y hy' => by
    rcases List.mem_cons.mp hy' with rfl | hy'
    · have := head_len A h6; omega
    · rcases List.mem_append.mp hy' with h | h
      · obtain ⟨p, hp, rfl⟩ := List.mem_map.mp h
        exact ptx_len A h6 (P.ok p hp)
      · exact hy y h
  have h3 := P.len
  have h4 : (Str.ofString "; ").length = 2 := by decide +kernel
  rw [h4] at h1
  rw [List.length_cons, List.length_append, List.length_map] at h1 h2
  unfold rtxs
  omega
theorem text_eq {acts : List Str} (A : ActsOk acts) (h6 : acts.length ≤ 6) {ps : List Part} (P : PartsIn acts.length ps) : ∃ o, Fn.law_text_8b1d [.lst (acts.map .str), .lst (ps.map (dpt acts))] = .ok (o, .str (rtxs acts ps [])) := by
  have h3 := P.len
  unfold Fn.law_text_8b1d; rw [DL.ap_body (by rfl)]; unfold Fn.law_text_8b1d_g
  walk_at "dl"
  rw [DL.small_of (by omega)]
  walk_at "dl"
  rw [head_join A h6]
  rw [lc_map (i := 2) (f := Fn.law_text_8b1d_e1) (dpt acts) (fun p => D.str (ptx acts p)) ps (by omega) (fun p hp => by
    unfold Fn.law_text_8b1d_e1 dpt
    walk_at "dl")]
  walk_at "dl"
  rw [DL.small_of (by omega)]
  walk_at "dl"
  have hl := rtx_len A h6 P (more := []) (by simp) (fun y h => by cases h)
  rw [show D.str (head acts) :: ps.map (fun p => D.str (ptx acts p)) = (head acts :: ps.map (ptx acts)).map D.str by rw [List.map_cons, List.map_map]; rfl]
  rw [DL.join_strs (by
    have h2 := sum_le (l := head acts :: ps.map (ptx acts)) (B := 100) fun y hy => by
      rcases List.mem_cons.mp hy with rfl | hy
      · have := head_len A h6; omega
      · obtain ⟨p, hp, rfl⟩ := List.mem_map.mp hy
        exact ptx_len A h6 (P.ok p hp)
    have h4 : (Str.ofString "; ").length = 2 := by decide +kernel
    rw [h4]
    rw [List.length_cons, List.length_map] at h2 ⊢
    omega)]
  unfold rtxs
  rw [List.append_nil]
  exact ⟨_, rfl⟩
end Rue
namespace Tg
open PySem DL Ti De Gw Bi Lc Be Tx
theorem joinL_cons (S p : List Nat) {X : List (List Nat)} (h : X ≠ []) : TL.joinL S (p :: X) = p ++ (S ++ TL.joinL S X) := by
  cases X with
  | nil => exact absurd rfl h
  | cons q r => rfl
theorem spl_ne (S : List Nat) : ∀ (k : Nat) (l acc : List Nat), TL.spl S k acc l ≠ []
  | k, [], acc => by rw [TL.spl_nil]; simp
  | 0, c :: r, acc => by
    cases h : TL.pre S (c :: r) with
    | true => rw [TL.spl_hit h]; simp
    | false => rw [TL.spl_miss h]; exact spl_ne S 0 r _
  | k + 1, c :: r, acc => spl_ne S k r acc
theorem joinL_spl {S : List Nat} (hS : S ≠ []) : ∀ (n : Nat) (l acc : List Nat), l.length ≤ n → TL.joinL S (TL.spl S 0 acc l) = acc ++ l
  | n, [], acc, _ => by rw [TL.spl_nil, List.append_nil]; rfl
  | 0, c :: r, acc, h => by simp at h
  | n + 1, c :: r, acc, h => by
    rw [List.length_cons] at h
    cases hp : TL.pre S (c :: r) with
    | true =>
      rw [TL.spl_hit hp, joinL_cons _ _ (spl_ne S _ _ _), TL.spl_pass, joinL_spl hS n _ [] (by rw [List.length_drop]; omega), List.nil_append]
      have e : (c :: r).take S.length = S := eq_of_beq hp
      cases S with
      | nil => exact absurd rfl hS
      | cons s S =>
        rw [List.length_cons, List.take_succ_cons] at e
        injection e with e1 e2
        show acc ++ (s :: S ++ r.drop S.length) = acc ++ c :: r
        rw [← e1]
        conv => rhs; rw [← List.take_append_drop S.length r, e2]
        rfl
    | false => rw [TL.spl_miss hp, joinL_spl hS n r _ (by omega), List.append_assoc]; rfl
theorem split_back (x : Str) {y : Str} (hy : TL.tl y ≠ []) : Str.join y (splitL x y) = x := TL.ext_tl (by
  rw [TL.tl_join]
  unfold splitL
  rw [List.map_map, show TL.tl ∘ ofL = id from funext fun _ => rfl, List.map_id, joinL_spl hy (TL.tl x).length _ _ (Nat.le_refl _)]
  rfl)
theorem split_ne (x y : Str) : splitL x y ≠ [] := by
  unfold splitL
  intro h
  exact spl_ne _ _ _ _ (List.map_eq_nil_iff.mp h)
def sg (c : Nat) : Bool := (decide (97 ≤ c) && decide (c ≤ 122)) || (decide (49 ≤ c) && decide (c ≤ 54))
def gr : List Nat → Bool
  | [] => true
  | [c] => sg c
  | c :: d :: r => (if c = 32 then sg d else if c = 59 then decide (d = 32) else sg c) && gr (d :: r)
def gram : List Nat → Bool
  | [] => false
  | c :: r => sg c && gr (c :: r)
theorem gr_tail {c : Nat} {l : List Nat} (h : gr (c :: l) = true) : gr l = true := by
  cases l with
  | nil => rfl
  | cons d r => unfold gr at h; rw [Bool.and_eq_true] at h; exact h.2
theorem gr_suf : ∀ {a b : List Nat}, gr (a ++ b) = true → gr b = true
  | [], _, h => h
  | _ :: a, b, h => gr_suf (a := a) (gr_tail h)
theorem gr_mem : ∀ {l : List Nat}, gr l = true → ∀ c ∈ l, sg c = true ∨ c = 32 ∨ c = 59
  | [], _, c, hc => by cases hc
  | [d], h, c, hc => by rw [List.mem_singleton.mp hc]; exact .inl h
  | d :: e :: r, h, c, hc => by
    rcases List.mem_cons.mp hc with rfl | hc
    · unfold gr at h
      rw [Bool.and_eq_true] at h
      by_cases h1 : c = 32
      · exact .inr (.inl h1)
      by_cases h2 : c = 59
      · exact .inr (.inr h2)
      · rw [if_neg h1, if_neg h2] at h; exact .inl h.1
    · exact gr_mem (gr_tail h) c hc
theorem sg_no {c : Nat} (h : sg c = true) : c ≠ 32 ∧ c ≠ 59 := by
  unfold sg at h
  constructor <;> (rintro rfl; exact absurd h (by decide))
def Wrd (w : List Nat) : Prop := w ≠ [] ∧ ∀ c ∈ w, sg c = true
theorem gr_word : ∀ {w : List Nat}, (∀ c ∈ w, sg c = true) → gr w = true
  | [], _ => rfl
  | [c], h => h c List.mem_cons_self
  | c :: d :: r, h => by
    have hc := h c List.mem_cons_self
    unfold gr
    rw [if_neg (sg_no hc).1, if_neg (sg_no hc).2, hc, Bool.true_and]
    exact gr_word fun x hx => h x (List.mem_cons_of_mem _ hx)
theorem gram_word {w : List Nat} (h : Wrd w) : gram w = true := by
  obtain ⟨h1, h2⟩ := h
  cases w with
  | nil => exact absurd rfl h1
  | cons c r => show (sg c && gr (c :: r)) = true; rw [h2 c List.mem_cons_self, gr_word h2]; rfl
theorem gr_sp {l : List Nat} (h : gram l = true) : gr (32 :: l) = true := by
  cases l with
  | nil => cases h
  | cons c r =>
    unfold gram at h
    rw [Bool.and_eq_true] at h
    show ((if (32 : Nat) = 32 then sg c else _) && gr (c :: r)) = true
    rw [if_pos rfl, h.1, h.2]; rfl
theorem gr_semi {l : List Nat} (h : gram l = true) : gr (59 :: 32 :: l) = true := by
  show ((if (59 : Nat) = 32 then sg 32 else if (59 : Nat) = 59 then decide ((32 : Nat) = 32) else sg 59) && gr (32 :: l)) = true
  rw [if_neg (by decide), if_pos rfl, gr_sp h]; rfl
theorem gr_app : ∀ {a b : List Nat}, gr a = true → (∀ c r, b = c :: r → c = 32 ∨ c = 59) → gr b = true → gr (a ++ b) = true
  | [], b, _, _, hb => hb
  | [c], b, ha, h, hb => by
    have hc : sg c = true := ha
    cases b with
    | nil => exact hc
    | cons d r =>
      show ((if c = 32 then sg d else if c = 59 then decide (d = 32) else sg c) && gr (d :: r)) = true
      rw [if_neg (sg_no hc).1, if_neg (sg_no hc).2, hc, hb]; rfl
  | c :: d :: r, b, ha, h, hb => by
    unfold gr at ha
    rw [Bool.and_eq_true] at ha
    show ((if c = 32 then sg d else if c = 59 then decide (d = 32) else sg c) && gr (d :: r ++ b)) = true
    rw [ha.1, gr_app ha.2 h hb]; rfl
theorem gram_gr {l : List Nat} (h : gram l = true) : gr l = true := by
  cases l with
  | nil => cases h
  | cons c r => unfold gram at h; rw [Bool.and_eq_true] at h; exact h.2
theorem gram_app {a b : List Nat} (ha : gram a = true) (h : ∀ c r, b = c :: r → c = 32 ∨ c = 59) (hb : gr b = true) : gram (a ++ b) = true := by
  cases a with
  | nil => cases ha
  | cons c r =>
    have hg := gr_app (gram_gr ha) h hb
    unfold gram at ha
    rw [Bool.and_eq_true] at ha
    show (sg c && gr (c :: r ++ b)) = true
    rw [ha.1, hg]; rfl
theorem gram_joinW : ∀ {ws : List (List Nat)}, ws ≠ [] → (∀ w ∈ ws, Wrd w) → gram (TL.joinL [32] ws) = true
  | [], h, _ => absurd rfl h
  | [w], _, h => gram_word (h w List.mem_cons_self)
  | w :: v :: ws, _, h => by
    rw [joinL_cons _ _ (by simp)]
    exact gram_app (gram_word (h w List.mem_cons_self)) (fun c r e => by injection e with e1 _; exact .inl e1.symm) (gr_sp (gram_joinW (by simp) fun x hx => h x (List.mem_cons_of_mem _ hx)))
theorem gram_joinP : ∀ {ps : List (List Nat)}, ps ≠ [] → (∀ p ∈ ps, gram p = true) → gram (TL.joinL [59, 32] ps) = true
  | [], h, _ => absurd rfl h
  | [p], _, h => h p List.mem_cons_self
  | p :: q :: ps, _, h => by
    rw [joinL_cons _ _ (by simp)]
    exact gram_app (h p List.mem_cons_self) (fun c r e => by injection e with e1 _; exact .inr e1.symm) (gr_semi (gram_joinP (by simp) fun x hx => h x (List.mem_cons_of_mem _ hx)))
theorem gr_not_sp {a b : List Nat} {d : Nat} (hd : sg d = false) : gr (a ++ 32 :: d :: b) = false := by
  rw [← Bool.not_eq_true]
  intro h
  have := gr_suf (a := a) h
  unfold gr at this
  rw [if_pos rfl, hd] at this
  cases this
theorem gr_not_end {a : List Nat} : gr (a ++ [32]) = false := by
  rw [← Bool.not_eq_true]
  intro h
  have := gr_suf (a := a) h
  revert this
  decide
theorem gr_not_semi {a b : List Nat} {d : Nat} (hd : d ≠ 32) : gr (a ++ 59 :: d :: b) = false := by
  rw [← Bool.not_eq_true]
  intro h
  have := gr_suf (a := a) h
  unfold gr at this
  rw [if_neg (by decide), if_pos rfl, decide_eq_false hd] at this
  cases this
theorem gr_not_end2 {a : List Nat} : gr (a ++ [59]) = false := by
  rw [← Bool.not_eq_true]
  intro h
  have := gr_suf (a := a) h
  revert this
  decide
theorem gr_not_mem {l : List Nat} {c : Nat} (hc : c ∈ l) (h1 : sg c = false) (h2 : c ≠ 32) (h3 : c ≠ 59) : gr l = false := by
  rw [← Bool.not_eq_true]
  intro h
  rcases gr_mem h c hc with z | z | z
  · rw [h1] at z; cases z
  · exact h2 z
  · exact h3 z
theorem gram_not {l : List Nat} (h : gr l = false) : gram l = false := by
  rw [← Bool.not_eq_true]
  intro z
  rw [gram_gr z] at h
  cases h
end Tg
namespace Rdx
open PySem DL Ti De Gw Bi Lc Be Tx Nm En Ro Rs Rre Rue Tg
local macro_rules | `(tactic| walk_at "dq") => `(tactic| repeat (simp only [DL.ap_lcX]; walk_at "dl"))
abbrev NT : Str := Str.ofString "NoText"
theorem place_in {w : Str} {acts : List Str} (h : w ∈ acts) : ∃ o, Fn.place_of_78d6 [.str w, .lst (acts.map .str)] = .ok (o, dN (acts.idxOf w)) := by
  unfold Fn.place_of_78d6; rw [DL.ap_bodyD (by rfl)]; unfold Fn.place_of_78d6_g
  walk_at "dl"
  rw [Nm.in_strs, decide_eq_true h]
  walk_at "dl"
  rw [idx_strs h]
  exact ⟨_, rfl⟩
theorem place_no {w : Str} {acts : List Str} (h : w ∉ acts) : Fn.place_of_78d6 [.str w, .lst (acts.map .str)] = .err NT := by
  unfold Fn.place_of_78d6; rw [DL.ap_bodyD (by rfl)]; unfold Fn.place_of_78d6_g
  walk_at "dl"
  rw [Nm.in_strs, decide_eq_false h]
  walk_at "dl"
theorem uT_full : ∀ (n : Nat) (l : List Str), l.length = n → (uT l).length = l.length → l.Nodup := by
  intro n
  induction n with
  | zero => intro l hl _; rw [List.length_eq_zero_iff.mp hl]; exact List.nodup_nil
  | succ n ih =>
    intro l hl h
    have hne : l ≠ [] := fun z => by rw [z] at hl; cases hl
    have e := List.dropLast_concat_getLast hne
    have hd : l.dropLast.length = n := by rw [List.length_dropLast]; omega
    have hle := DL.uT_len l.dropLast
    rw [← e, uT_snoc, List.length_append, List.length_singleton] at h
    by_cases hm : l.getLast hne ∈ uT l.dropLast
    · rw [if_pos hm] at h; omega
    · rw [if_neg hm, List.length_append, List.length_singleton] at h
      have hn := ih l.dropLast hd (by omega)
      rw [uT_nodup hn] at hm
      rw [← e, List.nodup_append]
      exact ⟨hn, List.nodup_cons.mpr ⟨List.not_mem_nil, List.nodup_nil⟩, fun a ha b hb z => hm (by rw [List.mem_singleton.mp hb] at z; rw [← z]; exact ha)⟩
theorem uT_iff {l : List Str} : (uT l).length = l.length ↔ l.Nodup := ⟨fun h => uT_full _ l rfl h, fun h => by rw [uT_nodup h]⟩
def Pl (acts ws : List Str) : Prop := ws.Nodup ∧ ∀ w ∈ ws, w ∈ acts
theorem places_any (acts ws : List Str) (hl : ws.length ≤ 4000) : (Pl acts ws ∧ ∃ o t, Fn.places_of_cdd9 [.lst (ws.map .str), .lst (acts.map .str)] = .ok (o, .tup t)) ∨ (¬ Pl acts ws ∧ Fn.places_of_cdd9 [.lst (ws.map .str), .lst (acts.map .str)] = .err NT) := by
  have hlen := DL.lenT_ok (l := ws) (by omega)
  have hul := DL.uT_len ws
  unfold Fn.places_of_cdd9; rw [DL.ap_bodyD (by rfl)]; unfold Fn.places_of_cdd9_g
  walk_at "dl"
  rw [hlen]
  walk_at "dl"
  by_cases hn : ws.Nodup
  case neg =>
    refine .inr ⟨fun h => hn h.1, ?_⟩
    rw [decide_eq_false (show ¬ ((uT ws).length : Int) = (ws.length : Int) from fun z => hn (uT_iff.mp (by omega)))]
    walk_at "dl"
  rw [decide_eq_true (show ((uT ws).length : Int) = (ws.length : Int) by rw [uT_iff.mpr hn])]
  walk_at "dl"
  walk_at "dq"
  have hok : ∀ a ∈ ws, decide (a ∈ acts) = true → Fn.places_of_cdd9_e1 ((wipeR [some (false, .lst (ws.map .str)), some (false, .lst (acts.map .str)), none] [2]).set 2 (some (false, .str a))) = .ok (.int ((acts.idxOf a : Nat) : Int)) := fun a _ h => by
    obtain ⟨o, e⟩ := place_in (of_decide_eq_true h)
    unfold Fn.places_of_cdd9_e1
    walk_at "dl"
    rw [DL.callE_of e]; rfl
  have hno : ∀ a ∈ ws, decide (a ∈ acts) = false → Fn.places_of_cdd9_e1 ((wipeR [some (false, .lst (ws.map .str)), some (false, .lst (acts.map .str)), none] [2]).set 2 (some (false, .str a))) = .err NT := fun a _ h => by
    have e := place_no (of_decide_eq_false h)
    unfold Fn.places_of_cdd9_e1
    walk_at "dl"
    unfold callE
    rw [e]
    rfl
  by_cases hm : ∀ w ∈ ws, w ∈ acts
  · refine .inl ⟨⟨hn, hm⟩, ?_⟩
    rw [lcXK_of (by rw [List.length_map]; omega) (lcX_ok D.str (fun a => D.int ((acts.idxOf a : Nat) : Int)) ws fun a ha => hok a ha (decide_eq_true (hm a ha)))]
    walk_at "dl"
    rw [show (ws.map fun a => D.int ((acts.idxOf a : Nat) : Int)) = (ws.map fun a => ((acts.idxOf a : Nat) : Int)).map D.int from by rw [List.map_map]; rfl]
    simp only [DL.sort_ints]
    walk_at "dl"
    exact ⟨_, _, rfl⟩
  · refine .inr ⟨fun h => hm h.2, ?_⟩
    rw [lcXK_err (by rw [List.length_map]; omega) (lcX_err D.str (fun a => D.int ((acts.idxOf a : Nat) : Int)) (fun a => decide (a ∈ acts)) ws hok hno (by
      rw [List.all_eq_false]
      obtain ⟨w, hw⟩ := Classical.not_forall.mp hm
      have hw := Classical.not_imp.mp hw
      exact ⟨w, hw.1, by rw [decide_eq_false hw.2]; exact Bool.false_ne_true⟩))]
    walk_at "dl"
    rfl
def Fig (f : Str) : Prop := ∃ c, f = ⟨#[c]⟩ ∧ c ∈ (Str.ofString "123456").cps.toList
def Ml (w : Str) : Prop := w = Str.ofString "most" ∨ w = Str.ofString "least"
def GoodT (acts : List Str) (ws : List Str) : Prop :=
  (∃ w f r, ws = w :: f :: r ∧ Ml w ∧ r ≠ [] ∧ Fig f ∧ Pl acts r) ∨ (∃ a b, ws = [Str.ofString "apart", a, b] ∧ Pl acts [a, b]) ∨ (∃ a b, ws = [Str.ofString "same", a, b] ∧ Pl acts [a, b])
theorem fig_facts {c : Nat} (h : c ∈ (Str.ofString "123456").cps.toList) : dIn false (.str ⟨#[c]⟩) (.str (Str.ofString "123456")) = .ok (.bl true) ∧ ∃ n : Int, dIntT [.str (⟨#[c]⟩ : Str)] = .ok (.int n) := by
  have hc : c = 49 ∨ c = 50 ∨ c = 51 ∨ c = 52 ∨ c = 53 ∨ c = 54 := by
    have e : (Str.ofString "123456").cps.toList = [49, 50, 51, 52, 53, 54] := by decide +kernel
    rw [e] at h
    simp at h
    exact h
  rcases hc with rfl | rfl | rfl | rfl | rfl | rfl
  · have f := fig_one (x := ⟨#[49]⟩) (c := 49) (m := 1) rfl h (by decide +kernel) (by decide +kernel); exact ⟨f.1, _, f.2.2⟩
  · have f := fig_one (x := ⟨#[50]⟩) (c := 50) (m := 2) rfl h (by decide +kernel) (by decide +kernel); exact ⟨f.1, _, f.2.2⟩
  · have f := fig_one (x := ⟨#[51]⟩) (c := 51) (m := 3) rfl h (by decide +kernel) (by decide +kernel); exact ⟨f.1, _, f.2.2⟩
  · have f := fig_one (x := ⟨#[52]⟩) (c := 52) (m := 4) rfl h (by decide +kernel) (by decide +kernel); exact ⟨f.1, _, f.2.2⟩
  · have f := fig_one (x := ⟨#[53]⟩) (c := 53) (m := 5) rfl h (by decide +kernel) (by decide +kernel); exact ⟨f.1, _, f.2.2⟩
  · have f := fig_one (x := ⟨#[54]⟩) (c := 54) (m := 6) rfl h (by decide +kernel) (by decide +kernel); exact ⟨f.1, _, f.2.2⟩
theorem sign_in (c : Nat) (y : Str) : dIn false (.str ⟨#[c]⟩) (.str y) = .ok (.bl (decide (c ∈ y.cps.toList))) := by
  show R.ok (D.bl (xorB false (decide (c ∈ y.cps.toList)))) = _
  rfl
theorem one_sign {x : Str} (h : x.length = 1) : ∃ c, x = ⟨#[c]⟩ := by
  have h2 : x.cps.size = 1 := h
  obtain ⟨a, ha⟩ := Array.size_eq_one_iff.mp h2
  exact ⟨a, by rw [← ha]⟩
theorem kwA : Str.ofString "apart" ≠ Str.ofString "same" := by decide +kernel
theorem not_good {acts : List Str} {w : Str} {ws : List Str} (h1 : ¬ Ml w) (h2 : w ≠ Str.ofString "apart") (h3 : w ≠ Str.ofString "same") : ¬ GoodT acts (w :: ws) := by
  rintro (⟨w', f, r, e, m, -⟩ | ⟨a, b, e, -⟩ | ⟨a, b, e, -⟩)
  · injection e with e _; exact h1 (e ▸ m)
  · injection e with e _; exact h2 e
  · injection e with e _; exact h3 e
theorem ml_ne {w : Str} (hm : Ml w) : ¬ w = Str.ofString "apart" ∧ ¬ w = Str.ofString "same" := by
  constructor <;> (intro e; rcases hm with h | h <;> rw [h] at e <;> exact absurd e (by decide +kernel))
theorem tie_ml1 {w : Str} (hm : Ml w) (acts : D) : Fn.tie_of_7f70 [.lst [.str w], acts] = .err NT := by
  unfold Fn.tie_of_7f70; rw [DL.ap_bodyD (by rfl)]; unfold Fn.tie_of_7f70_g
  walk_at "dl"
  rw [in_ml, decide_eq_true (show w = Str.ofString "most" ∨ w = Str.ofString "least" from hm)]
  walk_at "dl"
  try rw [show decide (2 < (((1 : Nat)) : Int)) = false from rfl]
  walk_at "dl"
  rw [decide_eq_false (ml_ne hm).1]
  walk_at "dl"
  rw [decide_eq_false (ml_ne hm).2]
  walk_at "dl"
theorem tie_ml2 {w f : Str} (hm : Ml w) (acts : D) : Fn.tie_of_7f70 [.lst [.str w, .str f], acts] = .err NT := by
  unfold Fn.tie_of_7f70; rw [DL.ap_bodyD (by rfl)]; unfold Fn.tie_of_7f70_g
  walk_at "dl"
  rw [in_ml, decide_eq_true (show w = Str.ofString "most" ∨ w = Str.ofString "least" from hm)]
  walk_at "dl"
  try rw [show decide (2 < (((2 : Nat)) : Int)) = false from rfl]
  walk_at "dl"
  rw [decide_eq_false (ml_ne hm).1]
  walk_at "dl"
  rw [decide_eq_false (ml_ne hm).2]
  walk_at "dl"
theorem tie_ml3 {w f x : Str} {r : List Str} (hm : Ml w) (acts : List Str) (hl : r.length ≤ 3990) (hf : f.length ≤ 1000000) :
    (Fig f ∧ Pl acts (x :: r) ∧ ∃ o t, Fn.tie_of_7f70 [.lst (.str w :: .str f :: .str x :: r.map .str), .lst (acts.map .str)] = .ok (o, t)) ∨ (¬ (Fig f ∧ Pl acts (x :: r)) ∧ Fn.tie_of_7f70 [.lst (.str w :: .str f :: .str x :: r.map .str), .lst (acts.map .str)] = .err NT) := by
  unfold Fn.tie_of_7f70; rw [DL.ap_bodyD (by rfl)]; unfold Fn.tie_of_7f70_g
  walk_at "dl"
  rw [in_ml, decide_eq_true (show w = Str.ofString "most" ∨ w = Str.ofString "least" from hm)]
  walk_at "dl"
  rw [decide_eq_true (show (2 : Int) < ((r.length + 1 + 1 + 1 : Nat) : Int) by omega)]
  walk_at "dl"
  rw [DL.small_of hf]
  walk_at "dl"
  by_cases h1 : f.length = 1
  case neg =>
    refine .inr ⟨fun h => h1 (by obtain ⟨⟨c, rfl, _⟩, _⟩ := h; rfl), ?_⟩
    rw [decide_eq_false (show ¬ (f.length : Int) = 1 by omega)]
    walk_at "dl"
    rw [decide_eq_false (ml_ne hm).1]
    walk_at "dl"
    rw [decide_eq_false (ml_ne hm).2]
    walk_at "dl"
  obtain ⟨c, rfl⟩ := one_sign h1
  rw [decide_eq_true (show (((⟨#[c]⟩ : Str).length : Nat) : Int) = 1 by rw [h1]; rfl)]
  walk_at "dl"
  rw [sign_in]
  by_cases h2 : c ∈ (Str.ofString "123456").cps.toList
  case neg =>
    refine .inr ⟨fun h => h2 (by obtain ⟨⟨d, e, hd⟩, _⟩ := h; injection e with e; injection e with e; injection e with e; rw [e]; exact hd), ?_⟩
    rw [decide_eq_false h2]
    walk_at "dl"
    rw [decide_eq_false (ml_ne hm).1]
    walk_at "dl"
    rw [decide_eq_false (ml_ne hm).2]
    walk_at "dl"
  rw [decide_eq_true h2]
  walk_at "dl"
  obtain ⟨-, n, en⟩ := fig_facts h2
  rw [en]
  walk_at "dl"
  rw [DL.cut_from (by omega), show (D.str w :: D.str ⟨#[c]⟩ :: D.str x :: r.map D.str).drop (2 : Int).toNat = (x :: r).map D.str from rfl]
  rcases places_any acts (x :: r) (by rw [List.length_cons]; omega) with ⟨hp, o, t, e⟩ | ⟨hp, e⟩
  · refine .inl ⟨⟨c, rfl, h2⟩, hp, ?_⟩
    rw [DL.callE_of e]
    walk_at "dl"
    exact ⟨_, _, rfl⟩
  · refine .inr ⟨fun h => hp h.2, ?_⟩
    rw [show callE Fn.places_of_cdd9 [.lst ((x :: r).map .str), .lst (acts.map .str)] = .err NT from by unfold callE; rw [e]; rfl]
    rfl
end Rdx
namespace Rdx
open PySem DL Ti De Gw Bi Lc Be Tx Nm En Ro Rs Rre Rue Tg
theorem tie_apart {a b : Str} (acts : List Str) :
    (Pl acts [a, b] ∧ ∃ o t, Fn.tie_of_7f70 [.lst [.str (Str.ofString "apart"), .str a, .str b], .lst (acts.map .str)] = .ok (o, t)) ∨ (¬ Pl acts [a, b] ∧ Fn.tie_of_7f70 [.lst [.str (Str.ofString "apart"), .str a, .str b], .lst (acts.map .str)] = .err NT) := by
  unfold Fn.tie_of_7f70; rw [DL.ap_bodyD (by rfl)]; unfold Fn.tie_of_7f70_g
  walk_at "dl"
  rw [in_ml, decide_eq_false kw1]
  walk_at "dl"
  rw [show decide (((3 : Nat) : Int) = 3) = true from rfl]
  walk_at "dl"
  rw [show cutD [D.str (Str.ofString "apart"), D.str a, D.str b] (some 1) none = [a, b].map D.str by rw [DL.cut_from (by omega)]; rfl]
  rcases places_any acts [a, b] (by show 2 ≤ 4000; omega) with ⟨hp, o, t, e⟩ | ⟨hp, e⟩
  · refine .inl ⟨hp, ?_⟩
    rw [DL.callE_of e]
    walk_at "dl"
    exact ⟨_, _, rfl⟩
  · refine .inr ⟨hp, ?_⟩
    rw [show callE Fn.places_of_cdd9 [.lst ([a, b].map .str), .lst (acts.map .str)] = .err NT from by unfold callE; rw [e]; rfl]
    rfl
theorem tie_same {a b : Str} (acts : List Str) :
    (Pl acts [a, b] ∧ ∃ o t, Fn.tie_of_7f70 [.lst [.str (Str.ofString "same"), .str a, .str b], .lst (acts.map .str)] = .ok (o, t)) ∨ (¬ Pl acts [a, b] ∧ Fn.tie_of_7f70 [.lst [.str (Str.ofString "same"), .str a, .str b], .lst (acts.map .str)] = .err NT) := by
  unfold Fn.tie_of_7f70; rw [DL.ap_bodyD (by rfl)]; unfold Fn.tie_of_7f70_g
  walk_at "dl"
  rw [in_ml, decide_eq_false kw2]
  walk_at "dl"
  rw [decide_eq_false kw3]
  walk_at "dl"
  rw [show decide (((3 : Nat) : Int) = 3) = true from rfl]
  walk_at "dl"
  rw [show cutD [D.str (Str.ofString "same"), D.str a, D.str b] (some 1) none = [a, b].map D.str by rw [DL.cut_from (by omega)]; rfl]
  rcases places_any acts [a, b] (by show 2 ≤ 4000; omega) with ⟨hp, o, t, e⟩ | ⟨hp, e⟩
  · refine .inl ⟨hp, ?_⟩
    rw [DL.callE_of e]
    walk_at "dl"
    exact ⟨_, _, rfl⟩
  · refine .inr ⟨hp, ?_⟩
    rw [show callE Fn.places_of_cdd9 [.lst ([a, b].map .str), .lst (acts.map .str)] = .err NT from by unfold callE; rw [e]; rfl]
    rfl
theorem tie_kw {w : Str} {ws : List Str} (acts : D) (hw : ¬ Ml w) (hl : ws.length ≠ 2) : Fn.tie_of_7f70 [.lst (.str w :: ws.map .str), acts] = .err NT := by
  unfold Fn.tie_of_7f70; rw [DL.ap_bodyD (by rfl)]; unfold Fn.tie_of_7f70_g
  walk_at "dl"
  rw [in_ml, decide_eq_false (show ¬ (w = Str.ofString "most" ∨ w = Str.ofString "least") from hw)]
  walk_at "dl"
  have h3 : decide (((ws.length + 1 : Nat) : Int) = 3) = false := decide_eq_false (by omega)
  by_cases h1 : w = Str.ofString "apart"
  · rw [decide_eq_true h1]
    walk_at "dl"
    rw [h3]
    walk_at "dl"
    rw [decide_eq_false (show ¬ w = Str.ofString "same" from fun z => kwA (by rw [← h1, z]))]
    walk_at "dl"
  · rw [decide_eq_false h1]
    walk_at "dl"
    by_cases h2 : w = Str.ofString "same"
    · rw [decide_eq_true h2]
      walk_at "dl"
      rw [h3]
      walk_at "dl"
    · rw [decide_eq_false h2]
      walk_at "dl"
theorem tie_un {w : Str} {ws : List Str} (acts : D) (hw : ¬ Ml w) (h1 : ¬ w = Str.ofString "apart") (h2 : ¬ w = Str.ofString "same") : Fn.tie_of_7f70 [.lst (.str w :: ws.map .str), acts] = .err NT := by
  unfold Fn.tie_of_7f70; rw [DL.ap_bodyD (by rfl)]; unfold Fn.tie_of_7f70_g
  walk_at "dl"
  rw [in_ml, decide_eq_false (show ¬ (w = Str.ofString "most" ∨ w = Str.ofString "least") from hw)]
  walk_at "dl"
  rw [decide_eq_false h1]
  walk_at "dl"
  rw [decide_eq_false h2]
  walk_at "dl"
theorem tie_any {ws : List Str} (acts : List Str) (hne : ws ≠ []) (hl : ws.length ≤ 3990) (hw : ∀ w ∈ ws, w.length ≤ 1000000) :
    (GoodT acts ws ∧ ∃ o t, Fn.tie_of_7f70 [.lst (ws.map .str), .lst (acts.map .str)] = .ok (o, t)) ∨ (¬ GoodT acts ws ∧ Fn.tie_of_7f70 [.lst (ws.map .str), .lst (acts.map .str)] = .err NT) := by
  match ws, hne with
  | w :: r, _ =>
    by_cases hm : Ml w
    · match r with
      | [] =>
        refine .inr ⟨?_, tie_ml1 hm _⟩
        rintro (⟨_, _, _, e, _⟩ | ⟨_, _, e, _⟩ | ⟨_, _, e, _⟩) <;> cases e
      | [f] =>
        refine .inr ⟨?_, tie_ml2 hm _⟩
        rintro (⟨_, _, _, e, _, h, _⟩ | ⟨_, _, e, _⟩ | ⟨_, _, e, _⟩)
        · cases e; exact h rfl
        · cases e
        · cases e
      | f :: x :: r =>
        rw [List.length_cons, List.length_cons, List.length_cons] at hl
        rcases tie_ml3 (f := f) (x := x) (r := r) hm acts (by omega) (hw f (by simp)) with ⟨h1, h2, h3⟩ | ⟨h1, h3⟩
        · exact .inl ⟨.inl ⟨w, f, x :: r, rfl, hm, by simp, h1, h2⟩, h3⟩
        · refine .inr ⟨?_, h3⟩
          rintro (⟨_, _, _, e, _, _, g1, g2⟩ | ⟨_, _, e, _⟩ | ⟨_, _, e, _⟩)
          · cases e; exact h1 ⟨g1, g2⟩
          · injection e with e _; exact (ml_ne hm).1 e
          · injection e with e _; exact (ml_ne hm).2 e
    · by_cases h2 : r.length = 2
      · obtain ⟨a, b, rfl⟩ : ∃ a b, r = [a, b] := by
          match r, h2 with
          | [a, b], _ => exact ⟨a, b, rfl⟩
        by_cases hA : w = Str.ofString "apart"
        · subst hA
          rcases tie_apart (a := a) (b := b) acts with ⟨h, e⟩ | ⟨h, e⟩
          · exact .inl ⟨.inr (.inl ⟨a, b, rfl, h⟩), e⟩
          · refine .inr ⟨?_, e⟩
            rintro (⟨_, _, _, e, m, _⟩ | ⟨_, _, e, g⟩ | ⟨_, _, e, g⟩)
            · injection e with e _; exact hm (e ▸ m)
            · cases e; exact h g
            · injection e with e _; exact kwA e
        · by_cases hS : w = Str.ofString "same"
          · subst hS
            rcases tie_same (a := a) (b := b) acts with ⟨h, e⟩ | ⟨h, e⟩
            · exact .inl ⟨.inr (.inr ⟨a, b, rfl, h⟩), e⟩
            · refine .inr ⟨?_, e⟩
              rintro (⟨_, _, _, e, m, _⟩ | ⟨_, _, e, g⟩ | ⟨_, _, e, g⟩)
              · injection e with e _; exact hm (e ▸ m)
              · injection e with e _; exact kwA e.symm
              · cases e; exact h g
          · exact .inr ⟨not_good hm hA hS, tie_un _ hm hA hS⟩
      · refine .inr ⟨?_, tie_kw _ hm h2⟩
        rintro (⟨_, _, _, e, m, _⟩ | ⟨_, _, e, _⟩ | ⟨_, _, e, _⟩)
        · injection e with e _; exact hm (e ▸ m)
        · cases e; exact h2 rfl
        · cases e; exact h2 rfl
def prW : List Str → Option (Str × Str)
  | [x, y, z] => if y = Str.ofString "before" then some (x, z) else none
  | _ => none
abbrev St68 := Option (List (Nat × Nat) × Nat)
open Classical in
noncomputable def stepW (acts : List Str) (s : St68) (ws : List Str) : St68 :=
  s.bind fun s => match prW ws with
    | some q => if q.1 ∈ acts ∧ q.2 ∈ acts ∧ (acts.idxOf q.1, acts.idxOf q.2) ∉ s.1 then some (s.1 ++ [(acts.idxOf q.1, acts.idxOf q.2)], s.2) else none
    | none => if GoodT acts ws then some (s.1, s.2 + 1) else none
noncomputable def runW (acts : List Str) (s : St68) (l : List (List Str)) : St68 := l.foldl (stepW acts) s
theorem runW_none (acts : List Str) : ∀ l, runW acts none l = none
  | [] => rfl
  | _ :: l => runW_none acts l
theorem prW_some {ws : List Str} {q : Str × Str} (h : prW ws = some q) : ws = [q.1, Str.ofString "before", q.2] := by
  unfold prW at h
  split at h
  · split at h
    · rename_i e; cases h; rw [e]
    · cases h
  · cases h
theorem callErr {f : List D → R (Bool × D)} {ds : List D} {c : Str} (h : f ds = .err c) : callE f ds = .err c := by unfold callE; rw [h]; rfl
theorem b1_any {acts : List Str} {part : Str} (hl : part.length ≤ 1000000) (hn : (splitL part (Str.ofString " ")).length ≤ 3990) (hw : ∀ w ∈ splitL part (Str.ofString " "), w.length ≤ 1000000) (a b z6 z7 : DL.Slot) (prs : List (Nat × Nat)) (ts : List D) (h1 : prs.length + ts.length ≤ 100000) :
    (∃ prs' ts' y6 y7, stepW acts (some (prs, ts.length)) (splitL part (Str.ofString " ")) = some (prs', ts'.length) ∧ prs'.length + ts'.length = prs.length + ts.length + 1 ∧ ((∀ q ∈ prs, q.1 < acts.length ∧ q.2 < acts.length) → ∀ q ∈ prs', q.1 < acts.length ∧ q.2 < acts.length) ∧ Fn.read_round_c957_b1 [a, b, some (false, .lst (acts.map .str)), some (true, .lst (prs.map dPr)), some (true, .lst ts), some (false, .str part), z6, z7] = .ok (.next [a, b, some (false, .lst (acts.map .str)), some (true, .lst (prs'.map dPr)), some (true, .lst ts'), some (false, .str part), y6, y7])) ∨
    (stepW acts (some (prs, ts.length)) (splitL part (Str.ofString " ")) = none ∧ Fn.read_round_c957_b1 [a, b, some (false, .lst (acts.map .str)), some (true, .lst (prs.map dPr)), some (true, .lst ts), some (false, .str part), z6, z7] = .err NT) := by
  have hne := split_ne part (Str.ofString " ")
  unfold Fn.read_round_c957_b1
  walk_at "dl"
  rw [DL.split_ok (by decide +kernel) (by decide +kernel) (by omega)]
  generalize splitL part (Str.ofString " ") = ws at hn hw hne
  walk_at "dl"
  have fin : prW ws = none → (∃ prs' ts' y6 y7, stepW acts (some (prs, ts.length)) ws = some (prs', ts'.length) ∧ prs'.length + ts'.length = prs.length + ts.length + 1 ∧ ((∀ q ∈ prs, q.1 < acts.length ∧ q.2 < acts.length) → ∀ q ∈ prs', q.1 < acts.length ∧ q.2 < acts.length) ∧ sAppend 4 (nop (aCons (rdE 6) (aCons (rdE 2) aNil)) (callE Fn.tie_of_7f70)) [a, b, some (false, .lst (acts.map .str)), some (true, .lst (prs.map dPr)), some (true, .lst ts), some (false, .str part), some (false, .lst (ws.map .str)), z7] = .ok (.next [a, b, some (false, .lst (acts.map .str)), some (true, .lst (prs'.map dPr)), some (true, .lst ts'), some (false, .str part), y6, y7])) ∨ (stepW acts (some (prs, ts.length)) ws = none ∧ sAppend 4 (nop (aCons (rdE 6) (aCons (rdE 2) aNil)) (callE Fn.tie_of_7f70)) [a, b, some (false, .lst (acts.map .str)), some (true, .lst (prs.map dPr)), some (true, .lst ts), some (false, .str part), some (false, .lst (ws.map .str)), z7] = .err NT) := fun hp => by
    walk_at "dl"
    rcases tie_any acts hne hn hw with ⟨hg, o, t, e⟩ | ⟨hg, e⟩
    · refine .inl ⟨prs, ts ++ [t], some (false, .lst (ws.map .str)), z7, ?_, ?_, fun h => h, ?_⟩
      · unfold stepW
        rw [Option.bind_some, hp]
        dsimp only
        rw [if_pos hg, List.length_append]; rfl
      · rw [List.length_append, List.length_singleton]; omega
      · rw [DL.callE_of e, DL.app_ok (by omega)]
        rfl
    · refine .inr ⟨?_, ?_⟩
      · unfold stepW
        rw [Option.bind_some, hp]
        dsimp only
        rw [if_neg hg]
      · rw [callErr e]
        rfl
  by_cases h3 : ws.length = 3
  · obtain ⟨x, y, z, rfl⟩ : ∃ x y z, ws = [x, y, z] := by
      match ws, h3 with
      | [x, y, z], _ => exact ⟨x, y, z, rfl⟩
    rw [show decide ((([x, y, z].length : Nat) : Int) = 3) = true from rfl]
    walk_at "dl"
    by_cases hy : y = Str.ofString "before"
    · have hp : prW [x, y, z] = some (x, z) := if_pos hy
      rw [decide_eq_true hy]
      walk_at "dl"
      by_cases hx : x ∈ acts
      case neg =>
        refine .inr ⟨?_, ?_⟩
        · unfold stepW
          rw [Option.bind_some, hp]
          dsimp only
          rw [if_neg (fun h => hx h.1)]
        · rw [callErr (place_no hx)]
          rfl
      obtain ⟨o1, e1⟩ := place_in hx
      by_cases hz : z ∈ acts
      case neg =>
        refine .inr ⟨?_, ?_⟩
        · unfold stepW
          rw [Option.bind_some, hp]
          dsimp only
          rw [if_neg (fun h => hz h.2.1)]
        · rw [DL.callE_of e1, callErr (place_no hz)]
          rfl
      obtain ⟨o2, e2⟩ := place_in hz
      rw [DL.callE_of e1, DL.callE_of e2]
      walk_at "dl"
      rw [show D.tup [dN (acts.idxOf x), dN (acts.idxOf z)] = dPr (acts.idxOf x, acts.idxOf z) from rfl, in_pairs]
      by_cases hm : (acts.idxOf x, acts.idxOf z) ∈ prs
      · refine .inr ⟨?_, ?_⟩
        · unfold stepW
          rw [Option.bind_some, hp]
          dsimp only
          rw [if_neg (fun h => h.2.2 hm)]
        · rw [decide_eq_true hm]
          walk_at "dl"
      · rw [decide_eq_false hm]
        walk_at "dl"
        rw [DL.app_ok (by rw [List.length_map]; omega)]
        refine .inl ⟨prs ++ [(acts.idxOf x, acts.idxOf z)], ts, some (false, .lst ([x, y, z].map .str)), some (false, dPr (acts.idxOf x, acts.idxOf z)), ?_, ?_, ?_, ?_⟩
        · unfold stepW
          rw [Option.bind_some, hp]
          dsimp only
          rw [if_pos ⟨hx, hz, hm⟩]
        · rw [List.length_append, List.length_singleton]; omega
        · intro h q hq
          rcases List.mem_append.mp hq with hq | hq
          · exact h q hq
          · rw [List.mem_singleton.mp hq]
            exact ⟨List.idxOf_lt_length_iff.mpr hx, List.idxOf_lt_length_iff.mpr hz⟩
        · rw [List.map_append]
          rfl
    · rw [decide_eq_false hy]
      walk_at "dl"
      exact fin (if_neg hy)
  · rw [decide_eq_false (show ¬ (ws.length : Int) = 3 by omega)]
    walk_at "dl"
    refine fin ?_
    unfold prW
    split
    · exact absurd rfl h3
    · rfl
theorem parts_any {acts : List Str} (a b : DL.Slot) : ∀ (ps : List Str) (prs : List (Nat × Nat)) (ts : List D) (z5 z6 z7 : DL.Slot), (∀ p ∈ ps, p.length ≤ 1000000 ∧ (splitL p (Str.ofString " ")).length ≤ 3990 ∧ ∀ w ∈ splitL p (Str.ofString " "), w.length ≤ 1000000) → prs.length + ts.length + ps.length ≤ 100000 → (∀ q ∈ prs, q.1 < acts.length ∧ q.2 < acts.length) →
    (∃ prs' ts' y5 y6 y7, runW acts (some (prs, ts.length)) (ps.map fun p => splitL p (Str.ofString " ")) = some (prs', ts'.length) ∧ prs'.length + ts'.length = prs.length + ts.length + ps.length ∧ (∀ q ∈ prs', q.1 < acts.length ∧ q.2 < acts.length) ∧ loopD (gSet 5) Fn.read_round_c957_b1 (ps.map D.str) [a, b, some (false, .lst (acts.map .str)), some (true, .lst (prs.map dPr)), some (true, .lst ts), z5, z6, z7] = .ok (.next [a, b, some (false, .lst (acts.map .str)), some (true, .lst (prs'.map dPr)), some (true, .lst ts'), y5, y6, y7])) ∨
    (runW acts (some (prs, ts.length)) (ps.map fun p => splitL p (Str.ofString " ")) = none ∧ loopD (gSet 5) Fn.read_round_c957_b1 (ps.map D.str) [a, b, some (false, .lst (acts.map .str)), some (true, .lst (prs.map dPr)), some (true, .lst ts), z5, z6, z7] = .err NT)
  | [], prs, ts, z5, z6, z7, _, _, hf => .inl ⟨prs, ts, z5, z6, z7, rfl, rfl, hf, rfl⟩
  | p :: ps, prs, ts, z5, z6, z7, hp, hl, hf => by
    rw [List.length_cons] at hl
    obtain ⟨p1, p2, p3⟩ := hp p List.mem_cons_self
    rw [List.map_cons, List.map_cons, DL.ap_loop1]
    unfold runW
    rw [List.foldl_cons]
    rcases b1_any (acts := acts) p1 p2 p3 a b z6 z7 prs ts (by omega) with ⟨prs', ts', y6, y7, e1, e2, e3, e4⟩ | ⟨e1, e4⟩
    · rw [e1]
      have g : lp1 (gSet 5 (D.str p) [a, b, some (false, .lst (acts.map .str)), some (true, .lst (prs.map dPr)), some (true, .lst ts), z5, z6, z7]) (gSet 5) Fn.read_round_c957_b1 (ps.map D.str) = loopD (gSet 5) Fn.read_round_c957_b1 (ps.map D.str) [a, b, some (false, .lst (acts.map .str)), some (true, .lst (prs'.map dPr)), some (true, .lst ts'), some (false, .str p), y6, y7] := by
        show lp2 (Fn.read_round_c957_b1 [a, b, some (false, .lst (acts.map .str)), some (true, .lst (prs.map dPr)), some (true, .lst ts), some (false, .str p), z6, z7]) _ _ _ = _
        rw [e4, DL.lp2_next]
      rw [g]
      rcases parts_any a b ps prs' ts' (some (false, .str p)) y6 y7 (fun q hq => hp q (List.mem_cons_of_mem _ hq)) (by omega) (e3 hf) with ⟨x1, x2, x3, x4, x5, f1, f2, f3, f4⟩ | ⟨f1, f2⟩
      · exact .inl ⟨x1, x2, x3, x4, x5, f1, by rw [List.length_cons]; omega, f3, f4⟩
      · exact .inr ⟨f1, f2⟩
    · rw [e1]
      refine .inr ⟨runW_none acts _, ?_⟩
      show lp2 (Fn.read_round_c957_b1 [a, b, some (false, .lst (acts.map .str)), some (true, .lst (prs.map dPr)), some (true, .lst ts), some (false, .str p), z6, z7]) _ _ _ = _
      rw [e4]; rfl
end Rdx
namespace Tg
open PySem DL Ti De Gw Bi Lc Be Tx
theorem spl_len {S : List Nat} : ∀ (n : Nat) (l acc : List Nat), l.length ≤ n → (TL.spl S 0 acc l).length ≤ l.length + 1 ∧ ∀ w ∈ TL.spl S 0 acc l, w.length ≤ acc.length + l.length
  | n, [], acc, _ => by
    rw [TL.spl_nil]
    exact ⟨by simp, fun w hw => by rw [List.mem_singleton.mp hw]; simp⟩
  | 0, c :: r, acc, h => by simp at h
  | n + 1, c :: r, acc, h => by
    rw [List.length_cons] at h
    cases hp : TL.pre S (c :: r) with
    | true =>
      rw [TL.spl_hit hp, TL.spl_pass]
      obtain ⟨h1, h2⟩ := spl_len (S := S) n (r.drop (S.length - 1)) [] (by rw [List.length_drop]; omega)
      rw [List.length_drop] at h1 h2
      refine ⟨by rw [List.length_cons, List.length_cons]; omega, fun w hw => ?_⟩
      rcases List.mem_cons.mp hw with rfl | hw
      · omega
      · have := h2 w hw
        rw [List.length_nil] at this
        rw [List.length_cons]; omega
    | false =>
      rw [TL.spl_miss hp]
      obtain ⟨h1, h2⟩ := spl_len (S := S) n r (acc ++ [c]) (by omega)
      rw [List.length_cons]
      refine ⟨by omega, fun w hw => ?_⟩
      have := h2 w hw
      rw [List.length_append, List.length_singleton] at this
      omega
theorem split_len (x y : Str) : (splitL x y).length ≤ x.length + 1 ∧ ∀ w ∈ splitL x y, w.length ≤ x.length := by
  have hx : (TL.tl x).length = x.length := rfl
  obtain ⟨h1, h2⟩ := spl_len (S := TL.tl y) (TL.tl x).length (TL.tl x) [] (Nat.le_refl _)
  unfold splitL
  rw [List.length_map]
  refine ⟨by omega, fun w hw => ?_⟩
  obtain ⟨z, hz, rfl⟩ := List.mem_map.mp hw
  have := h2 z hz
  rw [List.length_nil] at this
  have e : (ofL z).length = z.length := rfl
  omega
end Tg
namespace Rdx
open PySem DL Ti De Gw Bi Lc Be Tx Nm En Ro Rs Rre Rue Tg
def HeadOk (ws acts : List Str) : Prop := ws = Str.ofString "steps" :: acts ∧ 1 ≤ acts.length ∧ acts.length ≤ 6 ∧ acts.Nodup ∧ ∀ a ∈ acts, Isn.nameB a = true ∧ a ∉ Nm.keysD
theorem acts_any (x : Str) (hx : x.length ≤ 3900) : (∃ acts o, HeadOk (splitL x (Str.ofString " ")) acts ∧ Fn.acts_of_9cd3 [.str x] = .ok (o, .lst (acts.map .str))) ∨ ((∀ acts, ¬ HeadOk (splitL x (Str.ofString " ")) acts) ∧ Fn.acts_of_9cd3 [.str x] = .err NT) := by
  obtain ⟨hl, hw⟩ := split_len x (Str.ofString " ")
  have hne := split_ne x (Str.ofString " ")
  unfold Fn.acts_of_9cd3; rw [DL.ap_bodyD (by rfl)]; unfold Fn.acts_of_9cd3_g
  walk_at "dl"
  rw [DL.split_ok (by decide +kernel) (by decide +kernel) (by omega)]
  generalize splitL x (Str.ofString " ") = ws at hl hw hne
  match ws, hne with
  | w :: acts, _ =>
  rw [List.length_cons] at hl
  walk_at "dl"
  rw [DL.cut_from (by omega)]
  rw [show (D.str w :: acts.map D.str).drop (1 : Int).toNat = acts.map D.str from rfl]
  walk_at "dl"
  by_cases hs : w = Str.ofString "steps"
  case neg =>
    refine .inr ⟨fun acts' h => ?_, ?_⟩
    · have := h.1; injection this with this _; exact hs this
    · rw [decide_eq_false hs]
      walk_at "dl"
  rw [decide_eq_true hs]
  walk_at "dl"
  have no : ¬ (1 ≤ acts.length ∧ acts.length ≤ 6 ∧ acts.Nodup ∧ ∀ a ∈ acts, Isn.nameB a = true ∧ a ∉ Nm.keysD) → ∀ acts', ¬ HeadOk (w :: acts) acts' := fun h acts' h' => by
    have e := h'.1
    injection e with _ e
    rw [← e] at h'
    exact h h'.2
  by_cases h1 : 1 ≤ acts.length
  case neg =>
    refine .inr ⟨no fun h => h1 h.1, ?_⟩
    rw [decide_eq_false (show ¬ (1 : Int) ≤ acts.length by omega)]
    walk_at "dl"
  rw [decide_eq_true (show (1 : Int) ≤ acts.length by omega)]
  walk_at "dl"
  by_cases h6 : acts.length ≤ 6
  case neg =>
    refine .inr ⟨no fun h => h6 h.2.1, ?_⟩
    rw [decide_eq_false (show ¬ (acts.length : Int) ≤ 6 by omega)]
    walk_at "dl"
  rw [decide_eq_true (show (acts.length : Int) ≤ 6 by omega)]
  walk_at "dl"
  rw [DL.lenT_ok (by omega)]
  walk_at "dl"
  have hul := DL.uT_len acts
  by_cases hn : acts.Nodup
  case neg =>
    refine .inr ⟨no fun h => hn h.2.2.1, ?_⟩
    rw [decide_eq_false (show ¬ ((uT acts).length : Int) = (acts.length : Int) from fun z => hn (uT_iff.mp (by omega)))]
    walk_at "dl"
  rw [decide_eq_true (show ((uT acts).length : Int) = (acts.length : Int) by rw [uT_iff.mpr hn])]
  walk_at "dl"
  have hB : ∀ a, (Isn.nameB a && !decide (a ∈ Nm.keysD)) = true ↔ (Isn.nameB a = true ∧ a ∉ Nm.keysD) := fun a => by
    rw [Bool.and_eq_true, Bool.not_eq_true', decide_eq_false_iff_not]
  have step : ∀ (a : Str) (z : DL.Slot), a.length ≤ 3900 → Fn.acts_of_9cd3_b1 [some (false, .str x), some (false, .lst (D.str w :: acts.map D.str)), some (false, .lst (acts.map .str)), some (false, .str a)] = if (Isn.nameB a && !decide (a ∈ Nm.keysD)) = true then .ok (.next [some (false, .str x), some (false, .lst (D.str w :: acts.map D.str)), some (false, .lst (acts.map .str)), some (false, .str a)]) else .err NT := fun a z ha => by
    obtain ⟨o, e⟩ := Isn.is_name_eq a (by omega)
    unfold Fn.acts_of_9cd3_b1
    walk_at "dl"
    rw [DL.callO_flat e rfl]
    cases hb : Isn.nameB a with
    | false =>
      walk_at "dl"
    | true =>
      walk_at "dl"
      rw [keys_in]
      by_cases hk : a ∈ Nm.keysD
      · rw [decide_eq_true hk]
        walk_at "dl"
      · rw [decide_eq_false hk]
        walk_at "dl"
  have go : ∀ (l : List Str) (z : DL.Slot), (∀ a ∈ l, a.length ≤ 3900) → ((∀ a ∈ l, Isn.nameB a = true ∧ a ∉ Nm.keysD) ∧ ∃ z', loopD (gSet 3) Fn.acts_of_9cd3_b1 (l.map .str) [some (false, .str x), some (false, .lst (D.str w :: acts.map D.str)), some (false, .lst (acts.map .str)), z] = .ok (.next [some (false, .str x), some (false, .lst (D.str w :: acts.map D.str)), some (false, .lst (acts.map .str)), z'])) ∨ (¬ (∀ a ∈ l, Isn.nameB a = true ∧ a ∉ Nm.keysD) ∧ loopD (gSet 3) Fn.acts_of_9cd3_b1 (l.map .str) [some (false, .str x), some (false, .lst (D.str w :: acts.map D.str)), some (false, .lst (acts.map .str)), z] = .err NT) := by
    intro l
    induction l with
    | nil => intro z _; exact .inl ⟨fun a ha => (by cases ha), z, rfl⟩
    | cons a l ih =>
      intro z ha
      have e := step a z (ha a List.mem_cons_self)
      have g : loopD (gSet 3) Fn.acts_of_9cd3_b1 ((a :: l).map .str) [some (false, .str x), some (false, .lst (D.str w :: acts.map D.str)), some (false, .lst (acts.map .str)), z] = lp2 (Fn.acts_of_9cd3_b1 [some (false, .str x), some (false, .lst (D.str w :: acts.map D.str)), some (false, .lst (acts.map .str)), some (false, .str a)]) (gSet 3) Fn.acts_of_9cd3_b1 (l.map .str) := rfl
      rw [g, e]
      by_cases hb : (Isn.nameB a && !decide (a ∈ Nm.keysD)) = true
      · rw [if_pos hb, DL.lp2_next]
        rcases ih (some (false, .str a)) (fun b hb => ha b (List.mem_cons_of_mem _ hb)) with ⟨i1, i2⟩ | ⟨i1, i2⟩
        · refine .inl ⟨fun b hb' => ?_, i2⟩
          rcases List.mem_cons.mp hb' with rfl | hb'
          · exact (hB _).mp hb
          · exact i1 b hb'
        · exact .inr ⟨fun h => i1 fun b hb => h b (List.mem_cons_of_mem _ hb), i2⟩
      · rw [if_neg hb]
        exact .inr ⟨fun h => hb ((hB a).mpr (h a List.mem_cons_self)), rfl⟩
  rcases go acts none (fun a ha => Nat.le_trans (hw a (List.mem_cons_of_mem _ ha)) hx) with ⟨i1, z', i2⟩ | ⟨i1, i2⟩
  · refine .inl ⟨acts, false, ⟨by rw [hs], h1, h6, hn, i1⟩, ?_⟩
    rw [i2]
    walk_at "dl"
    rfl
  · refine .inr ⟨no fun h => i1 h.2.2.2, ?_⟩
    rw [i2]
    walk_at "dl"
def prtsOf (x : Str) : List (List Str) := (splitL x (Str.ofString "; ")).map fun p => splitL p (Str.ofString " ")
def Good (x : Str) (acts : List Str) (prs : List (Nat × Nat)) (m : Nat) : Prop :=
  HeadOk ((prtsOf x).headD []) acts ∧ runW acts (some ([], 0)) (prtsOf x).tail = some (prs, m) ∧ m ≤ 12
theorem read_any (x : Str) (hx : x.length ≤ 3900) :
    (∃ acts prs m, Good x acts prs m ∧ ((Ringed acts.length prs ∧ Fn.read_round_c957 [.str x] = .err (Str.ofString "Ring")) ∨ (¬ Ringed acts.length prs ∧ ∃ o v, Fn.read_round_c957 [.str x] = .ok (o, v)))) ∨ ((∀ acts prs m, ¬ Good x acts prs m) ∧ Fn.read_round_c957 [.str x] = .err NT) := by
  obtain ⟨hl, hw⟩ := split_len x (Str.ofString "; ")
  have hne := split_ne x (Str.ofString "; ")
  unfold Good prtsOf
  unfold Fn.read_round_c957; rw [DL.ap_bodyD (by rfl)]; unfold Fn.read_round_c957_g
  walk_at "dl"
  rw [DL.split_ok (by decide +kernel) (by decide +kernel) (by omega)]
  generalize splitL x (Str.ofString "; ") = ps at hl hw hne
  match ps, hne with
  | h :: ps, _ =>
  rw [List.length_cons] at hl
  walk_at "dl"
  rcases acts_any h (Nat.le_trans (hw h List.mem_cons_self) hx) with ⟨acts, o1, hA, e1⟩ | ⟨hA, e1⟩
  case inr =>
    refine .inr ⟨fun acts _ _ g => hA acts g.1, ?_⟩
    rw [callErr e1]
    rfl
  rw [DL.callE_of e1]
  walk_at "dl"
  rw [DL.cut_from (by omega), show (D.str h :: ps.map D.str).drop (1 : Int).toNat = ps.map D.str from rfl]
  have uni : ∀ acts', HeadOk (splitL h (Str.ofString " ")) acts' → acts' = acts := fun acts' h' => by
    have := h'.1.symm.trans hA.1
    injection this
  rcases parts_any (acts := acts) (some (false, .str x)) (some (false, .lst (D.str h :: ps.map D.str))) ps [] [] none none none (fun p hp => by
    have h1 := hw p (List.mem_cons_of_mem _ hp)
    obtain ⟨h2, h3⟩ := split_len p (Str.ofString " ")
    exact ⟨by omega, by omega, fun w hw => by have := h3 w hw; omega⟩) (by simp; omega) (fun q hq => by cases hq) with ⟨prs, ts, y5, y6, y7, f1, f2, f3, f4⟩ | ⟨f1, f2⟩
  case inr =>
    refine .inr ⟨fun acts' prs m g => ?_, ?_⟩
    · have := uni acts' g.1
      subst this
      have g2 := g.2.1
      rw [List.tail_cons] at g2
      have f1 : runW acts' (some ([], 0)) (ps.map fun p => splitL p (Str.ofString " ")) = none := f1
      rw [f1] at g2
      cases g2
    · have f2 : loopD (gSet 5) Fn.read_round_c957_b1 (ps.map D.str) [some (false, .str x), some (false, .lst (D.str h :: ps.map D.str)), some (false, .lst (acts.map .str)), some (true, .lst []), some (true, .lst []), none, none, none] = .err NT := f2
      rw [f2]
      walk_at "dl"
  have f4 : loopD (gSet 5) Fn.read_round_c957_b1 (ps.map D.str) [some (false, .str x), some (false, .lst (D.str h :: ps.map D.str)), some (false, .lst (acts.map .str)), some (true, .lst []), some (true, .lst []), none, none, none] = .ok (.next [some (false, .str x), some (false, .lst (D.str h :: ps.map D.str)), some (false, .lst (acts.map .str)), some (true, .lst (prs.map dPr)), some (true, .lst ts), y5, y6, y7]) := f4
  have f1 : runW acts (some ([], 0)) (ps.map fun p => splitL p (Str.ofString " ")) = some (prs, ts.length) := f1
  rw [f4]
  walk_at "dl"
  by_cases h12 : 12 < ts.length
  · refine .inr ⟨fun acts' prs' m g => ?_, ?_⟩
    · have := uni acts' g.1
      subst this
      have g2 := g.2.1
      rw [List.tail_cons, f1] at g2
      injection g2 with g2
      injection g2 with _ g2
      have := g.2.2
      omega
    · rw [decide_eq_true (by omega)]
      walk_at "dl"
  rw [decide_eq_false (by omega)]
  walk_at "dl"
  refine .inl ⟨acts, prs, ts.length, ⟨hA, f1, by omega⟩, ?_⟩
  obtain ⟨o2, found, e2, hf⟩ := ring_any hA.2.2.1 (show Or.Fit prs acts.length from f3)
  rw [DL.callE_of e2]
  walk_at "dl"
  rw [Rg.eq_nil (neg := true) (a := found)]
  by_cases hr : Ringed acts.length prs
  · have hne : ¬ found = [] := fun z => hf.mp z hr
    refine .inl ⟨hr, ?_⟩
    rw [decide_eq_false hne]
    walk_at "dl"
  · refine .inr ⟨hr, ?_⟩
    rw [decide_eq_true (hf.mpr hr)]
    walk_at "dl"
    exact ⟨_, _, rfl⟩
theorem read_not {x : Str} (hx : x.length ≤ 3900) (h : ∀ acts prs m, ¬ Good x acts prs m) : Fn.read_round_c957 [.str x] = .err NT := by
  rcases read_any x hx with ⟨a, p, m, g, _⟩ | ⟨_, e⟩
  · exact absurd g (h a p m)
  · exact e
end Rdx
namespace Rdx
open PySem DL Ti De Gw Bi Lc Be Tx Nm En Ro Rs Rre Rue Tg
theorem wrd_name {w : Str} (h : Isn.nameB w = true) : Wrd (TL.tl w) := by
  unfold Isn.nameB at h
  rw [Bool.and_eq_true, decide_eq_true_eq, List.all_eq_true] at h
  refine ⟨fun z => ?_, fun c hc => ?_⟩
  · have e : (TL.tl w).length = w.cps.size := rfl
    rw [z] at e
    have := h.1.1
    rw [← e] at this
    simp at this
  · have := h.2 c hc
    unfold Isn.letB at this
    rw [decide_eq_true_eq] at this
    unfold sg
    rw [decide_eq_true this.1, decide_eq_true this.2]; rfl
theorem wrd_dec {w : List Nat} (h : (!w.isEmpty && w.all sg) = true) : Wrd w := by
  rw [Bool.and_eq_true, List.all_eq_true] at h
  refine ⟨fun z => ?_, h.2⟩
  rw [z] at h
  exact absurd h.1 (by decide)
theorem wrd_fig {f : Str} (h : Fig f) : Wrd (TL.tl f) := by
  obtain ⟨c, rfl, h⟩ := h
  have e : (Str.ofString "123456").cps.toList = [49, 50, 51, 52, 53, 54] := by decide +kernel
  rw [e] at h
  refine ⟨(fun z => by cases z), fun d hd => ?_⟩
  have hd : d = c := List.mem_singleton.mp hd
  rw [hd]
  simp at h
  rcases h with rfl | rfl | rfl | rfl | rfl | rfl <;> decide
theorem step_words {acts : List Str} {s t : List (Nat × Nat) × Nat} {ws : List Str} (hA : ∀ a ∈ acts, Wrd (TL.tl a)) (h : stepW acts (some s) ws = some t) : ws ≠ [] ∧ ∀ w ∈ ws, Wrd (TL.tl w) := by
  unfold stepW at h
  rw [Option.bind_some] at h
  cases hp : prW ws with
  | some q =>
    rw [hp] at h
    dsimp only at h
    split at h
    · rename_i hq
      rw [prW_some hp]
      refine ⟨by simp, fun w hw => ?_⟩
      simp only [List.mem_cons, List.not_mem_nil, or_false] at hw
      rcases hw with rfl | rfl | rfl
      · exact hA _ hq.1
      · exact wrd_dec (by decide +kernel)
      · exact hA _ hq.2.1
    · cases h
  | none =>
    rw [hp] at h
    dsimp only at h
    split at h
    · rename_i hg
      rcases hg with ⟨w, f, r, rfl, hm, hr, hf, hP⟩ | ⟨a, b, rfl, hP⟩ | ⟨a, b, rfl, hP⟩
      · refine ⟨by simp, fun v hv => ?_⟩
        rcases List.mem_cons.mp hv with rfl | hv
        · rcases hm with rfl | rfl <;> exact wrd_dec (by decide +kernel)
        · rcases List.mem_cons.mp hv with rfl | hv
          · exact wrd_fig hf
          · exact hA _ (hP.2 v hv)
      · refine ⟨by simp, fun v hv => ?_⟩
        rcases List.mem_cons.mp hv with rfl | hv
        · exact wrd_dec (by decide +kernel)
        · exact hA _ (hP.2 v hv)
      · refine ⟨by simp, fun v hv => ?_⟩
        rcases List.mem_cons.mp hv with rfl | hv
        · exact wrd_dec (by decide +kernel)
        · exact hA _ (hP.2 v hv)
    · cases h
theorem runW_cons (acts : List Str) (s : St68) (w : List Str) (l : List (List Str)) : runW acts s (w :: l) = runW acts (stepW acts s w) l := rfl
theorem runW_app (acts : List Str) (s : St68) (a b : List (List Str)) : runW acts s (a ++ b) = runW acts (runW acts s a) b := by unfold runW; rw [List.foldl_append]
theorem run_words {acts : List Str} (hA : ∀ a ∈ acts, Wrd (TL.tl a)) : ∀ {l : List (List Str)} {s t : List (Nat × Nat) × Nat}, runW acts (some s) l = some t → ∀ ws ∈ l, ws ≠ [] ∧ ∀ w ∈ ws, Wrd (TL.tl w)
  | [], _, _, _, ws, h => by cases h
  | v :: l, s, t, h, ws, hws => by
    rw [runW_cons] at h
    cases e : stepW acts (some s) v with
    | none => rw [e, runW_none] at h; cases h
    | some s' =>
      rw [e] at h
      rcases List.mem_cons.mp hws with rfl | hws
      · exact step_words hA e
      · exact run_words hA h ws hws
theorem good_gram {x : Str} {acts : List Str} {prs : List (Nat × Nat)} {m : Nat} (h : Good x acts prs m) : gram (TL.tl x) = true := by
  obtain ⟨hA, hr, _⟩ := h
  have hw : ∀ a ∈ acts, Wrd (TL.tl a) := fun a ha => wrd_name (hA.2.2.2.2 a ha).1
  have hps : ∀ p ∈ splitL x (Str.ofString "; "), gram (TL.tl p) = true := fun p hp => by
    have hmem : splitL p (Str.ofString " ") ∈ prtsOf x := List.mem_map.mpr ⟨p, hp, rfl⟩
    have hws : splitL p (Str.ofString " ") ≠ [] ∧ ∀ w ∈ splitL p (Str.ofString " "), Wrd (TL.tl w) := by
      cases e : prtsOf x with
      | nil => rw [e] at hmem; cases hmem
      | cons hd tl =>
        rw [e] at hmem hA hr
        rcases List.mem_cons.mp hmem with e2 | hm
        · rw [e2]
          have h1 := hA.1
          rw [List.headD_cons] at h1
          rw [h1]
          refine ⟨by simp, fun w hw' => ?_⟩
          rcases List.mem_cons.mp hw' with rfl | hw'
          · exact wrd_dec (by decide +kernel)
          · exact hw w hw'
        · exact run_words hw hr _ hm
    rw [← split_back p (y := Str.ofString " ") (by decide +kernel), TL.tl_join, Rre.tl_sp]
    refine gram_joinW (by simpa using hws.1) fun w hw' => ?_
    obtain ⟨z, hz, rfl⟩ := List.mem_map.mp hw'
    exact hws.2 z hz
  rw [← split_back x (y := Str.ofString "; ") (by decide +kernel), TL.tl_join, Rre.tl_semi]
  refine gram_joinP (by simpa using split_ne x _) fun w hw' => ?_
  obtain ⟨z, hz, rfl⟩ := List.mem_map.mp hw'
  exact hps z hz
theorem not_gram {x : Str} (h : gr (TL.tl x) = false) : ∀ acts prs m, ¬ Good x acts prs m := fun _ _ _ g => by
  have := good_gram g
  rw [gram_not h] at this
  cases this
theorem not_gram1 {x : Str} (h : gram (TL.tl x) = false) : ∀ acts prs m, ¬ Good x acts prs m := fun _ _ _ g => by
  have := good_gram g
  rw [h] at this
  cases this
theorem step_mono {acts : List Str} {s t : List (Nat × Nat) × Nat} {ws : List Str} (h : stepW acts (some s) ws = some t) : s.2 ≤ t.2 := by
  unfold stepW at h
  rw [Option.bind_some] at h
  cases hp : prW ws with
  | some q =>
    rw [hp] at h
    dsimp only at h
    split at h
    · cases h; exact Nat.le_refl _
    · cases h
  | none =>
    rw [hp] at h
    dsimp only at h
    split at h
    · cases h; exact Nat.le_succ _
    · cases h
theorem run_mono {acts : List Str} : ∀ {l : List (List Str)} {s t : List (Nat × Nat) × Nat}, runW acts (some s) l = some t → s.2 ≤ t.2
  | [], s, t, h => by cases h; exact Nat.le_refl _
  | v :: l, s, t, h => by
    rw [runW_cons] at h
    cases e : stepW acts (some s) v with
    | none => rw [e, runW_none] at h; cases h
    | some s' =>
      rw [e] at h
      exact Nat.le_trans (step_mono e) (run_mono h)
def Blk (acts : List Str) (b : List (List Str)) : Prop := ∀ s t, runW acts (some s) b = some t → 13 ≤ t.2
theorem run_blk {acts : List Str} {a b c : List (List Str)} {s t : List (Nat × Nat) × Nat} (hb : Blk acts b) (h : runW acts (some s) (a ++ b ++ c) = some t) : 13 ≤ t.2 := by
  rw [runW_app, runW_app] at h
  cases e : runW acts (some s) a with
  | none => rw [e, runW_none, runW_none] at h; cases h
  | some s1 =>
    rw [e] at h
    cases e2 : runW acts (some s1) b with
    | none => rw [e2, runW_none] at h; cases h
    | some s2 =>
      rw [e2] at h
      exact Nat.le_trans (hb s1 s2 e2) (run_mono h)
theorem blk_none {acts : List Str} {ws : List Str} (h : ∀ s, stepW acts (some s) ws = none) : Blk acts [ws] := fun s t e => by
  rw [runW_cons, h] at e
  cases e
theorem step_none {acts : List Str} {ws : List Str} (hp : prW ws = none) (hg : ¬ GoodT acts ws) (s : List (Nat × Nat) × Nat) : stepW acts (some s) ws = none := by
  unfold stepW
  rw [Option.bind_some, hp]
  dsimp only
  rw [if_neg hg]
theorem prW_len {ws : List Str} (h : ws.length ≠ 3) : prW ws = none := by
  unfold prW
  split
  · exact absurd rfl h
  · rfl
theorem prW_mid {u y v : Str} (h : y ≠ Str.ofString "before") : prW [u, y, v] = none := if_neg h
theorem prts_join {l : List Str} (hne : l ≠ []) (h : ∀ p ∈ l, (59 : Nat) ∉ TL.tl p) : prtsOf (Str.join (Str.ofString "; ") l) = l.map fun p => splitL p (Str.ofString " ") := by
  unfold prtsOf
  rw [DL.split_join Rre.tl_semi hne h]
theorem bad_blk {acts : List Str} {hd : Str} {A B C : List Str} (h : ∀ p ∈ hd :: (A ++ B ++ C), (59 : Nat) ∉ TL.tl p) (hh : splitL hd (Str.ofString " ") = Str.ofString "steps" :: acts) (hB : Blk acts (B.map fun p => splitL p (Str.ofString " "))) : ∀ a p m, ¬ Good (Str.join (Str.ofString "; ") (hd :: (A ++ B ++ C))) a p m := fun a p m g => by
  unfold Good at g
  rw [prts_join (by simp) h, List.map_cons, List.headD_cons, List.tail_cons, hh] at g
  obtain ⟨g1, g2, g3⟩ := g
  have e := g1.1
  injection e with _ e
  subst e
  rw [List.map_append, List.map_append] at g2
  have := run_blk hB g2
  dsimp only at this
  omega
theorem bad_head {hd : Str} {A ws : List Str} (h : ∀ p ∈ hd :: A, (59 : Nat) ∉ TL.tl p) (hh : splitL hd (Str.ofString " ") = ws) (hw : ∀ acts, ¬ HeadOk ws acts) : ∀ a p m, ¬ Good (Str.join (Str.ofString "; ") (hd :: A)) a p m := fun a p m g => by
  unfold Good at g
  rw [prts_join (by simp) h, List.map_cons, List.headD_cons, hh] at g
  exact hw _ g.1
theorem joinL_app (S : List Nat) : ∀ (a b : List (List Nat)), a ≠ [] → b ≠ [] → TL.joinL S (a ++ b) = TL.joinL S a ++ (S ++ TL.joinL S b)
  | [], _, h, _ => absurd rfl h
  | [x], y :: b, _, _ => rfl
  | [x], [], _, h => absurd rfl h
  | x :: z :: a, b, _, h => by
    show x ++ (S ++ TL.joinL S ((z :: a) ++ b)) = _
    rw [joinL_app S (z :: a) b (by simp) h]
    show _ = x ++ (S ++ TL.joinL S (z :: a)) ++ (S ++ TL.joinL S b)
    simp only [List.append_assoc]
theorem joinL_flat (S : List Nat) (a b c : List (List Nat)) (hb : b ≠ []) : TL.joinL S (a ++ [TL.joinL S b] ++ c) = TL.joinL S (a ++ b ++ c) := by
  have key : TL.joinL S ([TL.joinL S b] ++ c) = TL.joinL S (b ++ c) := by
    cases c with
    | nil => rw [List.append_nil, List.append_nil]; rfl
    | cons y c =>
      rw [joinL_app S b (y :: c) hb (by simp)]
      rfl
  cases a with
  | nil => exact key
  | cons x a =>
    rw [List.append_assoc, List.append_assoc, joinL_app S (x :: a) ([TL.joinL S b] ++ c) (by simp) (by simp), joinL_app S (x :: a) (b ++ c) (by simp) (by simp [hb]), key]
theorem join_flat (y : Str) (a b c : List Str) (hb : b ≠ []) : Str.join y (a ++ [Str.join y b] ++ c) = Str.join y (a ++ b ++ c) := TL.ext_tl (by
  rw [TL.tl_join, TL.tl_join]
  simp only [List.map_append, List.map_cons, List.map_nil]
  rw [TL.tl_join, joinL_flat _ _ _ _ (by simpa using hb)])
def Bd (acts : List Str) (t : Str) : Prop :=
  (∃ B, B ≠ [] ∧ t = Str.join (Str.ofString "; ") B ∧ (∀ p ∈ B, (59 : Nat) ∉ TL.tl p) ∧ Blk acts (B.map fun p => splitL p (Str.ofString " "))) ∨ (∃ u d v, TL.tl t = u ++ 59 :: d :: v ∧ d ≠ 32) ∨ ∃ u, TL.tl t = u ++ [59]
theorem bad_mid {acts : List Str} {hd t : Str} {A C : List Str} (h : ∀ p ∈ hd :: (A ++ C), (59 : Nat) ∉ TL.tl p) (hh : splitL hd (Str.ofString " ") = Str.ofString "steps" :: acts) (hB : Bd acts t) : ∀ a p m, ¬ Good (Str.join (Str.ofString "; ") (hd :: (A ++ [t] ++ C))) a p m := by
  have tle : TL.tl (Str.join (Str.ofString "; ") (hd :: (A ++ [t] ++ C))) = TL.joinL [59, 32] ((hd :: A).map TL.tl) ++ ([59, 32] ++ TL.joinL [59, 32] (TL.tl t :: C.map TL.tl)) := by
    rw [TL.tl_join, Rre.tl_semi, ← joinL_app _ _ _ (by simp) (by simp)]
    simp
  have tle2 : TL.joinL [59, 32] (TL.tl t :: C.map TL.tl) = TL.tl t ∨ ∃ r, TL.joinL [59, 32] (TL.tl t :: C.map TL.tl) = TL.tl t ++ 59 :: r := by
    cases C with
    | nil => exact .inl rfl
    | cons c C => exact .inr ⟨_, rfl⟩
  rcases hB with ⟨B, hne, rfl, h9, hb⟩ | ⟨u, d, v, e, hd⟩ | ⟨u, e⟩
  · have e := join_flat (Str.ofString "; ") (hd :: A) B C hne
    rw [List.cons_append, List.cons_append, List.cons_append, List.cons_append] at e
    rw [e]
    refine bad_blk (fun p hp => ?_) hh hb
    rcases List.mem_cons.mp hp with rfl | hp
    · exact h _ List.mem_cons_self
    · rcases List.mem_append.mp hp with hp | hp
      · rcases List.mem_append.mp hp with hp | hp
        · exact h p (List.mem_cons_of_mem _ (List.mem_append_left _ hp))
        · exact h9 p hp
      · exact h p (List.mem_cons_of_mem _ (List.mem_append_right _ hp))
  · refine not_gram ?_
    rw [tle]
    generalize TL.joinL [59, 32] ((_ :: A).map TL.tl) = P
    rcases tle2 with e2 | ⟨r, e2⟩
    · rw [e2, e, show P ++ ([59, 32] ++ (u ++ 59 :: d :: v)) = (P ++ ([59, 32] ++ u)) ++ 59 :: d :: v by simp]
      exact gr_not_semi hd
    · rw [e2, e, show P ++ ([59, 32] ++ (u ++ 59 :: d :: v ++ 59 :: r)) = (P ++ ([59, 32] ++ u)) ++ 59 :: d :: (v ++ 59 :: r) by simp]
      exact gr_not_semi hd
  · refine not_gram ?_
    rw [tle]
    generalize TL.joinL [59, 32] ((_ :: A).map TL.tl) = P
    rcases tle2 with e2 | ⟨r, e2⟩
    · rw [e2, e, show P ++ ([59, 32] ++ (u ++ [59])) = (P ++ ([59, 32] ++ u)) ++ [59] by simp]
      exact gr_not_end2
    · rw [e2, e, show P ++ ([59, 32] ++ (u ++ [59] ++ 59 :: r)) = (P ++ ([59, 32] ++ u)) ++ 59 :: 59 :: r by simp]
      exact gr_not_semi (by decide)
theorem bd_words {acts : List Str} {t : Str} {ws : List Str} (hne : ws ≠ []) (e : t = Str.join (Str.ofString " ") ws) (hw : ∀ w ∈ ws, Wd w) (h : ∀ s, stepW acts (some s) ws = none) : Bd acts t := by
  refine .inl ⟨[t], by simp, ?_, ?_, ?_⟩
  · exact TL.ext_tl (by rw [TL.tl_join]; rfl)
  · intro p hp
    rw [List.mem_singleton.mp hp, e]
    exact no_semi hw
  · rw [List.map_cons, List.map_nil, e, DL.split_join Rre.tl_sp hne fun w hw' => (hw w hw').1]
    exact blk_none h
theorem ac_pl {acts : List Str} (A : ActsOk acts) {r : List Nat} (hr : r.Nodup) (hm : ∀ k ∈ r, k < acts.length) : Pl acts (r.map (ac acts)) := by
  refine ⟨?_, fun w hw => ?_⟩
  · unfold List.Nodup
    rw [List.pairwise_map]
    refine hr.imp_of_mem fun {a b} ha hb hne e => hne ?_
    rw [← idx_ac A.nd (hm a ha), ← idx_ac A.nd (hm b hb), e]
  · obtain ⟨k, hk, rfl⟩ := List.mem_map.mp hw
    exact ac_mem (hm k hk)
theorem num_fig {m : Nat} (h1 : 1 ≤ m) (h2 : m ≤ 6) : Fig (num (m : Int)) := by
  rcases (by omega : m = 1 ∨ m = 2 ∨ m = 3 ∨ m = 4 ∨ m = 5 ∨ m = 6) with rfl | rfl | rfl | rfl | rfl | rfl
  · exact ⟨49, by decide +kernel, by decide +kernel⟩
  · exact ⟨50, by decide +kernel, by decide +kernel⟩
  · exact ⟨51, by decide +kernel, by decide +kernel⟩
  · exact ⟨52, by decide +kernel, by decide +kernel⟩
  · exact ⟨53, by decide +kernel, by decide +kernel⟩
  · exact ⟨54, by decide +kernel, by decide +kernel⟩
theorem step_part {acts : List Str} (A : ActsOk acts) {p : Part} (h : PIn acts.length p) (prs : List (Nat × Nat)) (m : Nat) (hq : ∀ q, pairOf p = some q → q ∉ prs) : stepW acts (some (prs, m)) (wds acts p) = some (prs ++ (pairOf p).toList, m + (tieOf p).toList.length) := by
  have two : ∀ i j, i < acts.length → j < acts.length → i ≠ j → Pl acts [ac acts i, ac acts j] := fun i j hi hj hij => by
    have := ac_pl A (r := [i, j]) (by simp [hij]) (fun k hk => by
      rcases List.mem_cons.mp hk with rfl | hk
      · exact hi
      · rw [List.mem_singleton.mp hk]; exact hj)
    exact this
  unfold stepW
  rw [Option.bind_some]
  cases p with
  | pair i j =>
    have e : prW (wds acts (.pair i j)) = some (ac acts i, ac acts j) := by
      show (if Str.ofString "before" = Str.ofString "before" then some (ac acts i, ac acts j) else none) = _
      rw [if_pos rfl]
    rw [e]
    dsimp only
    rw [idx_ac A.nd h.1, idx_ac A.nd h.2.1, if_pos ⟨ac_mem h.1, ac_mem h.2.1, hq _ rfl⟩]
    rfl
  | apart i j =>
    have e : prW (wds acts (.apart i j)) = none := prW_mid (ac_ne A h.1)
    rw [e]
    dsimp only
    rw [if_pos (show GoodT acts (wds acts (.apart i j)) from .inr (.inl ⟨_, _, rfl, two i j h.1 h.2.1 h.2.2⟩)), show (pairOf (.apart i j)).toList = [] from rfl, List.append_nil]
    rfl
  | same i j =>
    have e : prW (wds acts (.same i j)) = none := prW_mid (ac_ne A h.1)
    rw [e]
    dsimp only
    rw [if_pos (show GoodT acts (wds acts (.same i j)) from .inr (.inr ⟨_, _, rfl, two i j h.1 h.2.1 h.2.2⟩)), show (pairOf (.same i j)).toList = [] from rfl, List.append_nil]
    rfl
  | tie w n s r =>
    obtain ⟨T, hr⟩ := h
    have hsn : r.Nodup := hr.nodup_iff.mpr (T.up.imp fun h => Nat.ne_of_lt h)
    have e : prW (wds acts (.tie w n s r)) = none := by
      unfold wds prW
      split
      · rename_i hh
        injection hh with _ hh
        injection hh with hh _
        rw [if_neg (by rw [← hh]; exact num_ne T.lo.1 T.lo.2)]
      · rfl
    rw [e]
    dsimp only
    have hne : r ≠ [] := fun z => T.ne (by rw [z] at hr; exact hr.nil_eq.symm)
    rw [if_pos (show GoodT acts (wds acts (.tie w n s r)) from .inl ⟨W w, num (n : Int), r.map (ac acts), rfl, (by cases w; exact .inl rfl; exact .inr rfl), by simpa using hne, num_fig T.lo.1 T.lo.2, ac_pl A hsn fun k hk => T.mem k (hr.mem_iff.mp hk)⟩), show (pairOf (.tie w n s r)).toList = [] from rfl, List.append_nil]
    rfl
theorem run_parts {acts : List Str} (A : ActsOk acts) : ∀ (ps : List Part) (prs : List (Nat × Nat)) (m : Nat), (∀ p ∈ ps, PIn acts.length p) → (prs ++ pairsOf ps).Nodup → runW acts (some (prs, m)) (ps.map (wds acts)) = some (prs ++ pairsOf ps, m + (tiesOf ps).length)
  | [], prs, m, _, _ => by
    rw [show pairsOf [] = [] from rfl, List.append_nil]; rfl
  | p :: ps, prs, m, hp, hn => by
    rw [pairs_cons, ← List.append_assoc] at hn
    have hq : ∀ q, pairOf p = some q → q ∉ prs := fun q hq hm => by
      rw [hq] at hn
      have := (List.nodup_append.mp hn).1
      exact (List.nodup_append.mp this).2.2 q hm q List.mem_cons_self rfl
    rw [List.map_cons, runW_cons, step_part A (hp p List.mem_cons_self) prs m hq, run_parts A ps _ _ (fun q hq => hp q (List.mem_cons_of_mem _ hq)) hn, pairs_cons, ties_cons, List.append_assoc, List.length_append, Nat.add_assoc]
theorem head_split {acts : List Str} (A : ActsOk acts) : splitL (head acts) (Str.ofString " ") = Str.ofString "steps" :: acts := by
  unfold head
  refine DL.split_join tl_sp (by simp) fun p hp => (head_wd A p hp).1
theorem name_b {x : Str} (h : NmOk x) : Isn.nameB x = true := by
  obtain ⟨h1, h2, h3, _⟩ := h
  unfold Isn.nameB
  rw [decide_eq_true (show 1 ≤ x.cps.size ∧ x.cps.size ≤ 8 from ⟨h2, h3⟩), Bool.true_and, List.all_eq_true]
  exact fun c hc => decide_eq_true (h1 c hc)
theorem good_text {acts : List Str} (A : ActsOk acts) (h1 : 1 ≤ acts.length) (h6 : acts.length ≤ 6) {ps : List Part} (P : ∀ p ∈ ps, PIn acts.length p) (hn : (pairsOf ps).Nodup) (ht : (tiesOf ps).length ≤ 12) : Good (rtxs acts ps []) acts (pairsOf ps) (tiesOf ps).length := by
  unfold Good prtsOf
  rw [text_split A P (fun _ h => by cases h), List.append_nil, List.map_cons, List.headD_cons, List.tail_cons, head_split A]
  refine ⟨⟨rfl, h1, h6, A.nd, fun a ha => ⟨name_b (A.ok a ha), (A.ok a ha).2.2.2⟩⟩, ?_, ht⟩
  have e : (ps.map (ptx acts)).map (fun p => splitL p (Str.ofString " ")) = ps.map (wds acts) := by
    rw [List.map_map]
    exact List.map_congr_left fun p hp => ptx_split A (P p hp)
  rw [e]
  have := run_parts A ps [] 0 P (by rw [List.nil_append]; exact hn)
  rw [List.nil_append, Nat.zero_add] at this
  exact this
end Rdx
namespace Rdx
open PySem DL Ti De Gw Bi Lc Be Tx Nm En Ro Rs Rre Rue Tg
theorem t_e : TL.tl (Str.ofString "") = [] := by decide +kernel
theorem t__32 : TL.tl (Str.ofString " ") = [32] := by decide +kernel
theorem t__32_32before_32 : TL.tl (Str.ofString "  before ") = [32, 32, 98, 101, 102, 111, 114, 101, 32] := by decide +kernel
theorem t__32before : TL.tl (Str.ofString " before") = [32, 98, 101, 102, 111, 114, 101] := by decide +kernel
theorem t__32before_32 : TL.tl (Str.ofString " before ") = [32, 98, 101, 102, 111, 114, 101, 32] := by decide +kernel
theorem t__32behind_32 : TL.tl (Str.ofString " behind ") = [32, 98, 101, 104, 105, 110, 100, 32] := by decide +kernel
theorem t__32most_321_32 : TL.tl (Str.ofString " most 1 ") = [32, 109, 111, 115, 116, 32, 49, 32] := by decide +kernel
theorem t__431 : TL.tl (Str.ofString "+1") = [43, 49] := by decide +kernel
theorem t__451 : TL.tl (Str.ofString "-1") = [45, 49] := by decide +kernel
theorem t_0 : TL.tl (Str.ofString "0") = [48] := by decide +kernel
theorem t_1 : TL.tl (Str.ofString "1") = [49] := by decide +kernel
theorem t_1_32most_32 : TL.tl (Str.ofString "1 most ") = [49, 32, 109, 111, 115, 116, 32] := by decide +kernel
theorem t_12 : TL.tl (Str.ofString "12") = [49, 50] := by decide +kernel
theorem t_1_95 : TL.tl (Str.ofString "1_") = [49, 95] := by decide +kernel
theorem t_6 : TL.tl (Str.ofString "6") = [54] := by decide +kernel
theorem t_7 : TL.tl (Str.ofString "7") = [55] := by decide +kernel
theorem t__59 : TL.tl (Str.ofString ";") = [59] := by decide +kernel
theorem t__59_32 : TL.tl (Str.ofString "; ") = [59, 32] := by decide +kernel
theorem t_Most : TL.tl (Str.ofString "Most") = [77, 111, 115, 116] := by decide +kernel
theorem t_Most_321_32 : TL.tl (Str.ofString "Most 1 ") = [77, 111, 115, 116, 32, 49, 32] := by decide +kernel
theorem t_apart : TL.tl (Str.ofString "apart") = [97, 112, 97, 114, 116] := by decide +kernel
theorem t_apart_32 : TL.tl (Str.ofString "apart ") = [97, 112, 97, 114, 116, 32] := by decide +kernel
theorem t_before : TL.tl (Str.ofString "before") = [98, 101, 102, 111, 114, 101] := by decide +kernel
theorem t_before_32 : TL.tl (Str.ofString "before ") = [98, 101, 102, 111, 114, 101, 32] := by decide +kernel
theorem t_behind : TL.tl (Str.ofString "behind") = [98, 101, 104, 105, 110, 100] := by decide +kernel
theorem t_least : TL.tl (Str.ofString "least") = [108, 101, 97, 115, 116] := by decide +kernel
theorem t_least_32_431_32 : TL.tl (Str.ofString "least +1 ") = [108, 101, 97, 115, 116, 32, 43, 49, 32] := by decide +kernel
theorem t_least_321_32 : TL.tl (Str.ofString "least 1 ") = [108, 101, 97, 115, 116, 32, 49, 32] := by decide +kernel
theorem t_least_3212_32 : TL.tl (Str.ofString "least 12 ") = [108, 101, 97, 115, 116, 32, 49, 50, 32] := by decide +kernel
theorem t_most : TL.tl (Str.ofString "most") = [109, 111, 115, 116] := by decide +kernel
theorem t_most_32 : TL.tl (Str.ofString "most ") = [109, 111, 115, 116, 32] := by decide +kernel
theorem t_most_32_451_32 : TL.tl (Str.ofString "most -1 ") = [109, 111, 115, 116, 32, 45, 49, 32] := by decide +kernel
theorem t_most_320_32 : TL.tl (Str.ofString "most 0 ") = [109, 111, 115, 116, 32, 48, 32] := by decide +kernel
theorem t_most_321 : TL.tl (Str.ofString "most 1") = [109, 111, 115, 116, 32, 49] := by decide +kernel
theorem t_most_321_32 : TL.tl (Str.ofString "most 1 ") = [109, 111, 115, 116, 32, 49, 32] := by decide +kernel
theorem t_most_321_32_32 : TL.tl (Str.ofString "most 1  ") = [109, 111, 115, 116, 32, 49, 32, 32] := by decide +kernel
theorem t_most_321_59 : TL.tl (Str.ofString "most 1;") = [109, 111, 115, 116, 32, 49, 59] := by decide +kernel
theorem t_most_321_95_32 : TL.tl (Str.ofString "most 1_ ") = [109, 111, 115, 116, 32, 49, 95, 32] := by decide +kernel
theorem t_most_326 : TL.tl (Str.ofString "most 6") = [109, 111, 115, 116, 32, 54] := by decide +kernel
theorem t_most_327_32 : TL.tl (Str.ofString "most 7 ") = [109, 111, 115, 116, 32, 55, 32] := by decide +kernel
theorem t_same : TL.tl (Str.ofString "same") = [115, 97, 109, 101] := by decide +kernel
theorem t_same_32 : TL.tl (Str.ofString "same ") = [115, 97, 109, 101, 32] := by decide +kernel
theorem t_steps : TL.tl (Str.ofString "steps") = [115, 116, 101, 112, 115] := by decide +kernel
theorem t_steps_32 : TL.tl (Str.ofString "steps ") = [115, 116, 101, 112, 115, 32] := by decide +kernel
theorem fa_nil {P : Str → Prop} : ∀ v ∈ ([] : List Str), P v := fun _ h => nomatch h
theorem fa {P : Str → Prop} {w : Str} {l : List Str} (h : P w) (t : ∀ v ∈ l, P v) : ∀ v ∈ w :: l, P v := List.forall_mem_cons.mpr ⟨h, t⟩
theorem nk {w : Str} (h : NmOk w) : ¬ Ml w ∧ ¬ w = Str.ofString "apart" ∧ ¬ w = Str.ofString "same" :=
  ⟨fun z => h.2.2.2 (by unfold Nm.keysD; rcases z with rfl | rfl <;> simp), fun z => h.2.2.2 (by unfold Nm.keysD; rw [z]; simp), fun z => h.2.2.2 (by unfold Nm.keysD; rw [z]; simp)⟩
theorem _root_.Nm.NmOk.nk {w : Str} (h : NmOk w) : w ∉ [Str.ofString "most", Str.ofString "least", Str.ofString "apart", Str.ofString "same"] := fun z => h.2.2.2 (by
  unfold Nm.keysD
  simp only [List.mem_cons, List.not_mem_nil, or_false] at z ⊢
  exact .inr (.inr z))
theorem _root_.Nm.NmOk.nb {w : Str} (h : NmOk w) : w ≠ Str.ofString "before" := fun z => h.2.2.2 (by unfold Nm.keysD; rw [z]; simp)
theorem _root_.Nm.NmOk.hd {w : Str} (h : NmOk w) : (TL.tl w).headD 0 :: (TL.tl w).tail = TL.tl w ∧ (TL.tl w).headD 0 ≠ 32 := by
  have hl : (TL.tl w).length = w.length := rfl
  have h1 := h.1
  have h2 := h.2.1
  cases e : TL.tl w with
  | nil => rw [e] at hl; simp at hl; omega
  | cons c r =>
    refine ⟨rfl, ?_⟩
    rw [e] at h1
    have := h1 c List.mem_cons_self
    rw [List.headD_cons]
    omega
theorem wd_one {w : Str} (h : NmOk w) : Rre.Wd (Str.ofString "1" ++ w) := by
  have := Rre.Wd.lo h.1
  unfold Rre.Wd at this ⊢
  rw [TL.tl_append, t_1]
  refine ⟨fun z => ?_, fun z => ?_⟩
  · rcases List.mem_cons.mp z with z | z
    · cases z
    · exact this.1 z
  · rcases List.mem_cons.mp z with z | z
    · cases z
    · exact this.2 z
theorem ng_first {acts : List Str} {w : Str} {ws : List Str} (h : w ∉ [Str.ofString "most", Str.ofString "least", Str.ofString "apart", Str.ofString "same"]) : ¬ GoodT acts (w :: ws) := by
  simp only [List.mem_cons, List.not_mem_nil, or_false, not_or] at h
  exact not_good (fun z => z.elim h.1 h.2.1) h.2.2.1 h.2.2.2
theorem ng_few {acts : List Str} {w : Str} {ws : List Str} (hm : Ml w) (h : ws.length < 2) : ¬ GoodT acts (w :: ws) := by
  rintro (⟨_, f, r, e, _, hr, _⟩ | ⟨_, _, e, _⟩ | ⟨_, _, e, _⟩)
  · injection e with _ e
    subst e
    rw [List.length_cons] at h
    exact hr (List.length_eq_zero_iff.mp (by omega))
  · injection e with e _; exact (ml_ne hm).1 e
  · injection e with e _; exact (ml_ne hm).2 e
theorem ng_fig {acts : List Str} {w f : Str} {ws : List Str} (hm : Ml w) (h : ¬ Fig f) : ¬ GoodT acts (w :: f :: ws) := by
  rintro (⟨_, _, _, e, _, _, hf, _⟩ | ⟨_, _, e, _⟩ | ⟨_, _, e, _⟩)
  · cases e; exact h hf
  · injection e with e _; exact (ml_ne hm).1 e
  · injection e with e _; exact (ml_ne hm).2 e
theorem ng_pl {acts : List Str} {w f : Str} {ws : List Str} (hm : Ml w) (h : ¬ Pl acts ws) : ¬ GoodT acts (w :: f :: ws) := by
  rintro (⟨_, _, _, e, _, _, _, hf⟩ | ⟨_, _, e, _⟩ | ⟨_, _, e, _⟩)
  · cases e; exact h hf
  · injection e with e _; exact (ml_ne hm).1 e
  · injection e with e _; exact (ml_ne hm).2 e
theorem ng_kl {acts : List Str} {w : Str} {ws : List Str} (hw : ¬ (w = Str.ofString "most" ∨ w = Str.ofString "least")) (h : ws.length ≠ 2) : ¬ GoodT acts (w :: ws) := by
  rintro (⟨_, _, _, e, m, _⟩ | ⟨_, _, e, _⟩ | ⟨_, _, e, _⟩)
  · injection e with e _; exact hw (e ▸ m)
  · cases e; exact h rfl
  · cases e; exact h rfl
theorem ng_kp {acts : List Str} {w : Str} {ws : List Str} (hw : ¬ (w = Str.ofString "most" ∨ w = Str.ofString "least")) (h : ¬ Pl acts ws) : ¬ GoodT acts (w :: ws) := by
  rintro (⟨_, _, _, e, m, _⟩ | ⟨_, _, e, g⟩ | ⟨_, _, e, g⟩)
  · injection e with e _; exact hw (e ▸ m)
  · injection e with _ e; rw [e] at h; exact h g
  · injection e with _ e; rw [e] at h; exact h g
theorem nf_of {f : Str} (h : (match TL.tl f with | [c] => decide (c ∈ (Str.ofString "123456").cps.toList) | _ => false) = false) : ¬ Fig f := by
  rintro ⟨c, rfl, hc⟩
  have h : decide (c ∈ (Str.ofString "123456").cps.toList) = false := h
  rw [decide_eq_true hc] at h
  cases h
theorem np_dup {acts : List Str} {a : Str} {r : List Str} : ¬ Pl acts (a :: a :: r) := fun h => (List.nodup_cons.mp h.1).1 List.mem_cons_self
theorem np_mem {acts r : List Str} {v : Str} (h : v ∈ r) (hv : v ∉ acts) : ¬ Pl acts r := fun z => hv (z.2 v h)
theorem no_e {acts : List Str} (A : ActsOk acts) : Str.ofString "" ∉ acts := fun h => by
  have := (A.ok _ h).2.1
  rw [show (Str.ofString "").length = 0 by decide +kernel] at this
  omega
theorem prW_b (u v : Str) : prW [u, Str.ofString "before", v] = some (u, v) := by
  show (if Str.ofString "before" = Str.ofString "before" then some (u, v) else none) = _
  rw [if_pos rfl]
theorem st_pr {acts : List Str} {u v : Str} (h : u ∉ acts ∨ v ∉ acts) (s : List (Nat × Nat) × Nat) : stepW acts (some s) [u, Str.ofString "before", v] = none := by
  unfold stepW
  rw [Option.bind_some, prW_b]
  dsimp only
  rw [if_neg fun z => h.elim (fun h => h z.1) (fun h => h z.2.1)]
theorem bd_twin {acts : List Str} {a t : Str} (A : ActsOk acts) (ha : a ∈ acts) (e : t = Str.join (Str.ofString "; ") [Str.join (Str.ofString " ") [a, Str.ofString "before", a], Str.join (Str.ofString " ") [a, Str.ofString "before", a]]) : Bd acts t := by
  have hw : ∀ w ∈ [a, Str.ofString "before", a], Rre.Wd w := fa (Rre.Wd.lo (A.ok a ha).1) (fa (by unfold Rre.Wd; decide +kernel) (fa (Rre.Wd.lo (A.ok a ha).1) fa_nil))
  refine .inl ⟨_, by simp, e, fa (no_semi hw) (fa (no_semi hw) fa_nil), ?_⟩
  rw [List.map_cons, List.map_cons, List.map_nil, DL.split_join Rre.tl_sp (by simp) fun w hw' => (hw w hw').1]
  intro s t h
  rw [runW_cons, runW_cons] at h
  have pe : prW [a, Str.ofString "before", a] = some (a, a) := prW_b a a
  unfold stepW at h
  rw [Option.bind_some, pe] at h
  dsimp only at h
  by_cases h1 : (acts.idxOf a, acts.idxOf a) ∈ s.1
  · rw [if_neg fun z => z.2.2 h1, Option.bind_none, runW_none] at h
    cases h
  · rw [if_pos ⟨ha, ha, h1⟩, Option.bind_some, if_neg fun z => z.2.2 (by simp), runW_none] at h
    cases h
theorem run_ties {acts : List Str} {ws : List Str} (hp : prW ws = none) (hg : GoodT acts ws) : ∀ (n : Nat) (s : List (Nat × Nat) × Nat), runW acts (some s) (List.replicate n ws) = some (s.1, s.2 + n)
  | 0, _ => rfl
  | n + 1, s => by
    rw [List.replicate_succ, runW_cons]
    have e : stepW acts (some s) ws = some (s.1, s.2 + 1) := by
      unfold stepW
      rw [Option.bind_some, hp]
      dsimp only
      rw [if_pos hg]
    rw [e, run_ties hp hg n]
    dsimp only
    rw [Nat.add_assoc, Nat.add_comm 1 n]
section
variable {acts : List Str} {a x : Str} (A : ActsOk acts) (haa : a ∈ acts) (ha : NmOk a) (hx : NmOk x) (hxa : x ∉ acts)
include A haa ha hx hxa
theorem i33 : Bd acts (Str.join (Str.ofString "; ") (List.replicate 13 (Str.ofString "most 1 " ++ a))) := by
  have e : Str.ofString "most 1 " ++ a = Str.join (Str.ofString " ") [Str.ofString "most", Str.ofString "1", a] := TL.ext_tl (by
    rw [TL.tl_join]; simp only [List.map, TL.joinL, TL.tl_append, List.append_assoc, List.cons_append, List.nil_append, t_most, t_1, t__32, t_most_321_32])
  have hw : ∀ w ∈ [Str.ofString "most", Str.ofString "1", a], Rre.Wd w := fa (by unfold Rre.Wd; decide +kernel) (fa (by unfold Rre.Wd; decide +kernel) (fa (Rre.Wd.lo ha.1) fa_nil))
  refine .inl ⟨List.replicate 13 (Str.ofString "most 1 " ++ a), List.cons_ne_nil _ _, rfl, fun p hp => ?_, ?_⟩
  · rw [List.eq_of_mem_replicate hp, e]
    exact no_semi hw
  · rw [List.map_replicate, e, DL.split_join Rre.tl_sp (by simp) fun w hw' => (hw w hw').1]
    intro s t h
    rw [run_ties (prW_mid (by decide +kernel)) (.inl ⟨_, _, _, rfl, .inl rfl, by simp, ⟨49, by decide +kernel, by decide +kernel⟩, by simp, fun w hw => by rw [List.mem_singleton.mp hw]; exact haa⟩)] at h
    cases h
    show 13 ≤ s.2 + 13
    omega
theorem i0 : Bd acts (x ++ Str.ofString " before " ++ a) := bd_words (ws := [x, Str.ofString "before", a]) (by simp) (TL.ext_tl (by
  rw [TL.tl_join]; simp only [List.map, TL.joinL, TL.tl_append, List.append_assoc, List.cons_append, List.nil_append, List.append_nil, t_e, t__32, t__32_32before_32, t__32before, t__32before_32, t__32behind_32, t__32most_321_32, t__431, t__451, t_0, t_1, t_1_32most_32, t_12, t_1_95, t_6, t_7, t__59, t__59_32, t_Most, t_Most_321_32, t_apart, t_apart_32, t_before, t_before_32, t_behind, t_least, t_least_32_431_32, t_least_321_32, t_least_3212_32, t_most, t_most_32, t_most_32_451_32, t_most_320_32, t_most_321, t_most_321_32, t_most_321_32_32, t_most_321_59, t_most_321_95_32, t_most_326, t_most_327_32, t_same, t_same_32, t_steps, t_steps_32])) (fa (Rre.Wd.lo hx.1) (fa ((by unfold Rre.Wd; decide +kernel)) (fa (Rre.Wd.lo ha.1) fa_nil))) (st_pr (.inl hxa))
theorem i1 : Bd acts (a ++ Str.ofString " before " ++ x) := bd_words (ws := [a, Str.ofString "before", x]) (by simp) (TL.ext_tl (by
  rw [TL.tl_join]; simp only [List.map, TL.joinL, TL.tl_append, List.append_assoc, List.cons_append, List.nil_append, List.append_nil, t_e, t__32, t__32_32before_32, t__32before, t__32before_32, t__32behind_32, t__32most_321_32, t__431, t__451, t_0, t_1, t_1_32most_32, t_12, t_1_95, t_6, t_7, t__59, t__59_32, t_Most, t_Most_321_32, t_apart, t_apart_32, t_before, t_before_32, t_behind, t_least, t_least_32_431_32, t_least_321_32, t_least_3212_32, t_most, t_most_32, t_most_32_451_32, t_most_320_32, t_most_321, t_most_321_32, t_most_321_32_32, t_most_321_59, t_most_321_95_32, t_most_326, t_most_327_32, t_same, t_same_32, t_steps, t_steps_32])) (fa (Rre.Wd.lo ha.1) (fa ((by unfold Rre.Wd; decide +kernel)) (fa (Rre.Wd.lo hx.1) fa_nil))) (st_pr (.inr hxa))
theorem i2 : Bd acts (a ++ Str.ofString " before") := bd_words (ws := [a, Str.ofString "before"]) (by simp) (TL.ext_tl (by
  rw [TL.tl_join]; simp only [List.map, TL.joinL, TL.tl_append, List.append_assoc, List.cons_append, List.nil_append, List.append_nil, t_e, t__32, t__32_32before_32, t__32before, t__32before_32, t__32behind_32, t__32most_321_32, t__431, t__451, t_0, t_1, t_1_32most_32, t_12, t_1_95, t_6, t_7, t__59, t__59_32, t_Most, t_Most_321_32, t_apart, t_apart_32, t_before, t_before_32, t_behind, t_least, t_least_32_431_32, t_least_321_32, t_least_3212_32, t_most, t_most_32, t_most_32_451_32, t_most_320_32, t_most_321, t_most_321_32, t_most_321_32_32, t_most_321_59, t_most_321_95_32, t_most_326, t_most_327_32, t_same, t_same_32, t_steps, t_steps_32])) (fa (Rre.Wd.lo ha.1) (fa ((by unfold Rre.Wd; decide +kernel)) fa_nil)) (step_none (prW_len (by simp)) (ng_first ha.nk))
theorem i3 : Bd acts (Str.ofString "before " ++ a) := bd_words (ws := [Str.ofString "before", a]) (by simp) (TL.ext_tl (by
  rw [TL.tl_join]; simp only [List.map, TL.joinL, TL.tl_append, List.append_assoc, List.cons_append, List.nil_append, List.append_nil, t_e, t__32, t__32_32before_32, t__32before, t__32before_32, t__32behind_32, t__32most_321_32, t__431, t__451, t_0, t_1, t_1_32most_32, t_12, t_1_95, t_6, t_7, t__59, t__59_32, t_Most, t_Most_321_32, t_apart, t_apart_32, t_before, t_before_32, t_behind, t_least, t_least_32_431_32, t_least_321_32, t_least_3212_32, t_most, t_most_32, t_most_32_451_32, t_most_320_32, t_most_321, t_most_321_32, t_most_321_32_32, t_most_321_59, t_most_321_95_32, t_most_326, t_most_327_32, t_same, t_same_32, t_steps, t_steps_32])) (fa ((by unfold Rre.Wd; decide +kernel)) (fa (Rre.Wd.lo ha.1) fa_nil)) (step_none (prW_len (by simp)) (ng_first (by decide +kernel)))
theorem i4 : Bd acts (a ++ Str.ofString " before " ++ a ++ Str.ofString " " ++ a) := bd_words (ws := [a, Str.ofString "before", a, a]) (by simp) (TL.ext_tl (by
  rw [TL.tl_join]; simp only [List.map, TL.joinL, TL.tl_append, List.append_assoc, List.cons_append, List.nil_append, List.append_nil, t_e, t__32, t__32_32before_32, t__32before, t__32before_32, t__32behind_32, t__32most_321_32, t__431, t__451, t_0, t_1, t_1_32most_32, t_12, t_1_95, t_6, t_7, t__59, t__59_32, t_Most, t_Most_321_32, t_apart, t_apart_32, t_before, t_before_32, t_behind, t_least, t_least_32_431_32, t_least_321_32, t_least_3212_32, t_most, t_most_32, t_most_32_451_32, t_most_320_32, t_most_321, t_most_321_32, t_most_321_32_32, t_most_321_59, t_most_321_95_32, t_most_326, t_most_327_32, t_same, t_same_32, t_steps, t_steps_32])) (fa (Rre.Wd.lo ha.1) (fa ((by unfold Rre.Wd; decide +kernel)) (fa (Rre.Wd.lo ha.1) (fa (Rre.Wd.lo ha.1) fa_nil)))) (step_none (prW_len (by simp)) (ng_first ha.nk))
theorem i5 : Bd acts (a ++ Str.ofString " behind " ++ a) := bd_words (ws := [a, Str.ofString "behind", a]) (by simp) (TL.ext_tl (by
  rw [TL.tl_join]; simp only [List.map, TL.joinL, TL.tl_append, List.append_assoc, List.cons_append, List.nil_append, List.append_nil, t_e, t__32, t__32_32before_32, t__32before, t__32before_32, t__32behind_32, t__32most_321_32, t__431, t__451, t_0, t_1, t_1_32most_32, t_12, t_1_95, t_6, t_7, t__59, t__59_32, t_Most, t_Most_321_32, t_apart, t_apart_32, t_before, t_before_32, t_behind, t_least, t_least_32_431_32, t_least_321_32, t_least_3212_32, t_most, t_most_32, t_most_32_451_32, t_most_320_32, t_most_321, t_most_321_32, t_most_321_32_32, t_most_321_59, t_most_321_95_32, t_most_326, t_most_327_32, t_same, t_same_32, t_steps, t_steps_32])) (fa (Rre.Wd.lo ha.1) (fa ((by unfold Rre.Wd; decide +kernel)) (fa (Rre.Wd.lo ha.1) fa_nil))) (step_none (prW_mid (by decide +kernel)) (ng_first ha.nk))
theorem i6 : Bd acts (a) := bd_words (ws := [a]) (by simp) (TL.ext_tl (by
  rw [TL.tl_join]; simp only [List.map, TL.joinL, TL.tl_append, List.append_assoc, List.cons_append, List.nil_append, List.append_nil, t_e, t__32, t__32_32before_32, t__32before, t__32before_32, t__32behind_32, t__32most_321_32, t__431, t__451, t_0, t_1, t_1_32most_32, t_12, t_1_95, t_6, t_7, t__59, t__59_32, t_Most, t_Most_321_32, t_apart, t_apart_32, t_before, t_before_32, t_behind, t_least, t_least_32_431_32, t_least_321_32, t_least_3212_32, t_most, t_most_32, t_most_32_451_32, t_most_320_32, t_most_321, t_most_321_32, t_most_321_32_32, t_most_321_59, t_most_321_95_32, t_most_326, t_most_327_32, t_same, t_same_32, t_steps, t_steps_32])) (fa (Rre.Wd.lo ha.1) fa_nil) (step_none (prW_len (by simp)) (ng_first ha.nk))
theorem i7 : Bd acts (Str.ofString "most " ++ a) := bd_words (ws := [Str.ofString "most", a]) (by simp) (TL.ext_tl (by
  rw [TL.tl_join]; simp only [List.map, TL.joinL, TL.tl_append, List.append_assoc, List.cons_append, List.nil_append, List.append_nil, t_e, t__32, t__32_32before_32, t__32before, t__32before_32, t__32behind_32, t__32most_321_32, t__431, t__451, t_0, t_1, t_1_32most_32, t_12, t_1_95, t_6, t_7, t__59, t__59_32, t_Most, t_Most_321_32, t_apart, t_apart_32, t_before, t_before_32, t_behind, t_least, t_least_32_431_32, t_least_321_32, t_least_3212_32, t_most, t_most_32, t_most_32_451_32, t_most_320_32, t_most_321, t_most_321_32, t_most_321_32_32, t_most_321_59, t_most_321_95_32, t_most_326, t_most_327_32, t_same, t_same_32, t_steps, t_steps_32])) (fa ((by unfold Rre.Wd; decide +kernel)) (fa (Rre.Wd.lo ha.1) fa_nil)) (step_none (prW_len (by simp)) (ng_few (.inl rfl) (by simp)))
theorem i8 : Bd acts (Str.ofString "most 1") := bd_words (ws := [Str.ofString "most", Str.ofString "1"]) (by simp) (TL.ext_tl (by
  rw [TL.tl_join]; simp only [List.map, TL.joinL, TL.tl_append, List.append_assoc, List.cons_append, List.nil_append, List.append_nil, t_e, t__32, t__32_32before_32, t__32before, t__32before_32, t__32behind_32, t__32most_321_32, t__431, t__451, t_0, t_1, t_1_32most_32, t_12, t_1_95, t_6, t_7, t__59, t__59_32, t_Most, t_Most_321_32, t_apart, t_apart_32, t_before, t_before_32, t_behind, t_least, t_least_32_431_32, t_least_321_32, t_least_3212_32, t_most, t_most_32, t_most_32_451_32, t_most_320_32, t_most_321, t_most_321_32, t_most_321_32_32, t_most_321_59, t_most_321_95_32, t_most_326, t_most_327_32, t_same, t_same_32, t_steps, t_steps_32])) (fa ((by unfold Rre.Wd; decide +kernel)) (fa ((by unfold Rre.Wd; decide +kernel)) fa_nil)) (step_none (prW_len (by simp)) (ng_few (.inl rfl) (by simp)))
theorem i9 : Bd acts (Str.ofString "most 0 " ++ a) := bd_words (ws := [Str.ofString "most", Str.ofString "0", a]) (by simp) (TL.ext_tl (by
  rw [TL.tl_join]; simp only [List.map, TL.joinL, TL.tl_append, List.append_assoc, List.cons_append, List.nil_append, List.append_nil, t_e, t__32, t__32_32before_32, t__32before, t__32before_32, t__32behind_32, t__32most_321_32, t__431, t__451, t_0, t_1, t_1_32most_32, t_12, t_1_95, t_6, t_7, t__59, t__59_32, t_Most, t_Most_321_32, t_apart, t_apart_32, t_before, t_before_32, t_behind, t_least, t_least_32_431_32, t_least_321_32, t_least_3212_32, t_most, t_most_32, t_most_32_451_32, t_most_320_32, t_most_321, t_most_321_32, t_most_321_32_32, t_most_321_59, t_most_321_95_32, t_most_326, t_most_327_32, t_same, t_same_32, t_steps, t_steps_32])) (fa ((by unfold Rre.Wd; decide +kernel)) (fa ((by unfold Rre.Wd; decide +kernel)) (fa (Rre.Wd.lo ha.1) fa_nil))) (step_none (prW_mid (by decide +kernel)) (ng_fig (.inl rfl) (nf_of (by decide +kernel))))
theorem i10 : Bd acts (Str.ofString "most 7 " ++ a) := bd_words (ws := [Str.ofString "most", Str.ofString "7", a]) (by simp) (TL.ext_tl (by
  rw [TL.tl_join]; simp only [List.map, TL.joinL, TL.tl_append, List.append_assoc, List.cons_append, List.nil_append, List.append_nil, t_e, t__32, t__32_32before_32, t__32before, t__32before_32, t__32behind_32, t__32most_321_32, t__431, t__451, t_0, t_1, t_1_32most_32, t_12, t_1_95, t_6, t_7, t__59, t__59_32, t_Most, t_Most_321_32, t_apart, t_apart_32, t_before, t_before_32, t_behind, t_least, t_least_32_431_32, t_least_321_32, t_least_3212_32, t_most, t_most_32, t_most_32_451_32, t_most_320_32, t_most_321, t_most_321_32, t_most_321_32_32, t_most_321_59, t_most_321_95_32, t_most_326, t_most_327_32, t_same, t_same_32, t_steps, t_steps_32])) (fa ((by unfold Rre.Wd; decide +kernel)) (fa ((by unfold Rre.Wd; decide +kernel)) (fa (Rre.Wd.lo ha.1) fa_nil))) (step_none (prW_mid (by decide +kernel)) (ng_fig (.inl rfl) (nf_of (by decide +kernel))))
theorem i11 : Bd acts (Str.ofString "least 1 " ++ x) := bd_words (ws := [Str.ofString "least", Str.ofString "1", x]) (by simp) (TL.ext_tl (by
  rw [TL.tl_join]; simp only [List.map, TL.joinL, TL.tl_append, List.append_assoc, List.cons_append, List.nil_append, List.append_nil, t_e, t__32, t__32_32before_32, t__32before, t__32before_32, t__32behind_32, t__32most_321_32, t__431, t__451, t_0, t_1, t_1_32most_32, t_12, t_1_95, t_6, t_7, t__59, t__59_32, t_Most, t_Most_321_32, t_apart, t_apart_32, t_before, t_before_32, t_behind, t_least, t_least_32_431_32, t_least_321_32, t_least_3212_32, t_most, t_most_32, t_most_32_451_32, t_most_320_32, t_most_321, t_most_321_32, t_most_321_32_32, t_most_321_59, t_most_321_95_32, t_most_326, t_most_327_32, t_same, t_same_32, t_steps, t_steps_32])) (fa ((by unfold Rre.Wd; decide +kernel)) (fa ((by unfold Rre.Wd; decide +kernel)) (fa (Rre.Wd.lo hx.1) fa_nil))) (step_none (prW_mid (by decide +kernel)) (ng_pl (.inr rfl) (np_mem List.mem_cons_self hxa)))
theorem i12 : Bd acts (Str.ofString "most 1 " ++ a ++ Str.ofString " " ++ a) := bd_words (ws := [Str.ofString "most", Str.ofString "1", a, a]) (by simp) (TL.ext_tl (by
  rw [TL.tl_join]; simp only [List.map, TL.joinL, TL.tl_append, List.append_assoc, List.cons_append, List.nil_append, List.append_nil, t_e, t__32, t__32_32before_32, t__32before, t__32before_32, t__32behind_32, t__32most_321_32, t__431, t__451, t_0, t_1, t_1_32most_32, t_12, t_1_95, t_6, t_7, t__59, t__59_32, t_Most, t_Most_321_32, t_apart, t_apart_32, t_before, t_before_32, t_behind, t_least, t_least_32_431_32, t_least_321_32, t_least_3212_32, t_most, t_most_32, t_most_32_451_32, t_most_320_32, t_most_321, t_most_321_32, t_most_321_32_32, t_most_321_59, t_most_321_95_32, t_most_326, t_most_327_32, t_same, t_same_32, t_steps, t_steps_32])) (fa ((by unfold Rre.Wd; decide +kernel)) (fa ((by unfold Rre.Wd; decide +kernel)) (fa (Rre.Wd.lo ha.1) (fa (Rre.Wd.lo ha.1) fa_nil)))) (step_none (prW_len (by simp)) (ng_pl (.inl rfl) (np_dup)))
theorem i13 : Bd acts (Str.ofString "least 12 " ++ a) := bd_words (ws := [Str.ofString "least", Str.ofString "12", a]) (by simp) (TL.ext_tl (by
  rw [TL.tl_join]; simp only [List.map, TL.joinL, TL.tl_append, List.append_assoc, List.cons_append, List.nil_append, List.append_nil, t_e, t__32, t__32_32before_32, t__32before, t__32before_32, t__32behind_32, t__32most_321_32, t__431, t__451, t_0, t_1, t_1_32most_32, t_12, t_1_95, t_6, t_7, t__59, t__59_32, t_Most, t_Most_321_32, t_apart, t_apart_32, t_before, t_before_32, t_behind, t_least, t_least_32_431_32, t_least_321_32, t_least_3212_32, t_most, t_most_32, t_most_32_451_32, t_most_320_32, t_most_321, t_most_321_32, t_most_321_32_32, t_most_321_59, t_most_321_95_32, t_most_326, t_most_327_32, t_same, t_same_32, t_steps, t_steps_32])) (fa ((by unfold Rre.Wd; decide +kernel)) (fa ((by unfold Rre.Wd; decide +kernel)) (fa (Rre.Wd.lo ha.1) fa_nil))) (step_none (prW_mid (by decide +kernel)) (ng_fig (.inr rfl) (nf_of (by decide +kernel))))
theorem i14 : Bd acts (Str.ofString "Most 1 " ++ a) := bd_words (ws := [Str.ofString "Most", Str.ofString "1", a]) (by simp) (TL.ext_tl (by
  rw [TL.tl_join]; simp only [List.map, TL.joinL, TL.tl_append, List.append_assoc, List.cons_append, List.nil_append, List.append_nil, t_e, t__32, t__32_32before_32, t__32before, t__32before_32, t__32behind_32, t__32most_321_32, t__431, t__451, t_0, t_1, t_1_32most_32, t_12, t_1_95, t_6, t_7, t__59, t__59_32, t_Most, t_Most_321_32, t_apart, t_apart_32, t_before, t_before_32, t_behind, t_least, t_least_32_431_32, t_least_321_32, t_least_3212_32, t_most, t_most_32, t_most_32_451_32, t_most_320_32, t_most_321, t_most_321_32, t_most_321_32_32, t_most_321_59, t_most_321_95_32, t_most_326, t_most_327_32, t_same, t_same_32, t_steps, t_steps_32])) (fa ((by unfold Rre.Wd; decide +kernel)) (fa ((by unfold Rre.Wd; decide +kernel)) (fa (Rre.Wd.lo ha.1) fa_nil))) (step_none (prW_mid (by decide +kernel)) (ng_first (by decide +kernel)))
theorem i15 : Bd acts (Str.ofString "most 1  " ++ a) := bd_words (ws := [Str.ofString "most", Str.ofString "1", Str.ofString "", a]) (by simp) (TL.ext_tl (by
  rw [TL.tl_join]; simp only [List.map, TL.joinL, TL.tl_append, List.append_assoc, List.cons_append, List.nil_append, List.append_nil, t_e, t__32, t__32_32before_32, t__32before, t__32before_32, t__32behind_32, t__32most_321_32, t__431, t__451, t_0, t_1, t_1_32most_32, t_12, t_1_95, t_6, t_7, t__59, t__59_32, t_Most, t_Most_321_32, t_apart, t_apart_32, t_before, t_before_32, t_behind, t_least, t_least_32_431_32, t_least_321_32, t_least_3212_32, t_most, t_most_32, t_most_32_451_32, t_most_320_32, t_most_321, t_most_321_32, t_most_321_32_32, t_most_321_59, t_most_321_95_32, t_most_326, t_most_327_32, t_same, t_same_32, t_steps, t_steps_32])) (fa ((by unfold Rre.Wd; decide +kernel)) (fa ((by unfold Rre.Wd; decide +kernel)) (fa ((by unfold Rre.Wd; decide +kernel)) (fa (Rre.Wd.lo ha.1) fa_nil)))) (step_none (prW_len (by simp)) (ng_pl (.inl rfl) (np_mem List.mem_cons_self (no_e A))))
theorem i16 : Bd acts (Str.ofString " most 1 " ++ a) := bd_words (ws := [Str.ofString "", Str.ofString "most", Str.ofString "1", a]) (by simp) (TL.ext_tl (by
  rw [TL.tl_join]; simp only [List.map, TL.joinL, TL.tl_append, List.append_assoc, List.cons_append, List.nil_append, List.append_nil, t_e, t__32, t__32_32before_32, t__32before, t__32before_32, t__32behind_32, t__32most_321_32, t__431, t__451, t_0, t_1, t_1_32most_32, t_12, t_1_95, t_6, t_7, t__59, t__59_32, t_Most, t_Most_321_32, t_apart, t_apart_32, t_before, t_before_32, t_behind, t_least, t_least_32_431_32, t_least_321_32, t_least_3212_32, t_most, t_most_32, t_most_32_451_32, t_most_320_32, t_most_321, t_most_321_32, t_most_321_32_32, t_most_321_59, t_most_321_95_32, t_most_326, t_most_327_32, t_same, t_same_32, t_steps, t_steps_32])) (fa ((by unfold Rre.Wd; decide +kernel)) (fa ((by unfold Rre.Wd; decide +kernel)) (fa ((by unfold Rre.Wd; decide +kernel)) (fa (Rre.Wd.lo ha.1) fa_nil)))) (step_none (prW_len (by simp)) (ng_first (by decide +kernel)))
theorem i17 : Bd acts (Str.ofString "most 1 " ++ a ++ Str.ofString " ") := bd_words (ws := [Str.ofString "most", Str.ofString "1", a, Str.ofString ""]) (by simp) (TL.ext_tl (by
  rw [TL.tl_join]; simp only [List.map, TL.joinL, TL.tl_append, List.append_assoc, List.cons_append, List.nil_append, List.append_nil, t_e, t__32, t__32_32before_32, t__32before, t__32before_32, t__32behind_32, t__32most_321_32, t__431, t__451, t_0, t_1, t_1_32most_32, t_12, t_1_95, t_6, t_7, t__59, t__59_32, t_Most, t_Most_321_32, t_apart, t_apart_32, t_before, t_before_32, t_behind, t_least, t_least_32_431_32, t_least_321_32, t_least_3212_32, t_most, t_most_32, t_most_32_451_32, t_most_320_32, t_most_321, t_most_321_32, t_most_321_32_32, t_most_321_59, t_most_321_95_32, t_most_326, t_most_327_32, t_same, t_same_32, t_steps, t_steps_32])) (fa ((by unfold Rre.Wd; decide +kernel)) (fa ((by unfold Rre.Wd; decide +kernel)) (fa (Rre.Wd.lo ha.1) (fa ((by unfold Rre.Wd; decide +kernel)) fa_nil)))) (step_none (prW_len (by simp)) (ng_pl (.inl rfl) (np_mem (List.mem_cons_of_mem _ List.mem_cons_self) (no_e A))))
theorem i18 : Bd acts (Str.ofString "apart " ++ a ++ Str.ofString " " ++ a) := bd_words (ws := [Str.ofString "apart", a, a]) (by simp) (TL.ext_tl (by
  rw [TL.tl_join]; simp only [List.map, TL.joinL, TL.tl_append, List.append_assoc, List.cons_append, List.nil_append, List.append_nil, t_e, t__32, t__32_32before_32, t__32before, t__32before_32, t__32behind_32, t__32most_321_32, t__431, t__451, t_0, t_1, t_1_32most_32, t_12, t_1_95, t_6, t_7, t__59, t__59_32, t_Most, t_Most_321_32, t_apart, t_apart_32, t_before, t_before_32, t_behind, t_least, t_least_32_431_32, t_least_321_32, t_least_3212_32, t_most, t_most_32, t_most_32_451_32, t_most_320_32, t_most_321, t_most_321_32, t_most_321_32_32, t_most_321_59, t_most_321_95_32, t_most_326, t_most_327_32, t_same, t_same_32, t_steps, t_steps_32])) (fa ((by unfold Rre.Wd; decide +kernel)) (fa (Rre.Wd.lo ha.1) (fa (Rre.Wd.lo ha.1) fa_nil))) (step_none (prW_mid ha.nb) (ng_kp (by decide +kernel) (np_dup)))
theorem i19 : Bd acts (Str.ofString "apart " ++ a) := bd_words (ws := [Str.ofString "apart", a]) (by simp) (TL.ext_tl (by
  rw [TL.tl_join]; simp only [List.map, TL.joinL, TL.tl_append, List.append_assoc, List.cons_append, List.nil_append, List.append_nil, t_e, t__32, t__32_32before_32, t__32before, t__32before_32, t__32behind_32, t__32most_321_32, t__431, t__451, t_0, t_1, t_1_32most_32, t_12, t_1_95, t_6, t_7, t__59, t__59_32, t_Most, t_Most_321_32, t_apart, t_apart_32, t_before, t_before_32, t_behind, t_least, t_least_32_431_32, t_least_321_32, t_least_3212_32, t_most, t_most_32, t_most_32_451_32, t_most_320_32, t_most_321, t_most_321_32, t_most_321_32_32, t_most_321_59, t_most_321_95_32, t_most_326, t_most_327_32, t_same, t_same_32, t_steps, t_steps_32])) (fa ((by unfold Rre.Wd; decide +kernel)) (fa (Rre.Wd.lo ha.1) fa_nil)) (step_none (prW_len (by simp)) (ng_kl (by decide +kernel) (by simp)))
theorem i20 : Bd acts (Str.ofString "same " ++ a ++ Str.ofString " " ++ x) := bd_words (ws := [Str.ofString "same", a, x]) (by simp) (TL.ext_tl (by
  rw [TL.tl_join]; simp only [List.map, TL.joinL, TL.tl_append, List.append_assoc, List.cons_append, List.nil_append, List.append_nil, t_e, t__32, t__32_32before_32, t__32before, t__32before_32, t__32behind_32, t__32most_321_32, t__431, t__451, t_0, t_1, t_1_32most_32, t_12, t_1_95, t_6, t_7, t__59, t__59_32, t_Most, t_Most_321_32, t_apart, t_apart_32, t_before, t_before_32, t_behind, t_least, t_least_32_431_32, t_least_321_32, t_least_3212_32, t_most, t_most_32, t_most_32_451_32, t_most_320_32, t_most_321, t_most_321_32, t_most_321_32_32, t_most_321_59, t_most_321_95_32, t_most_326, t_most_327_32, t_same, t_same_32, t_steps, t_steps_32])) (fa ((by unfold Rre.Wd; decide +kernel)) (fa (Rre.Wd.lo ha.1) (fa (Rre.Wd.lo hx.1) fa_nil))) (step_none (prW_mid ha.nb) (ng_kp (by decide +kernel) (np_mem (List.mem_cons_of_mem _ List.mem_cons_self) hxa)))
theorem i21 : Bd acts (Str.ofString "") := bd_words (ws := [Str.ofString ""]) (by simp) (TL.ext_tl (by
  rw [TL.tl_join]; simp only [List.map, TL.joinL, TL.tl_append, List.append_assoc, List.cons_append, List.nil_append, List.append_nil, t_e, t__32, t__32_32before_32, t__32before, t__32before_32, t__32behind_32, t__32most_321_32, t__431, t__451, t_0, t_1, t_1_32most_32, t_12, t_1_95, t_6, t_7, t__59, t__59_32, t_Most, t_Most_321_32, t_apart, t_apart_32, t_before, t_before_32, t_behind, t_least, t_least_32_431_32, t_least_321_32, t_least_3212_32, t_most, t_most_32, t_most_32_451_32, t_most_320_32, t_most_321, t_most_321_32, t_most_321_32_32, t_most_321_59, t_most_321_95_32, t_most_326, t_most_327_32, t_same, t_same_32, t_steps, t_steps_32])) (fa ((by unfold Rre.Wd; decide +kernel)) fa_nil) (step_none (prW_len (by simp)) (ng_first (by decide +kernel)))
theorem i22 : Bd acts (Str.ofString "same " ++ a ++ Str.ofString " " ++ a) := bd_words (ws := [Str.ofString "same", a, a]) (by simp) (TL.ext_tl (by
  rw [TL.tl_join]; simp only [List.map, TL.joinL, TL.tl_append, List.append_assoc, List.cons_append, List.nil_append, List.append_nil, t_e, t__32, t__32_32before_32, t__32before, t__32before_32, t__32behind_32, t__32most_321_32, t__431, t__451, t_0, t_1, t_1_32most_32, t_12, t_1_95, t_6, t_7, t__59, t__59_32, t_Most, t_Most_321_32, t_apart, t_apart_32, t_before, t_before_32, t_behind, t_least, t_least_32_431_32, t_least_321_32, t_least_3212_32, t_most, t_most_32, t_most_32_451_32, t_most_320_32, t_most_321, t_most_321_32, t_most_321_32_32, t_most_321_59, t_most_321_95_32, t_most_326, t_most_327_32, t_same, t_same_32, t_steps, t_steps_32])) (fa ((by unfold Rre.Wd; decide +kernel)) (fa (Rre.Wd.lo ha.1) (fa (Rre.Wd.lo ha.1) fa_nil))) (step_none (prW_mid ha.nb) (ng_kp (by decide +kernel) (np_dup)))
theorem i23 : Bd acts (Str.ofString " ") := bd_words (ws := [Str.ofString "", Str.ofString ""]) (by simp) (TL.ext_tl (by
  rw [TL.tl_join]; simp only [List.map, TL.joinL, TL.tl_append, List.append_assoc, List.cons_append, List.nil_append, List.append_nil, t_e, t__32, t__32_32before_32, t__32before, t__32before_32, t__32behind_32, t__32most_321_32, t__431, t__451, t_0, t_1, t_1_32most_32, t_12, t_1_95, t_6, t_7, t__59, t__59_32, t_Most, t_Most_321_32, t_apart, t_apart_32, t_before, t_before_32, t_behind, t_least, t_least_32_431_32, t_least_321_32, t_least_3212_32, t_most, t_most_32, t_most_32_451_32, t_most_320_32, t_most_321, t_most_321_32, t_most_321_32_32, t_most_321_59, t_most_321_95_32, t_most_326, t_most_327_32, t_same, t_same_32, t_steps, t_steps_32])) (fa ((by unfold Rre.Wd; decide +kernel)) (fa ((by unfold Rre.Wd; decide +kernel)) fa_nil)) (step_none (prW_len (by simp)) (ng_first (by decide +kernel)))
theorem i24 : Bd acts (Str.ofString "steps " ++ a) := bd_words (ws := [Str.ofString "steps", a]) (by simp) (TL.ext_tl (by
  rw [TL.tl_join]; simp only [List.map, TL.joinL, TL.tl_append, List.append_assoc, List.cons_append, List.nil_append, List.append_nil, t_e, t__32, t__32_32before_32, t__32before, t__32before_32, t__32behind_32, t__32most_321_32, t__431, t__451, t_0, t_1, t_1_32most_32, t_12, t_1_95, t_6, t_7, t__59, t__59_32, t_Most, t_Most_321_32, t_apart, t_apart_32, t_before, t_before_32, t_behind, t_least, t_least_32_431_32, t_least_321_32, t_least_3212_32, t_most, t_most_32, t_most_32_451_32, t_most_320_32, t_most_321, t_most_321_32, t_most_321_32_32, t_most_321_59, t_most_321_95_32, t_most_326, t_most_327_32, t_same, t_same_32, t_steps, t_steps_32])) (fa ((by unfold Rre.Wd; decide +kernel)) (fa (Rre.Wd.lo ha.1) fa_nil)) (step_none (prW_len (by simp)) (ng_first (by decide +kernel)))
theorem i25 : Bd acts (Str.ofString "least +1 " ++ a) := bd_words (ws := [Str.ofString "least", Str.ofString "+1", a]) (by simp) (TL.ext_tl (by
  rw [TL.tl_join]; simp only [List.map, TL.joinL, TL.tl_append, List.append_assoc, List.cons_append, List.nil_append, List.append_nil, t_e, t__32, t__32_32before_32, t__32before, t__32before_32, t__32behind_32, t__32most_321_32, t__431, t__451, t_0, t_1, t_1_32most_32, t_12, t_1_95, t_6, t_7, t__59, t__59_32, t_Most, t_Most_321_32, t_apart, t_apart_32, t_before, t_before_32, t_behind, t_least, t_least_32_431_32, t_least_321_32, t_least_3212_32, t_most, t_most_32, t_most_32_451_32, t_most_320_32, t_most_321, t_most_321_32, t_most_321_32_32, t_most_321_59, t_most_321_95_32, t_most_326, t_most_327_32, t_same, t_same_32, t_steps, t_steps_32])) (fa ((by unfold Rre.Wd; decide +kernel)) (fa ((by unfold Rre.Wd; decide +kernel)) (fa (Rre.Wd.lo ha.1) fa_nil))) (step_none (prW_mid (by decide +kernel)) (ng_fig (.inr rfl) (nf_of (by decide +kernel))))
theorem i26 : Bd acts (Str.ofString "most 1_ " ++ a) := bd_words (ws := [Str.ofString "most", Str.ofString "1_", a]) (by simp) (TL.ext_tl (by
  rw [TL.tl_join]; simp only [List.map, TL.joinL, TL.tl_append, List.append_assoc, List.cons_append, List.nil_append, List.append_nil, t_e, t__32, t__32_32before_32, t__32before, t__32before_32, t__32behind_32, t__32most_321_32, t__431, t__451, t_0, t_1, t_1_32most_32, t_12, t_1_95, t_6, t_7, t__59, t__59_32, t_Most, t_Most_321_32, t_apart, t_apart_32, t_before, t_before_32, t_behind, t_least, t_least_32_431_32, t_least_321_32, t_least_3212_32, t_most, t_most_32, t_most_32_451_32, t_most_320_32, t_most_321, t_most_321_32, t_most_321_32_32, t_most_321_59, t_most_321_95_32, t_most_326, t_most_327_32, t_same, t_same_32, t_steps, t_steps_32])) (fa ((by unfold Rre.Wd; decide +kernel)) (fa ((by unfold Rre.Wd; decide +kernel)) (fa (Rre.Wd.lo ha.1) fa_nil))) (step_none (prW_mid (by decide +kernel)) (ng_fig (.inl rfl) (nf_of (by decide +kernel))))
theorem i27 : Bd acts (Str.ofString "most 1;" ++ a) := .inr (.inl ⟨[109, 111, 115, 116, 32, 49], (TL.tl a).headD 0, (TL.tl a).tail, by
  rw [TL.tl_append, t_most_321_59]
  have := ha.hd
  rw [← this.1]; rfl, ha.hd.2⟩)
theorem i28 : Bd acts (a ++ Str.ofString " before " ++ a ++ Str.ofString ";") := .inr (.inr ⟨_, by
  rw [TL.tl_append, t__59]⟩)
theorem i29 : Bd acts (Str.ofString "most -1 " ++ a) := bd_words (ws := [Str.ofString "most", Str.ofString "-1", a]) (by simp) (TL.ext_tl (by
  rw [TL.tl_join]; simp only [List.map, TL.joinL, TL.tl_append, List.append_assoc, List.cons_append, List.nil_append, List.append_nil, t_e, t__32, t__32_32before_32, t__32before, t__32before_32, t__32behind_32, t__32most_321_32, t__431, t__451, t_0, t_1, t_1_32most_32, t_12, t_1_95, t_6, t_7, t__59, t__59_32, t_Most, t_Most_321_32, t_apart, t_apart_32, t_before, t_before_32, t_behind, t_least, t_least_32_431_32, t_least_321_32, t_least_3212_32, t_most, t_most_32, t_most_32_451_32, t_most_320_32, t_most_321, t_most_321_32, t_most_321_32_32, t_most_321_59, t_most_321_95_32, t_most_326, t_most_327_32, t_same, t_same_32, t_steps, t_steps_32])) (fa ((by unfold Rre.Wd; decide +kernel)) (fa ((by unfold Rre.Wd; decide +kernel)) (fa (Rre.Wd.lo ha.1) fa_nil))) (step_none (prW_mid (by decide +kernel)) (ng_fig (.inl rfl) (nf_of (by decide +kernel))))
theorem i30 : Bd acts (Str.ofString "most 1" ++ a) := bd_words (ws := [Str.ofString "most", (Str.ofString "1" ++ a)]) (by simp) (TL.ext_tl (by
  rw [TL.tl_join]; simp only [List.map, TL.joinL, TL.tl_append, List.append_assoc, List.cons_append, List.nil_append, List.append_nil, t_e, t__32, t__32_32before_32, t__32before, t__32before_32, t__32behind_32, t__32most_321_32, t__431, t__451, t_0, t_1, t_1_32most_32, t_12, t_1_95, t_6, t_7, t__59, t__59_32, t_Most, t_Most_321_32, t_apart, t_apart_32, t_before, t_before_32, t_behind, t_least, t_least_32_431_32, t_least_321_32, t_least_3212_32, t_most, t_most_32, t_most_32_451_32, t_most_320_32, t_most_321, t_most_321_32, t_most_321_32_32, t_most_321_59, t_most_321_95_32, t_most_326, t_most_327_32, t_same, t_same_32, t_steps, t_steps_32])) (fa ((by unfold Rre.Wd; decide +kernel)) (fa (wd_one ha) fa_nil)) (step_none (prW_len (by simp)) (ng_few (.inl rfl) (by simp)))
theorem i31 : Bd acts (a ++ Str.ofString "  before " ++ a) := bd_words (ws := [a, Str.ofString "", Str.ofString "before", a]) (by simp) (TL.ext_tl (by
  rw [TL.tl_join]; simp only [List.map, TL.joinL, TL.tl_append, List.append_assoc, List.cons_append, List.nil_append, List.append_nil, t_e, t__32, t__32_32before_32, t__32before, t__32before_32, t__32behind_32, t__32most_321_32, t__431, t__451, t_0, t_1, t_1_32most_32, t_12, t_1_95, t_6, t_7, t__59, t__59_32, t_Most, t_Most_321_32, t_apart, t_apart_32, t_before, t_before_32, t_behind, t_least, t_least_32_431_32, t_least_321_32, t_least_3212_32, t_most, t_most_32, t_most_32_451_32, t_most_320_32, t_most_321, t_most_321_32, t_most_321_32_32, t_most_321_59, t_most_321_95_32, t_most_326, t_most_327_32, t_same, t_same_32, t_steps, t_steps_32])) (fa (Rre.Wd.lo ha.1) (fa ((by unfold Rre.Wd; decide +kernel)) (fa ((by unfold Rre.Wd; decide +kernel)) (fa (Rre.Wd.lo ha.1) fa_nil)))) (step_none (prW_len (by simp)) (ng_first ha.nk))
theorem i32 : Bd acts (a ++ Str.ofString " before " ++ a ++ Str.ofString "; " ++ a ++ Str.ofString " before " ++ a) := bd_twin A haa (TL.ext_tl (by
  rw [TL.tl_join]; simp only [List.map, TL.joinL, TL.tl_append, TL.tl_join, List.append_assoc, List.cons_append, List.nil_append, t_e, t__32, t__32_32before_32, t__32before, t__32before_32, t__32behind_32, t__32most_321_32, t__431, t__451, t_0, t_1, t_1_32most_32, t_12, t_1_95, t_6, t_7, t__59, t__59_32, t_Most, t_Most_321_32, t_apart, t_apart_32, t_before, t_before_32, t_behind, t_least, t_least_32_431_32, t_least_321_32, t_least_3212_32, t_most, t_most_32, t_most_32_451_32, t_most_320_32, t_most_321, t_most_321_32, t_most_321_32_32, t_most_321_59, t_most_321_95_32, t_most_326, t_most_327_32, t_same, t_same_32, t_steps, t_steps_32]))
theorem i34 : Bd acts (Str.ofString "before") := bd_words (ws := [Str.ofString "before"]) (by simp) (TL.ext_tl (by
  rw [TL.tl_join]; simp only [List.map, TL.joinL, TL.tl_append, List.append_assoc, List.cons_append, List.nil_append, List.append_nil, t_e, t__32, t__32_32before_32, t__32before, t__32before_32, t__32behind_32, t__32most_321_32, t__431, t__451, t_0, t_1, t_1_32most_32, t_12, t_1_95, t_6, t_7, t__59, t__59_32, t_Most, t_Most_321_32, t_apart, t_apart_32, t_before, t_before_32, t_behind, t_least, t_least_32_431_32, t_least_321_32, t_least_3212_32, t_most, t_most_32, t_most_32_451_32, t_most_320_32, t_most_321, t_most_321_32, t_most_321_32_32, t_most_321_59, t_most_321_95_32, t_most_326, t_most_327_32, t_same, t_same_32, t_steps, t_steps_32])) (fa ((by unfold Rre.Wd; decide +kernel)) fa_nil) (step_none (prW_len (by simp)) (ng_first (by decide +kernel)))
theorem i35 : Bd acts (Str.ofString "same") := bd_words (ws := [Str.ofString "same"]) (by simp) (TL.ext_tl (by
  rw [TL.tl_join]; simp only [List.map, TL.joinL, TL.tl_append, List.append_assoc, List.cons_append, List.nil_append, List.append_nil, t_e, t__32, t__32_32before_32, t__32before, t__32before_32, t__32behind_32, t__32most_321_32, t__431, t__451, t_0, t_1, t_1_32most_32, t_12, t_1_95, t_6, t_7, t__59, t__59_32, t_Most, t_Most_321_32, t_apart, t_apart_32, t_before, t_before_32, t_behind, t_least, t_least_32_431_32, t_least_321_32, t_least_3212_32, t_most, t_most_32, t_most_32_451_32, t_most_320_32, t_most_321, t_most_321_32, t_most_321_32_32, t_most_321_59, t_most_321_95_32, t_most_326, t_most_327_32, t_same, t_same_32, t_steps, t_steps_32])) (fa ((by unfold Rre.Wd; decide +kernel)) fa_nil) (step_none (prW_len (by simp)) (ng_kl (by decide +kernel) (by simp)))
theorem i36 : Bd acts (Str.ofString "apart " ++ a ++ Str.ofString " " ++ a ++ Str.ofString " " ++ a) := bd_words (ws := [Str.ofString "apart", a, a, a]) (by simp) (TL.ext_tl (by
  rw [TL.tl_join]; simp only [List.map, TL.joinL, TL.tl_append, List.append_assoc, List.cons_append, List.nil_append, List.append_nil, t_e, t__32, t__32_32before_32, t__32before, t__32before_32, t__32behind_32, t__32most_321_32, t__431, t__451, t_0, t_1, t_1_32most_32, t_12, t_1_95, t_6, t_7, t__59, t__59_32, t_Most, t_Most_321_32, t_apart, t_apart_32, t_before, t_before_32, t_behind, t_least, t_least_32_431_32, t_least_321_32, t_least_3212_32, t_most, t_most_32, t_most_32_451_32, t_most_320_32, t_most_321, t_most_321_32, t_most_321_32_32, t_most_321_59, t_most_321_95_32, t_most_326, t_most_327_32, t_same, t_same_32, t_steps, t_steps_32])) (fa ((by unfold Rre.Wd; decide +kernel)) (fa (Rre.Wd.lo ha.1) (fa (Rre.Wd.lo ha.1) (fa (Rre.Wd.lo ha.1) fa_nil)))) (step_none (prW_len (by simp)) (ng_kl (by decide +kernel) (by simp)))
theorem i37 : Bd acts (Str.ofString "most") := bd_words (ws := [Str.ofString "most"]) (by simp) (TL.ext_tl (by
  rw [TL.tl_join]; simp only [List.map, TL.joinL, TL.tl_append, List.append_assoc, List.cons_append, List.nil_append, List.append_nil, t_e, t__32, t__32_32before_32, t__32before, t__32before_32, t__32behind_32, t__32most_321_32, t__431, t__451, t_0, t_1, t_1_32most_32, t_12, t_1_95, t_6, t_7, t__59, t__59_32, t_Most, t_Most_321_32, t_apart, t_apart_32, t_before, t_before_32, t_behind, t_least, t_least_32_431_32, t_least_321_32, t_least_3212_32, t_most, t_most_32, t_most_32_451_32, t_most_320_32, t_most_321, t_most_321_32, t_most_321_32_32, t_most_321_59, t_most_321_95_32, t_most_326, t_most_327_32, t_same, t_same_32, t_steps, t_steps_32])) (fa ((by unfold Rre.Wd; decide +kernel)) fa_nil) (step_none (prW_len (by simp)) (ng_few (.inl rfl) (by simp)))
theorem i38 : Bd acts (Str.ofString "least 1 " ++ a ++ Str.ofString " " ++ x) := bd_words (ws := [Str.ofString "least", Str.ofString "1", a, x]) (by simp) (TL.ext_tl (by
  rw [TL.tl_join]; simp only [List.map, TL.joinL, TL.tl_append, List.append_assoc, List.cons_append, List.nil_append, List.append_nil, t_e, t__32, t__32_32before_32, t__32before, t__32before_32, t__32behind_32, t__32most_321_32, t__431, t__451, t_0, t_1, t_1_32most_32, t_12, t_1_95, t_6, t_7, t__59, t__59_32, t_Most, t_Most_321_32, t_apart, t_apart_32, t_before, t_before_32, t_behind, t_least, t_least_32_431_32, t_least_321_32, t_least_3212_32, t_most, t_most_32, t_most_32_451_32, t_most_320_32, t_most_321, t_most_321_32, t_most_321_32_32, t_most_321_59, t_most_321_95_32, t_most_326, t_most_327_32, t_same, t_same_32, t_steps, t_steps_32])) (fa ((by unfold Rre.Wd; decide +kernel)) (fa ((by unfold Rre.Wd; decide +kernel)) (fa (Rre.Wd.lo ha.1) (fa (Rre.Wd.lo hx.1) fa_nil)))) (step_none (prW_len (by simp)) (ng_pl (.inr rfl) (np_mem (List.mem_cons_of_mem _ List.mem_cons_self) hxa)))
theorem i39 : Bd acts (Str.ofString "most 6") := bd_words (ws := [Str.ofString "most", Str.ofString "6"]) (by simp) (TL.ext_tl (by
  rw [TL.tl_join]; simp only [List.map, TL.joinL, TL.tl_append, List.append_assoc, List.cons_append, List.nil_append, List.append_nil, t_e, t__32, t__32_32before_32, t__32before, t__32before_32, t__32behind_32, t__32most_321_32, t__431, t__451, t_0, t_1, t_1_32most_32, t_12, t_1_95, t_6, t_7, t__59, t__59_32, t_Most, t_Most_321_32, t_apart, t_apart_32, t_before, t_before_32, t_behind, t_least, t_least_32_431_32, t_least_321_32, t_least_3212_32, t_most, t_most_32, t_most_32_451_32, t_most_320_32, t_most_321, t_most_321_32, t_most_321_32_32, t_most_321_59, t_most_321_95_32, t_most_326, t_most_327_32, t_same, t_same_32, t_steps, t_steps_32])) (fa ((by unfold Rre.Wd; decide +kernel)) (fa ((by unfold Rre.Wd; decide +kernel)) fa_nil)) (step_none (prW_len (by simp)) (ng_few (.inl rfl) (by simp)))
theorem i40 : Bd acts (Str.ofString "1 most " ++ a) := bd_words (ws := [Str.ofString "1", Str.ofString "most", a]) (by simp) (TL.ext_tl (by
  rw [TL.tl_join]; simp only [List.map, TL.joinL, TL.tl_append, List.append_assoc, List.cons_append, List.nil_append, List.append_nil, t_e, t__32, t__32_32before_32, t__32before, t__32before_32, t__32behind_32, t__32most_321_32, t__431, t__451, t_0, t_1, t_1_32most_32, t_12, t_1_95, t_6, t_7, t__59, t__59_32, t_Most, t_Most_321_32, t_apart, t_apart_32, t_before, t_before_32, t_behind, t_least, t_least_32_431_32, t_least_321_32, t_least_3212_32, t_most, t_most_32, t_most_32_451_32, t_most_320_32, t_most_321, t_most_321_32, t_most_321_32_32, t_most_321_59, t_most_321_95_32, t_most_326, t_most_327_32, t_same, t_same_32, t_steps, t_steps_32])) (fa ((by unfold Rre.Wd; decide +kernel)) (fa ((by unfold Rre.Wd; decide +kernel)) (fa (Rre.Wd.lo ha.1) fa_nil))) (step_none (prW_mid (by decide +kernel)) (ng_first (by decide +kernel)))
def bads (a x : Str) : List Str := [(x ++ Str.ofString " before " ++ a), (a ++ Str.ofString " before " ++ x), (a ++ Str.ofString " before"), (Str.ofString "before " ++ a), (a ++ Str.ofString " before " ++ a ++ Str.ofString " " ++ a), (a ++ Str.ofString " behind " ++ a), (a), (Str.ofString "most " ++ a), (Str.ofString "most 1"), (Str.ofString "most 0 " ++ a), (Str.ofString "most 7 " ++ a), (Str.ofString "least 1 " ++ x), (Str.ofString "most 1 " ++ a ++ Str.ofString " " ++ a), (Str.ofString "least 12 " ++ a), (Str.ofString "Most 1 " ++ a), (Str.ofString "most 1  " ++ a), (Str.ofString " most 1 " ++ a), (Str.ofString "most 1 " ++ a ++ Str.ofString " "), (Str.ofString "apart " ++ a ++ Str.ofString " " ++ a), (Str.ofString "apart " ++ a), (Str.ofString "same " ++ a ++ Str.ofString " " ++ x), (Str.ofString ""), (Str.ofString "same " ++ a ++ Str.ofString " " ++ a), (Str.ofString " "), (Str.ofString "steps " ++ a), (Str.ofString "least +1 " ++ a), (Str.ofString "most 1_ " ++ a), (Str.ofString "most 1;" ++ a), (a ++ Str.ofString " before " ++ a ++ Str.ofString ";"), (Str.ofString "most -1 " ++ a), (Str.ofString "most 1" ++ a), (a ++ Str.ofString "  before " ++ a), (a ++ Str.ofString " before " ++ a ++ Str.ofString "; " ++ a ++ Str.ofString " before " ++ a), (Str.join (Str.ofString "; ") (List.replicate 13 (Str.ofString "most 1 " ++ a))), (Str.ofString "before"), (Str.ofString "same"), (Str.ofString "apart " ++ a ++ Str.ofString " " ++ a ++ Str.ofString " " ++ a), (Str.ofString "most"), (Str.ofString "least 1 " ++ a ++ Str.ofString " " ++ x), (Str.ofString "most 6"), (Str.ofString "1 most " ++ a)]
theorem all_bad : ∀ t ∈ bads a x, Bd acts t := (fa (i0 A haa ha hx hxa) (fa (i1 A haa ha hx hxa) (fa (i2 A haa ha hx hxa) (fa (i3 A haa ha hx hxa) (fa (i4 A haa ha hx hxa) (fa (i5 A haa ha hx hxa) (fa (i6 A haa ha hx hxa) (fa (i7 A haa ha hx hxa) (fa (i8 A haa ha hx hxa) (fa (i9 A haa ha hx hxa) (fa (i10 A haa ha hx hxa) (fa (i11 A haa ha hx hxa) (fa (i12 A haa ha hx hxa) (fa (i13 A haa ha hx hxa) (fa (i14 A haa ha hx hxa) (fa (i15 A haa ha hx hxa) (fa (i16 A haa ha hx hxa) (fa (i17 A haa ha hx hxa) (fa (i18 A haa ha hx hxa) (fa (i19 A haa ha hx hxa) (fa (i20 A haa ha hx hxa) (fa (i21 A haa ha hx hxa) (fa (i22 A haa ha hx hxa) (fa (i23 A haa ha hx hxa) (fa (i24 A haa ha hx hxa) (fa (i25 A haa ha hx hxa) (fa (i26 A haa ha hx hxa) (fa (i27 A haa ha hx hxa) (fa (i28 A haa ha hx hxa) (fa (i29 A haa ha hx hxa) (fa (i30 A haa ha hx hxa) (fa (i31 A haa ha hx hxa) (fa (i32 A haa ha hx hxa) (fa (i33 A haa ha hx hxa) (fa (i34 A haa ha hx hxa) (fa (i35 A haa ha hx hxa) (fa (i36 A haa ha hx hxa) (fa (i37 A haa ha hx hxa) (fa (i38 A haa ha hx hxa) (fa (i39 A haa ha hx hxa) (fa (i40 A haa ha hx hxa) fa_nil)))))))))))))))))))))))))))))))))))))))))
end
end Rdx
namespace Rdx
open PySem DL Ti De Gw Bi Lc Be Tx Nm En Ro Rs Rre Rue Tg
theorem n_e : (Str.ofString "").length = 0 := by decide +kernel
theorem n__32 : (Str.ofString " ").length = 1 := by decide +kernel
theorem n__32_32before_32 : (Str.ofString "  before ").length = 9 := by decide +kernel
theorem n__32before : (Str.ofString " before").length = 7 := by decide +kernel
theorem n__32before_32 : (Str.ofString " before ").length = 8 := by decide +kernel
theorem n__32behind_32 : (Str.ofString " behind ").length = 8 := by decide +kernel
theorem n__32most_321_32 : (Str.ofString " most 1 ").length = 8 := by decide +kernel
theorem n__431 : (Str.ofString "+1").length = 2 := by decide +kernel
theorem n__451 : (Str.ofString "-1").length = 2 := by decide +kernel
theorem n_0 : (Str.ofString "0").length = 1 := by decide +kernel
theorem n_1 : (Str.ofString "1").length = 1 := by decide +kernel
theorem n_1_32most_32 : (Str.ofString "1 most ").length = 7 := by decide +kernel
theorem n_12 : (Str.ofString "12").length = 2 := by decide +kernel
theorem n_1_95 : (Str.ofString "1_").length = 2 := by decide +kernel
theorem n_6 : (Str.ofString "6").length = 1 := by decide +kernel
theorem n_7 : (Str.ofString "7").length = 1 := by decide +kernel
theorem n__59 : (Str.ofString ";").length = 1 := by decide +kernel
theorem n__59_32 : (Str.ofString "; ").length = 2 := by decide +kernel
theorem n_Most : (Str.ofString "Most").length = 4 := by decide +kernel
theorem n_Most_321_32 : (Str.ofString "Most 1 ").length = 7 := by decide +kernel
theorem n_apart : (Str.ofString "apart").length = 5 := by decide +kernel
theorem n_apart_32 : (Str.ofString "apart ").length = 6 := by decide +kernel
theorem n_before : (Str.ofString "before").length = 6 := by decide +kernel
theorem n_before_32 : (Str.ofString "before ").length = 7 := by decide +kernel
theorem n_behind : (Str.ofString "behind").length = 6 := by decide +kernel
theorem n_least : (Str.ofString "least").length = 5 := by decide +kernel
theorem n_least_32_431_32 : (Str.ofString "least +1 ").length = 9 := by decide +kernel
theorem n_least_321_32 : (Str.ofString "least 1 ").length = 8 := by decide +kernel
theorem n_least_3212_32 : (Str.ofString "least 12 ").length = 9 := by decide +kernel
theorem n_most : (Str.ofString "most").length = 4 := by decide +kernel
theorem n_most_32 : (Str.ofString "most ").length = 5 := by decide +kernel
theorem n_most_32_451_32 : (Str.ofString "most -1 ").length = 8 := by decide +kernel
theorem n_most_320_32 : (Str.ofString "most 0 ").length = 7 := by decide +kernel
theorem n_most_321 : (Str.ofString "most 1").length = 6 := by decide +kernel
theorem n_most_321_32 : (Str.ofString "most 1 ").length = 7 := by decide +kernel
theorem n_most_321_32_32 : (Str.ofString "most 1  ").length = 8 := by decide +kernel
theorem n_most_321_59 : (Str.ofString "most 1;").length = 7 := by decide +kernel
theorem n_most_321_95_32 : (Str.ofString "most 1_ ").length = 8 := by decide +kernel
theorem n_most_326 : (Str.ofString "most 6").length = 6 := by decide +kernel
theorem n_most_327_32 : (Str.ofString "most 7 ").length = 7 := by decide +kernel
theorem n_same : (Str.ofString "same").length = 4 := by decide +kernel
theorem n_same_32 : (Str.ofString "same ").length = 5 := by decide +kernel
theorem n_steps : (Str.ofString "steps").length = 5 := by decide +kernel
theorem n_steps_32 : (Str.ofString "steps ").length = 6 := by decide +kernel
theorem pickS {xs : List Str} (hx : xs ≠ []) (c : Int) : ∃ x ∈ xs, dIxA (.lst (xs.map .str)) (.int (c % (xs.length : Int))) = .ok (.str x) := by
  have h0 : 0 < xs.length := List.length_pos_iff.mpr hx
  have h1 : 0 ≤ c % (xs.length : Int) := Int.emod_nonneg _ (by omega)
  have h2 : c % (xs.length : Int) < (xs.length : Int) := Int.emod_lt_of_pos _ (by omega)
  have h3 : (c % (xs.length : Int)).toNat < xs.length := by omega
  exact ⟨xs[(c % (xs.length : Int)).toNat], List.getElem_mem _, DL.ixA_lst h1 (by rw [List.getElem?_map, List.getElem?_eq_getElem h3]; rfl)⟩
theorem join13 {m : Str} (h : m.length ≤ 20) : txK (R.ok (D.str (Str.ofString "; "))) (grd (small (1 * 13)) (R.ok (D.lst [[D.str m], [D.str m], [D.str m], [D.str m], [D.str m], [D.str m], [D.str m], [D.str m], [D.str m], [D.str m], [D.str m], [D.str m], [D.str m]].flatten))) dJoin = .ok (.str (Str.join (Str.ofString "; ") (List.replicate 13 m))) := by
  show dJoin (Str.ofString "; ") (.lst ((List.replicate 13 m).map .str)) = _
  refine DL.join_strs ?_
  have h2 := sum_le (l := List.replicate 13 m) (B := 20) fun y hy => by rw [List.eq_of_mem_replicate hy]; exact h
  have h4 : (Str.ofString "; ").length = 2 := by decide +kernel
  rw [h4]
  rw [List.length_replicate] at h2 ⊢
  omega
theorem bad_part_eq {a x : Str} (ha : a.length ≤ 8) (hx : x.length ≤ 8) (c : Int) : ∃ o, ∃ t ∈ bads a x, Fn.law_bad_part_a01f [.str a, .str x, .int c] = .ok (o, .str t) := by
  unfold Fn.law_bad_part_a01f; rw [DL.ap_body (by rfl)]; unfold Fn.law_bad_part_a01f_g
  walk_at "dl"
  repeat (first | (rw [DL.small_of (by simp only [len_app, n_e, n__32, n__32_32before_32, n__32before, n__32before_32, n__32behind_32, n__32most_321_32, n__431, n__451, n_0, n_1, n_1_32most_32, n_12, n_1_95, n_6, n_7, n__59, n__59_32, n_Most, n_Most_321_32, n_apart, n_apart_32, n_before, n_before_32, n_behind, n_least, n_least_32_431_32, n_least_321_32, n_least_3212_32, n_most, n_most_32, n_most_32_451_32, n_most_320_32, n_most_321, n_most_321_32, n_most_321_32_32, n_most_321_59, n_most_321_95_32, n_most_326, n_most_327_32, n_same, n_same_32, n_steps, n_steps_32]; omega)]; walk_at "dl") | (rw [join13 (by simp only [len_app, n_e, n__32, n__32_32before_32, n__32before, n__32before_32, n__32behind_32, n__32most_321_32, n__431, n__451, n_0, n_1, n_1_32most_32, n_12, n_1_95, n_6, n_7, n__59, n__59_32, n_Most, n_Most_321_32, n_apart, n_apart_32, n_before, n_before_32, n_behind, n_least, n_least_32_431_32, n_least_321_32, n_least_3212_32, n_most, n_most_32, n_most_32_451_32, n_most_320_32, n_most_321, n_most_321_32, n_most_321_32_32, n_most_321_59, n_most_321_95_32, n_most_326, n_most_327_32, n_same, n_same_32, n_steps, n_steps_32]; omega)]; walk_at "dl"))
  rw [DL.mod_pos (by decide)]
  obtain ⟨t, ht, e⟩ := pickS (xs := bads a x) (List.cons_ne_nil _ _) c
  refine ⟨false, t, ht, ?_⟩
  show endD (noE (retK (dIxA (.lst ((bads a x).map .str)) (.int (c % ((bads a x).length : Int)))) false)) = _
  rw [e]
  rfl
theorem len13 {m : Str} (h : m.length ≤ 20) : (Str.join (Str.ofString "; ") (List.replicate 13 m)).length ≤ 400 := by
  have h1 := len_join (Str.ofString "; ") (List.replicate 13 m)
  have h2 := sum_le (l := List.replicate 13 m) (B := 20) fun y hy => by rw [List.eq_of_mem_replicate hy]; exact h
  have h4 : (Str.ofString "; ").length = 2 := by decide +kernel
  rw [h4] at h1
  rw [List.length_replicate] at h1 h2
  omega
theorem bads_len {a x : Str} (ha : a.length ≤ 8) (hx : x.length ≤ 8) : ∀ t ∈ bads a x, t.length ≤ 400 := (fa (by first | omega | (simp only [len_app, n_e, n__32, n__32_32before_32, n__32before, n__32before_32, n__32behind_32, n__32most_321_32, n__431, n__451, n_0, n_1, n_1_32most_32, n_12, n_1_95, n_6, n_7, n__59, n__59_32, n_Most, n_Most_321_32, n_apart, n_apart_32, n_before, n_before_32, n_behind, n_least, n_least_32_431_32, n_least_321_32, n_least_3212_32, n_most, n_most_32, n_most_32_451_32, n_most_320_32, n_most_321, n_most_321_32, n_most_321_32_32, n_most_321_59, n_most_321_95_32, n_most_326, n_most_327_32, n_same, n_same_32, n_steps, n_steps_32]; omega) | simp only [len_app, n_e, n__32, n__32_32before_32, n__32before, n__32before_32, n__32behind_32, n__32most_321_32, n__431, n__451, n_0, n_1, n_1_32most_32, n_12, n_1_95, n_6, n_7, n__59, n__59_32, n_Most, n_Most_321_32, n_apart, n_apart_32, n_before, n_before_32, n_behind, n_least, n_least_32_431_32, n_least_321_32, n_least_3212_32, n_most, n_most_32, n_most_32_451_32, n_most_320_32, n_most_321, n_most_321_32, n_most_321_32_32, n_most_321_59, n_most_321_95_32, n_most_326, n_most_327_32, n_same, n_same_32, n_steps, n_steps_32]) (fa (by first | omega | (simp only [len_app, n_e, n__32, n__32_32before_32, n__32before, n__32before_32, n__32behind_32, n__32most_321_32, n__431, n__451, n_0, n_1, n_1_32most_32, n_12, n_1_95, n_6, n_7, n__59, n__59_32, n_Most, n_Most_321_32, n_apart, n_apart_32, n_before, n_before_32, n_behind, n_least, n_least_32_431_32, n_least_321_32, n_least_3212_32, n_most, n_most_32, n_most_32_451_32, n_most_320_32, n_most_321, n_most_321_32, n_most_321_32_32, n_most_321_59, n_most_321_95_32, n_most_326, n_most_327_32, n_same, n_same_32, n_steps, n_steps_32]; omega) | simp only [len_app, n_e, n__32, n__32_32before_32, n__32before, n__32before_32, n__32behind_32, n__32most_321_32, n__431, n__451, n_0, n_1, n_1_32most_32, n_12, n_1_95, n_6, n_7, n__59, n__59_32, n_Most, n_Most_321_32, n_apart, n_apart_32, n_before, n_before_32, n_behind, n_least, n_least_32_431_32, n_least_321_32, n_least_3212_32, n_most, n_most_32, n_most_32_451_32, n_most_320_32, n_most_321, n_most_321_32, n_most_321_32_32, n_most_321_59, n_most_321_95_32, n_most_326, n_most_327_32, n_same, n_same_32, n_steps, n_steps_32]) (fa (by first | omega | (simp only [len_app, n_e, n__32, n__32_32before_32, n__32before, n__32before_32, n__32behind_32, n__32most_321_32, n__431, n__451, n_0, n_1, n_1_32most_32, n_12, n_1_95, n_6, n_7, n__59, n__59_32, n_Most, n_Most_321_32, n_apart, n_apart_32, n_before, n_before_32, n_behind, n_least, n_least_32_431_32, n_least_321_32, n_least_3212_32, n_most, n_most_32, n_most_32_451_32, n_most_320_32, n_most_321, n_most_321_32, n_most_321_32_32, n_most_321_59, n_most_321_95_32, n_most_326, n_most_327_32, n_same, n_same_32, n_steps, n_steps_32]; omega) | simp only [len_app, n_e, n__32, n__32_32before_32, n__32before, n__32before_32, n__32behind_32, n__32most_321_32, n__431, n__451, n_0, n_1, n_1_32most_32, n_12, n_1_95, n_6, n_7, n__59, n__59_32, n_Most, n_Most_321_32, n_apart, n_apart_32, n_before, n_before_32, n_behind, n_least, n_least_32_431_32, n_least_321_32, n_least_3212_32, n_most, n_most_32, n_most_32_451_32, n_most_320_32, n_most_321, n_most_321_32, n_most_321_32_32, n_most_321_59, n_most_321_95_32, n_most_326, n_most_327_32, n_same, n_same_32, n_steps, n_steps_32]) (fa (by first | omega | (simp only [len_app, n_e, n__32, n__32_32before_32, n__32before, n__32before_32, n__32behind_32, n__32most_321_32, n__431, n__451, n_0, n_1, n_1_32most_32, n_12, n_1_95, n_6, n_7, n__59, n__59_32, n_Most, n_Most_321_32, n_apart, n_apart_32, n_before, n_before_32, n_behind, n_least, n_least_32_431_32, n_least_321_32, n_least_3212_32, n_most, n_most_32, n_most_32_451_32, n_most_320_32, n_most_321, n_most_321_32, n_most_321_32_32, n_most_321_59, n_most_321_95_32, n_most_326, n_most_327_32, n_same, n_same_32, n_steps, n_steps_32]; omega) | simp only [len_app, n_e, n__32, n__32_32before_32, n__32before, n__32before_32, n__32behind_32, n__32most_321_32, n__431, n__451, n_0, n_1, n_1_32most_32, n_12, n_1_95, n_6, n_7, n__59, n__59_32, n_Most, n_Most_321_32, n_apart, n_apart_32, n_before, n_before_32, n_behind, n_least, n_least_32_431_32, n_least_321_32, n_least_3212_32, n_most, n_most_32, n_most_32_451_32, n_most_320_32, n_most_321, n_most_321_32, n_most_321_32_32, n_most_321_59, n_most_321_95_32, n_most_326, n_most_327_32, n_same, n_same_32, n_steps, n_steps_32]) (fa (by first | omega | (simp only [len_app, n_e, n__32, n__32_32before_32, n__32before, n__32before_32, n__32behind_32, n__32most_321_32, n__431, n__451, n_0, n_1, n_1_32most_32, n_12, n_1_95, n_6, n_7, n__59, n__59_32, n_Most, n_Most_321_32, n_apart, n_apart_32, n_before, n_before_32, n_behind, n_least, n_least_32_431_32, n_least_321_32, n_least_3212_32, n_most, n_most_32, n_most_32_451_32, n_most_320_32, n_most_321, n_most_321_32, n_most_321_32_32, n_most_321_59, n_most_321_95_32, n_most_326, n_most_327_32, n_same, n_same_32, n_steps, n_steps_32]; omega) | simp only [len_app, n_e, n__32, n__32_32before_32, n__32before, n__32before_32, n__32behind_32, n__32most_321_32, n__431, n__451, n_0, n_1, n_1_32most_32, n_12, n_1_95, n_6, n_7, n__59, n__59_32, n_Most, n_Most_321_32, n_apart, n_apart_32, n_before, n_before_32, n_behind, n_least, n_least_32_431_32, n_least_321_32, n_least_3212_32, n_most, n_most_32, n_most_32_451_32, n_most_320_32, n_most_321, n_most_321_32, n_most_321_32_32, n_most_321_59, n_most_321_95_32, n_most_326, n_most_327_32, n_same, n_same_32, n_steps, n_steps_32]) (fa (by first | omega | (simp only [len_app, n_e, n__32, n__32_32before_32, n__32before, n__32before_32, n__32behind_32, n__32most_321_32, n__431, n__451, n_0, n_1, n_1_32most_32, n_12, n_1_95, n_6, n_7, n__59, n__59_32, n_Most, n_Most_321_32, n_apart, n_apart_32, n_before, n_before_32, n_behind, n_least, n_least_32_431_32, n_least_321_32, n_least_3212_32, n_most, n_most_32, n_most_32_451_32, n_most_320_32, n_most_321, n_most_321_32, n_most_321_32_32, n_most_321_59, n_most_321_95_32, n_most_326, n_most_327_32, n_same, n_same_32, n_steps, n_steps_32]; omega) | simp only [len_app, n_e, n__32, n__32_32before_32, n__32before, n__32before_32, n__32behind_32, n__32most_321_32, n__431, n__451, n_0, n_1, n_1_32most_32, n_12, n_1_95, n_6, n_7, n__59, n__59_32, n_Most, n_Most_321_32, n_apart, n_apart_32, n_before, n_before_32, n_behind, n_least, n_least_32_431_32, n_least_321_32, n_least_3212_32, n_most, n_most_32, n_most_32_451_32, n_most_320_32, n_most_321, n_most_321_32, n_most_321_32_32, n_most_321_59, n_most_321_95_32, n_most_326, n_most_327_32, n_same, n_same_32, n_steps, n_steps_32]) (fa (by first | omega | (simp only [len_app, n_e, n__32, n__32_32before_32, n__32before, n__32before_32, n__32behind_32, n__32most_321_32, n__431, n__451, n_0, n_1, n_1_32most_32, n_12, n_1_95, n_6, n_7, n__59, n__59_32, n_Most, n_Most_321_32, n_apart, n_apart_32, n_before, n_before_32, n_behind, n_least, n_least_32_431_32, n_least_321_32, n_least_3212_32, n_most, n_most_32, n_most_32_451_32, n_most_320_32, n_most_321, n_most_321_32, n_most_321_32_32, n_most_321_59, n_most_321_95_32, n_most_326, n_most_327_32, n_same, n_same_32, n_steps, n_steps_32]; omega) | simp only [len_app, n_e, n__32, n__32_32before_32, n__32before, n__32before_32, n__32behind_32, n__32most_321_32, n__431, n__451, n_0, n_1, n_1_32most_32, n_12, n_1_95, n_6, n_7, n__59, n__59_32, n_Most, n_Most_321_32, n_apart, n_apart_32, n_before, n_before_32, n_behind, n_least, n_least_32_431_32, n_least_321_32, n_least_3212_32, n_most, n_most_32, n_most_32_451_32, n_most_320_32, n_most_321, n_most_321_32, n_most_321_32_32, n_most_321_59, n_most_321_95_32, n_most_326, n_most_327_32, n_same, n_same_32, n_steps, n_steps_32]) (fa (by first | omega | (simp only [len_app, n_e, n__32, n__32_32before_32, n__32before, n__32before_32, n__32behind_32, n__32most_321_32, n__431, n__451, n_0, n_1, n_1_32most_32, n_12, n_1_95, n_6, n_7, n__59, n__59_32, n_Most, n_Most_321_32, n_apart, n_apart_32, n_before, n_before_32, n_behind, n_least, n_least_32_431_32, n_least_321_32, n_least_3212_32, n_most, n_most_32, n_most_32_451_32, n_most_320_32, n_most_321, n_most_321_32, n_most_321_32_32, n_most_321_59, n_most_321_95_32, n_most_326, n_most_327_32, n_same, n_same_32, n_steps, n_steps_32]; omega) | simp only [len_app, n_e, n__32, n__32_32before_32, n__32before, n__32before_32, n__32behind_32, n__32most_321_32, n__431, n__451, n_0, n_1, n_1_32most_32, n_12, n_1_95, n_6, n_7, n__59, n__59_32, n_Most, n_Most_321_32, n_apart, n_apart_32, n_before, n_before_32, n_behind, n_least, n_least_32_431_32, n_least_321_32, n_least_3212_32, n_most, n_most_32, n_most_32_451_32, n_most_320_32, n_most_321, n_most_321_32, n_most_321_32_32, n_most_321_59, n_most_321_95_32, n_most_326, n_most_327_32, n_same, n_same_32, n_steps, n_steps_32]) (fa (by first | omega | (simp only [len_app, n_e, n__32, n__32_32before_32, n__32before, n__32before_32, n__32behind_32, n__32most_321_32, n__431, n__451, n_0, n_1, n_1_32most_32, n_12, n_1_95, n_6, n_7, n__59, n__59_32, n_Most, n_Most_321_32, n_apart, n_apart_32, n_before, n_before_32, n_behind, n_least, n_least_32_431_32, n_least_321_32, n_least_3212_32, n_most, n_most_32, n_most_32_451_32, n_most_320_32, n_most_321, n_most_321_32, n_most_321_32_32, n_most_321_59, n_most_321_95_32, n_most_326, n_most_327_32, n_same, n_same_32, n_steps, n_steps_32]; omega) | simp only [len_app, n_e, n__32, n__32_32before_32, n__32before, n__32before_32, n__32behind_32, n__32most_321_32, n__431, n__451, n_0, n_1, n_1_32most_32, n_12, n_1_95, n_6, n_7, n__59, n__59_32, n_Most, n_Most_321_32, n_apart, n_apart_32, n_before, n_before_32, n_behind, n_least, n_least_32_431_32, n_least_321_32, n_least_3212_32, n_most, n_most_32, n_most_32_451_32, n_most_320_32, n_most_321, n_most_321_32, n_most_321_32_32, n_most_321_59, n_most_321_95_32, n_most_326, n_most_327_32, n_same, n_same_32, n_steps, n_steps_32]) (fa (by first | omega | (simp only [len_app, n_e, n__32, n__32_32before_32, n__32before, n__32before_32, n__32behind_32, n__32most_321_32, n__431, n__451, n_0, n_1, n_1_32most_32, n_12, n_1_95, n_6, n_7, n__59, n__59_32, n_Most, n_Most_321_32, n_apart, n_apart_32, n_before, n_before_32, n_behind, n_least, n_least_32_431_32, n_least_321_32, n_least_3212_32, n_most, n_most_32, n_most_32_451_32, n_most_320_32, n_most_321, n_most_321_32, n_most_321_32_32, n_most_321_59, n_most_321_95_32, n_most_326, n_most_327_32, n_same, n_same_32, n_steps, n_steps_32]; omega) | simp only [len_app, n_e, n__32, n__32_32before_32, n__32before, n__32before_32, n__32behind_32, n__32most_321_32, n__431, n__451, n_0, n_1, n_1_32most_32, n_12, n_1_95, n_6, n_7, n__59, n__59_32, n_Most, n_Most_321_32, n_apart, n_apart_32, n_before, n_before_32, n_behind, n_least, n_least_32_431_32, n_least_321_32, n_least_3212_32, n_most, n_most_32, n_most_32_451_32, n_most_320_32, n_most_321, n_most_321_32, n_most_321_32_32, n_most_321_59, n_most_321_95_32, n_most_326, n_most_327_32, n_same, n_same_32, n_steps, n_steps_32]) (fa (by first | omega | (simp only [len_app, n_e, n__32, n__32_32before_32, n__32before, n__32before_32, n__32behind_32, n__32most_321_32, n__431, n__451, n_0, n_1, n_1_32most_32, n_12, n_1_95, n_6, n_7, n__59, n__59_32, n_Most, n_Most_321_32, n_apart, n_apart_32, n_before, n_before_32, n_behind, n_least, n_least_32_431_32, n_least_321_32, n_least_3212_32, n_most, n_most_32, n_most_32_451_32, n_most_320_32, n_most_321, n_most_321_32, n_most_321_32_32, n_most_321_59, n_most_321_95_32, n_most_326, n_most_327_32, n_same, n_same_32, n_steps, n_steps_32]; omega) | simp only [len_app, n_e, n__32, n__32_32before_32, n__32before, n__32before_32, n__32behind_32, n__32most_321_32, n__431, n__451, n_0, n_1, n_1_32most_32, n_12, n_1_95, n_6, n_7, n__59, n__59_32, n_Most, n_Most_321_32, n_apart, n_apart_32, n_before, n_before_32, n_behind, n_least, n_least_32_431_32, n_least_321_32, n_least_3212_32, n_most, n_most_32, n_most_32_451_32, n_most_320_32, n_most_321, n_most_321_32, n_most_321_32_32, n_most_321_59, n_most_321_95_32, n_most_326, n_most_327_32, n_same, n_same_32, n_steps, n_steps_32]) (fa (by first | omega | (simp only [len_app, n_e, n__32, n__32_32before_32, n__32before, n__32before_32, n__32behind_32, n__32most_321_32, n__431, n__451, n_0, n_1, n_1_32most_32, n_12, n_1_95, n_6, n_7, n__59, n__59_32, n_Most, n_Most_321_32, n_apart, n_apart_32, n_before, n_before_32, n_behind, n_least, n_least_32_431_32, n_least_321_32, n_least_3212_32, n_most, n_most_32, n_most_32_451_32, n_most_320_32, n_most_321, n_most_321_32, n_most_321_32_32, n_most_321_59, n_most_321_95_32, n_most_326, n_most_327_32, n_same, n_same_32, n_steps, n_steps_32]; omega) | simp only [len_app, n_e, n__32, n__32_32before_32, n__32before, n__32before_32, n__32behind_32, n__32most_321_32, n__431, n__451, n_0, n_1, n_1_32most_32, n_12, n_1_95, n_6, n_7, n__59, n__59_32, n_Most, n_Most_321_32, n_apart, n_apart_32, n_before, n_before_32, n_behind, n_least, n_least_32_431_32, n_least_321_32, n_least_3212_32, n_most, n_most_32, n_most_32_451_32, n_most_320_32, n_most_321, n_most_321_32, n_most_321_32_32, n_most_321_59, n_most_321_95_32, n_most_326, n_most_327_32, n_same, n_same_32, n_steps, n_steps_32]) (fa (by first | omega | (simp only [len_app, n_e, n__32, n__32_32before_32, n__32before, n__32before_32, n__32behind_32, n__32most_321_32, n__431, n__451, n_0, n_1, n_1_32most_32, n_12, n_1_95, n_6, n_7, n__59, n__59_32, n_Most, n_Most_321_32, n_apart, n_apart_32, n_before, n_before_32, n_behind, n_least, n_least_32_431_32, n_least_321_32, n_least_3212_32, n_most, n_most_32, n_most_32_451_32, n_most_320_32, n_most_321, n_most_321_32, n_most_321_32_32, n_most_321_59, n_most_321_95_32, n_most_326, n_most_327_32, n_same, n_same_32, n_steps, n_steps_32]; omega) | simp only [len_app, n_e, n__32, n__32_32before_32, n__32before, n__32before_32, n__32behind_32, n__32most_321_32, n__431, n__451, n_0, n_1, n_1_32most_32, n_12, n_1_95, n_6, n_7, n__59, n__59_32, n_Most, n_Most_321_32, n_apart, n_apart_32, n_before, n_before_32, n_behind, n_least, n_least_32_431_32, n_least_321_32, n_least_3212_32, n_most, n_most_32, n_most_32_451_32, n_most_320_32, n_most_321, n_most_321_32, n_most_321_32_32, n_most_321_59, n_most_321_95_32, n_most_326, n_most_327_32, n_same, n_same_32, n_steps, n_steps_32]) (fa (by first | omega | (simp only [len_app, n_e, n__32, n__32_32before_32, n__32before, n__32before_32, n__32behind_32, n__32most_321_32, n__431, n__451, n_0, n_1, n_1_32most_32, n_12, n_1_95, n_6, n_7, n__59, n__59_32, n_Most, n_Most_321_32, n_apart, n_apart_32, n_before, n_before_32, n_behind, n_least, n_least_32_431_32, n_least_321_32, n_least_3212_32, n_most, n_most_32, n_most_32_451_32, n_most_320_32, n_most_321, n_most_321_32, n_most_321_32_32, n_most_321_59, n_most_321_95_32, n_most_326, n_most_327_32, n_same, n_same_32, n_steps, n_steps_32]; omega) | simp only [len_app, n_e, n__32, n__32_32before_32, n__32before, n__32before_32, n__32behind_32, n__32most_321_32, n__431, n__451, n_0, n_1, n_1_32most_32, n_12, n_1_95, n_6, n_7, n__59, n__59_32, n_Most, n_Most_321_32, n_apart, n_apart_32, n_before, n_before_32, n_behind, n_least, n_least_32_431_32, n_least_321_32, n_least_3212_32, n_most, n_most_32, n_most_32_451_32, n_most_320_32, n_most_321, n_most_321_32, n_most_321_32_32, n_most_321_59, n_most_321_95_32, n_most_326, n_most_327_32, n_same, n_same_32, n_steps, n_steps_32]) (fa (by first | omega | (simp only [len_app, n_e, n__32, n__32_32before_32, n__32before, n__32before_32, n__32behind_32, n__32most_321_32, n__431, n__451, n_0, n_1, n_1_32most_32, n_12, n_1_95, n_6, n_7, n__59, n__59_32, n_Most, n_Most_321_32, n_apart, n_apart_32, n_before, n_before_32, n_behind, n_least, n_least_32_431_32, n_least_321_32, n_least_3212_32, n_most, n_most_32, n_most_32_451_32, n_most_320_32, n_most_321, n_most_321_32, n_most_321_32_32, n_most_321_59, n_most_321_95_32, n_most_326, n_most_327_32, n_same, n_same_32, n_steps, n_steps_32]; omega) | simp only [len_app, n_e, n__32, n__32_32before_32, n__32before, n__32before_32, n__32behind_32, n__32most_321_32, n__431, n__451, n_0, n_1, n_1_32most_32, n_12, n_1_95, n_6, n_7, n__59, n__59_32, n_Most, n_Most_321_32, n_apart, n_apart_32, n_before, n_before_32, n_behind, n_least, n_least_32_431_32, n_least_321_32, n_least_3212_32, n_most, n_most_32, n_most_32_451_32, n_most_320_32, n_most_321, n_most_321_32, n_most_321_32_32, n_most_321_59, n_most_321_95_32, n_most_326, n_most_327_32, n_same, n_same_32, n_steps, n_steps_32]) (fa (by first | omega | (simp only [len_app, n_e, n__32, n__32_32before_32, n__32before, n__32before_32, n__32behind_32, n__32most_321_32, n__431, n__451, n_0, n_1, n_1_32most_32, n_12, n_1_95, n_6, n_7, n__59, n__59_32, n_Most, n_Most_321_32, n_apart, n_apart_32, n_before, n_before_32, n_behind, n_least, n_least_32_431_32, n_least_321_32, n_least_3212_32, n_most, n_most_32, n_most_32_451_32, n_most_320_32, n_most_321, n_most_321_32, n_most_321_32_32, n_most_321_59, n_most_321_95_32, n_most_326, n_most_327_32, n_same, n_same_32, n_steps, n_steps_32]; omega) | simp only [len_app, n_e, n__32, n__32_32before_32, n__32before, n__32before_32, n__32behind_32, n__32most_321_32, n__431, n__451, n_0, n_1, n_1_32most_32, n_12, n_1_95, n_6, n_7, n__59, n__59_32, n_Most, n_Most_321_32, n_apart, n_apart_32, n_before, n_before_32, n_behind, n_least, n_least_32_431_32, n_least_321_32, n_least_3212_32, n_most, n_most_32, n_most_32_451_32, n_most_320_32, n_most_321, n_most_321_32, n_most_321_32_32, n_most_321_59, n_most_321_95_32, n_most_326, n_most_327_32, n_same, n_same_32, n_steps, n_steps_32]) (fa (by first | omega | (simp only [len_app, n_e, n__32, n__32_32before_32, n__32before, n__32before_32, n__32behind_32, n__32most_321_32, n__431, n__451, n_0, n_1, n_1_32most_32, n_12, n_1_95, n_6, n_7, n__59, n__59_32, n_Most, n_Most_321_32, n_apart, n_apart_32, n_before, n_before_32, n_behind, n_least, n_least_32_431_32, n_least_321_32, n_least_3212_32, n_most, n_most_32, n_most_32_451_32, n_most_320_32, n_most_321, n_most_321_32, n_most_321_32_32, n_most_321_59, n_most_321_95_32, n_most_326, n_most_327_32, n_same, n_same_32, n_steps, n_steps_32]; omega) | simp only [len_app, n_e, n__32, n__32_32before_32, n__32before, n__32before_32, n__32behind_32, n__32most_321_32, n__431, n__451, n_0, n_1, n_1_32most_32, n_12, n_1_95, n_6, n_7, n__59, n__59_32, n_Most, n_Most_321_32, n_apart, n_apart_32, n_before, n_before_32, n_behind, n_least, n_least_32_431_32, n_least_321_32, n_least_3212_32, n_most, n_most_32, n_most_32_451_32, n_most_320_32, n_most_321, n_most_321_32, n_most_321_32_32, n_most_321_59, n_most_321_95_32, n_most_326, n_most_327_32, n_same, n_same_32, n_steps, n_steps_32]) (fa (by first | omega | (simp only [len_app, n_e, n__32, n__32_32before_32, n__32before, n__32before_32, n__32behind_32, n__32most_321_32, n__431, n__451, n_0, n_1, n_1_32most_32, n_12, n_1_95, n_6, n_7, n__59, n__59_32, n_Most, n_Most_321_32, n_apart, n_apart_32, n_before, n_before_32, n_behind, n_least, n_least_32_431_32, n_least_321_32, n_least_3212_32, n_most, n_most_32, n_most_32_451_32, n_most_320_32, n_most_321, n_most_321_32, n_most_321_32_32, n_most_321_59, n_most_321_95_32, n_most_326, n_most_327_32, n_same, n_same_32, n_steps, n_steps_32]; omega) | simp only [len_app, n_e, n__32, n__32_32before_32, n__32before, n__32before_32, n__32behind_32, n__32most_321_32, n__431, n__451, n_0, n_1, n_1_32most_32, n_12, n_1_95, n_6, n_7, n__59, n__59_32, n_Most, n_Most_321_32, n_apart, n_apart_32, n_before, n_before_32, n_behind, n_least, n_least_32_431_32, n_least_321_32, n_least_3212_32, n_most, n_most_32, n_most_32_451_32, n_most_320_32, n_most_321, n_most_321_32, n_most_321_32_32, n_most_321_59, n_most_321_95_32, n_most_326, n_most_327_32, n_same, n_same_32, n_steps, n_steps_32]) (fa (by first | omega | (simp only [len_app, n_e, n__32, n__32_32before_32, n__32before, n__32before_32, n__32behind_32, n__32most_321_32, n__431, n__451, n_0, n_1, n_1_32most_32, n_12, n_1_95, n_6, n_7, n__59, n__59_32, n_Most, n_Most_321_32, n_apart, n_apart_32, n_before, n_before_32, n_behind, n_least, n_least_32_431_32, n_least_321_32, n_least_3212_32, n_most, n_most_32, n_most_32_451_32, n_most_320_32, n_most_321, n_most_321_32, n_most_321_32_32, n_most_321_59, n_most_321_95_32, n_most_326, n_most_327_32, n_same, n_same_32, n_steps, n_steps_32]; omega) | simp only [len_app, n_e, n__32, n__32_32before_32, n__32before, n__32before_32, n__32behind_32, n__32most_321_32, n__431, n__451, n_0, n_1, n_1_32most_32, n_12, n_1_95, n_6, n_7, n__59, n__59_32, n_Most, n_Most_321_32, n_apart, n_apart_32, n_before, n_before_32, n_behind, n_least, n_least_32_431_32, n_least_321_32, n_least_3212_32, n_most, n_most_32, n_most_32_451_32, n_most_320_32, n_most_321, n_most_321_32, n_most_321_32_32, n_most_321_59, n_most_321_95_32, n_most_326, n_most_327_32, n_same, n_same_32, n_steps, n_steps_32]) (fa (by first | omega | (simp only [len_app, n_e, n__32, n__32_32before_32, n__32before, n__32before_32, n__32behind_32, n__32most_321_32, n__431, n__451, n_0, n_1, n_1_32most_32, n_12, n_1_95, n_6, n_7, n__59, n__59_32, n_Most, n_Most_321_32, n_apart, n_apart_32, n_before, n_before_32, n_behind, n_least, n_least_32_431_32, n_least_321_32, n_least_3212_32, n_most, n_most_32, n_most_32_451_32, n_most_320_32, n_most_321, n_most_321_32, n_most_321_32_32, n_most_321_59, n_most_321_95_32, n_most_326, n_most_327_32, n_same, n_same_32, n_steps, n_steps_32]; omega) | simp only [len_app, n_e, n__32, n__32_32before_32, n__32before, n__32before_32, n__32behind_32, n__32most_321_32, n__431, n__451, n_0, n_1, n_1_32most_32, n_12, n_1_95, n_6, n_7, n__59, n__59_32, n_Most, n_Most_321_32, n_apart, n_apart_32, n_before, n_before_32, n_behind, n_least, n_least_32_431_32, n_least_321_32, n_least_3212_32, n_most, n_most_32, n_most_32_451_32, n_most_320_32, n_most_321, n_most_321_32, n_most_321_32_32, n_most_321_59, n_most_321_95_32, n_most_326, n_most_327_32, n_same, n_same_32, n_steps, n_steps_32]) (fa (by first | omega | (simp only [len_app, n_e, n__32, n__32_32before_32, n__32before, n__32before_32, n__32behind_32, n__32most_321_32, n__431, n__451, n_0, n_1, n_1_32most_32, n_12, n_1_95, n_6, n_7, n__59, n__59_32, n_Most, n_Most_321_32, n_apart, n_apart_32, n_before, n_before_32, n_behind, n_least, n_least_32_431_32, n_least_321_32, n_least_3212_32, n_most, n_most_32, n_most_32_451_32, n_most_320_32, n_most_321, n_most_321_32, n_most_321_32_32, n_most_321_59, n_most_321_95_32, n_most_326, n_most_327_32, n_same, n_same_32, n_steps, n_steps_32]; omega) | simp only [len_app, n_e, n__32, n__32_32before_32, n__32before, n__32before_32, n__32behind_32, n__32most_321_32, n__431, n__451, n_0, n_1, n_1_32most_32, n_12, n_1_95, n_6, n_7, n__59, n__59_32, n_Most, n_Most_321_32, n_apart, n_apart_32, n_before, n_before_32, n_behind, n_least, n_least_32_431_32, n_least_321_32, n_least_3212_32, n_most, n_most_32, n_most_32_451_32, n_most_320_32, n_most_321, n_most_321_32, n_most_321_32_32, n_most_321_59, n_most_321_95_32, n_most_326, n_most_327_32, n_same, n_same_32, n_steps, n_steps_32]) (fa (by first | omega | (simp only [len_app, n_e, n__32, n__32_32before_32, n__32before, n__32before_32, n__32behind_32, n__32most_321_32, n__431, n__451, n_0, n_1, n_1_32most_32, n_12, n_1_95, n_6, n_7, n__59, n__59_32, n_Most, n_Most_321_32, n_apart, n_apart_32, n_before, n_before_32, n_behind, n_least, n_least_32_431_32, n_least_321_32, n_least_3212_32, n_most, n_most_32, n_most_32_451_32, n_most_320_32, n_most_321, n_most_321_32, n_most_321_32_32, n_most_321_59, n_most_321_95_32, n_most_326, n_most_327_32, n_same, n_same_32, n_steps, n_steps_32]; omega) | simp only [len_app, n_e, n__32, n__32_32before_32, n__32before, n__32before_32, n__32behind_32, n__32most_321_32, n__431, n__451, n_0, n_1, n_1_32most_32, n_12, n_1_95, n_6, n_7, n__59, n__59_32, n_Most, n_Most_321_32, n_apart, n_apart_32, n_before, n_before_32, n_behind, n_least, n_least_32_431_32, n_least_321_32, n_least_3212_32, n_most, n_most_32, n_most_32_451_32, n_most_320_32, n_most_321, n_most_321_32, n_most_321_32_32, n_most_321_59, n_most_321_95_32, n_most_326, n_most_327_32, n_same, n_same_32, n_steps, n_steps_32]) (fa (by first | omega | (simp only [len_app, n_e, n__32, n__32_32before_32, n__32before, n__32before_32, n__32behind_32, n__32most_321_32, n__431, n__451, n_0, n_1, n_1_32most_32, n_12, n_1_95, n_6, n_7, n__59, n__59_32, n_Most, n_Most_321_32, n_apart, n_apart_32, n_before, n_before_32, n_behind, n_least, n_least_32_431_32, n_least_321_32, n_least_3212_32, n_most, n_most_32, n_most_32_451_32, n_most_320_32, n_most_321, n_most_321_32, n_most_321_32_32, n_most_321_59, n_most_321_95_32, n_most_326, n_most_327_32, n_same, n_same_32, n_steps, n_steps_32]; omega) | simp only [len_app, n_e, n__32, n__32_32before_32, n__32before, n__32before_32, n__32behind_32, n__32most_321_32, n__431, n__451, n_0, n_1, n_1_32most_32, n_12, n_1_95, n_6, n_7, n__59, n__59_32, n_Most, n_Most_321_32, n_apart, n_apart_32, n_before, n_before_32, n_behind, n_least, n_least_32_431_32, n_least_321_32, n_least_3212_32, n_most, n_most_32, n_most_32_451_32, n_most_320_32, n_most_321, n_most_321_32, n_most_321_32_32, n_most_321_59, n_most_321_95_32, n_most_326, n_most_327_32, n_same, n_same_32, n_steps, n_steps_32]) (fa (by first | omega | (simp only [len_app, n_e, n__32, n__32_32before_32, n__32before, n__32before_32, n__32behind_32, n__32most_321_32, n__431, n__451, n_0, n_1, n_1_32most_32, n_12, n_1_95, n_6, n_7, n__59, n__59_32, n_Most, n_Most_321_32, n_apart, n_apart_32, n_before, n_before_32, n_behind, n_least, n_least_32_431_32, n_least_321_32, n_least_3212_32, n_most, n_most_32, n_most_32_451_32, n_most_320_32, n_most_321, n_most_321_32, n_most_321_32_32, n_most_321_59, n_most_321_95_32, n_most_326, n_most_327_32, n_same, n_same_32, n_steps, n_steps_32]; omega) | simp only [len_app, n_e, n__32, n__32_32before_32, n__32before, n__32before_32, n__32behind_32, n__32most_321_32, n__431, n__451, n_0, n_1, n_1_32most_32, n_12, n_1_95, n_6, n_7, n__59, n__59_32, n_Most, n_Most_321_32, n_apart, n_apart_32, n_before, n_before_32, n_behind, n_least, n_least_32_431_32, n_least_321_32, n_least_3212_32, n_most, n_most_32, n_most_32_451_32, n_most_320_32, n_most_321, n_most_321_32, n_most_321_32_32, n_most_321_59, n_most_321_95_32, n_most_326, n_most_327_32, n_same, n_same_32, n_steps, n_steps_32]) (fa (by first | omega | (simp only [len_app, n_e, n__32, n__32_32before_32, n__32before, n__32before_32, n__32behind_32, n__32most_321_32, n__431, n__451, n_0, n_1, n_1_32most_32, n_12, n_1_95, n_6, n_7, n__59, n__59_32, n_Most, n_Most_321_32, n_apart, n_apart_32, n_before, n_before_32, n_behind, n_least, n_least_32_431_32, n_least_321_32, n_least_3212_32, n_most, n_most_32, n_most_32_451_32, n_most_320_32, n_most_321, n_most_321_32, n_most_321_32_32, n_most_321_59, n_most_321_95_32, n_most_326, n_most_327_32, n_same, n_same_32, n_steps, n_steps_32]; omega) | simp only [len_app, n_e, n__32, n__32_32before_32, n__32before, n__32before_32, n__32behind_32, n__32most_321_32, n__431, n__451, n_0, n_1, n_1_32most_32, n_12, n_1_95, n_6, n_7, n__59, n__59_32, n_Most, n_Most_321_32, n_apart, n_apart_32, n_before, n_before_32, n_behind, n_least, n_least_32_431_32, n_least_321_32, n_least_3212_32, n_most, n_most_32, n_most_32_451_32, n_most_320_32, n_most_321, n_most_321_32, n_most_321_32_32, n_most_321_59, n_most_321_95_32, n_most_326, n_most_327_32, n_same, n_same_32, n_steps, n_steps_32]) (fa (by first | omega | (simp only [len_app, n_e, n__32, n__32_32before_32, n__32before, n__32before_32, n__32behind_32, n__32most_321_32, n__431, n__451, n_0, n_1, n_1_32most_32, n_12, n_1_95, n_6, n_7, n__59, n__59_32, n_Most, n_Most_321_32, n_apart, n_apart_32, n_before, n_before_32, n_behind, n_least, n_least_32_431_32, n_least_321_32, n_least_3212_32, n_most, n_most_32, n_most_32_451_32, n_most_320_32, n_most_321, n_most_321_32, n_most_321_32_32, n_most_321_59, n_most_321_95_32, n_most_326, n_most_327_32, n_same, n_same_32, n_steps, n_steps_32]; omega) | simp only [len_app, n_e, n__32, n__32_32before_32, n__32before, n__32before_32, n__32behind_32, n__32most_321_32, n__431, n__451, n_0, n_1, n_1_32most_32, n_12, n_1_95, n_6, n_7, n__59, n__59_32, n_Most, n_Most_321_32, n_apart, n_apart_32, n_before, n_before_32, n_behind, n_least, n_least_32_431_32, n_least_321_32, n_least_3212_32, n_most, n_most_32, n_most_32_451_32, n_most_320_32, n_most_321, n_most_321_32, n_most_321_32_32, n_most_321_59, n_most_321_95_32, n_most_326, n_most_327_32, n_same, n_same_32, n_steps, n_steps_32]) (fa (by first | omega | (simp only [len_app, n_e, n__32, n__32_32before_32, n__32before, n__32before_32, n__32behind_32, n__32most_321_32, n__431, n__451, n_0, n_1, n_1_32most_32, n_12, n_1_95, n_6, n_7, n__59, n__59_32, n_Most, n_Most_321_32, n_apart, n_apart_32, n_before, n_before_32, n_behind, n_least, n_least_32_431_32, n_least_321_32, n_least_3212_32, n_most, n_most_32, n_most_32_451_32, n_most_320_32, n_most_321, n_most_321_32, n_most_321_32_32, n_most_321_59, n_most_321_95_32, n_most_326, n_most_327_32, n_same, n_same_32, n_steps, n_steps_32]; omega) | simp only [len_app, n_e, n__32, n__32_32before_32, n__32before, n__32before_32, n__32behind_32, n__32most_321_32, n__431, n__451, n_0, n_1, n_1_32most_32, n_12, n_1_95, n_6, n_7, n__59, n__59_32, n_Most, n_Most_321_32, n_apart, n_apart_32, n_before, n_before_32, n_behind, n_least, n_least_32_431_32, n_least_321_32, n_least_3212_32, n_most, n_most_32, n_most_32_451_32, n_most_320_32, n_most_321, n_most_321_32, n_most_321_32_32, n_most_321_59, n_most_321_95_32, n_most_326, n_most_327_32, n_same, n_same_32, n_steps, n_steps_32]) (fa (by first | omega | (simp only [len_app, n_e, n__32, n__32_32before_32, n__32before, n__32before_32, n__32behind_32, n__32most_321_32, n__431, n__451, n_0, n_1, n_1_32most_32, n_12, n_1_95, n_6, n_7, n__59, n__59_32, n_Most, n_Most_321_32, n_apart, n_apart_32, n_before, n_before_32, n_behind, n_least, n_least_32_431_32, n_least_321_32, n_least_3212_32, n_most, n_most_32, n_most_32_451_32, n_most_320_32, n_most_321, n_most_321_32, n_most_321_32_32, n_most_321_59, n_most_321_95_32, n_most_326, n_most_327_32, n_same, n_same_32, n_steps, n_steps_32]; omega) | simp only [len_app, n_e, n__32, n__32_32before_32, n__32before, n__32before_32, n__32behind_32, n__32most_321_32, n__431, n__451, n_0, n_1, n_1_32most_32, n_12, n_1_95, n_6, n_7, n__59, n__59_32, n_Most, n_Most_321_32, n_apart, n_apart_32, n_before, n_before_32, n_behind, n_least, n_least_32_431_32, n_least_321_32, n_least_3212_32, n_most, n_most_32, n_most_32_451_32, n_most_320_32, n_most_321, n_most_321_32, n_most_321_32_32, n_most_321_59, n_most_321_95_32, n_most_326, n_most_327_32, n_same, n_same_32, n_steps, n_steps_32]) (fa (by first | omega | (simp only [len_app, n_e, n__32, n__32_32before_32, n__32before, n__32before_32, n__32behind_32, n__32most_321_32, n__431, n__451, n_0, n_1, n_1_32most_32, n_12, n_1_95, n_6, n_7, n__59, n__59_32, n_Most, n_Most_321_32, n_apart, n_apart_32, n_before, n_before_32, n_behind, n_least, n_least_32_431_32, n_least_321_32, n_least_3212_32, n_most, n_most_32, n_most_32_451_32, n_most_320_32, n_most_321, n_most_321_32, n_most_321_32_32, n_most_321_59, n_most_321_95_32, n_most_326, n_most_327_32, n_same, n_same_32, n_steps, n_steps_32]; omega) | simp only [len_app, n_e, n__32, n__32_32before_32, n__32before, n__32before_32, n__32behind_32, n__32most_321_32, n__431, n__451, n_0, n_1, n_1_32most_32, n_12, n_1_95, n_6, n_7, n__59, n__59_32, n_Most, n_Most_321_32, n_apart, n_apart_32, n_before, n_before_32, n_behind, n_least, n_least_32_431_32, n_least_321_32, n_least_3212_32, n_most, n_most_32, n_most_32_451_32, n_most_320_32, n_most_321, n_most_321_32, n_most_321_32_32, n_most_321_59, n_most_321_95_32, n_most_326, n_most_327_32, n_same, n_same_32, n_steps, n_steps_32]) (fa (by first | omega | (simp only [len_app, n_e, n__32, n__32_32before_32, n__32before, n__32before_32, n__32behind_32, n__32most_321_32, n__431, n__451, n_0, n_1, n_1_32most_32, n_12, n_1_95, n_6, n_7, n__59, n__59_32, n_Most, n_Most_321_32, n_apart, n_apart_32, n_before, n_before_32, n_behind, n_least, n_least_32_431_32, n_least_321_32, n_least_3212_32, n_most, n_most_32, n_most_32_451_32, n_most_320_32, n_most_321, n_most_321_32, n_most_321_32_32, n_most_321_59, n_most_321_95_32, n_most_326, n_most_327_32, n_same, n_same_32, n_steps, n_steps_32]; omega) | simp only [len_app, n_e, n__32, n__32_32before_32, n__32before, n__32before_32, n__32behind_32, n__32most_321_32, n__431, n__451, n_0, n_1, n_1_32most_32, n_12, n_1_95, n_6, n_7, n__59, n__59_32, n_Most, n_Most_321_32, n_apart, n_apart_32, n_before, n_before_32, n_behind, n_least, n_least_32_431_32, n_least_321_32, n_least_3212_32, n_most, n_most_32, n_most_32_451_32, n_most_320_32, n_most_321, n_most_321_32, n_most_321_32_32, n_most_321_59, n_most_321_95_32, n_most_326, n_most_327_32, n_same, n_same_32, n_steps, n_steps_32]) (fa (by first | omega | (simp only [len_app, n_e, n__32, n__32_32before_32, n__32before, n__32before_32, n__32behind_32, n__32most_321_32, n__431, n__451, n_0, n_1, n_1_32most_32, n_12, n_1_95, n_6, n_7, n__59, n__59_32, n_Most, n_Most_321_32, n_apart, n_apart_32, n_before, n_before_32, n_behind, n_least, n_least_32_431_32, n_least_321_32, n_least_3212_32, n_most, n_most_32, n_most_32_451_32, n_most_320_32, n_most_321, n_most_321_32, n_most_321_32_32, n_most_321_59, n_most_321_95_32, n_most_326, n_most_327_32, n_same, n_same_32, n_steps, n_steps_32]; omega) | simp only [len_app, n_e, n__32, n__32_32before_32, n__32before, n__32before_32, n__32behind_32, n__32most_321_32, n__431, n__451, n_0, n_1, n_1_32most_32, n_12, n_1_95, n_6, n_7, n__59, n__59_32, n_Most, n_Most_321_32, n_apart, n_apart_32, n_before, n_before_32, n_behind, n_least, n_least_32_431_32, n_least_321_32, n_least_3212_32, n_most, n_most_32, n_most_32_451_32, n_most_320_32, n_most_321, n_most_321_32, n_most_321_32_32, n_most_321_59, n_most_321_95_32, n_most_326, n_most_327_32, n_same, n_same_32, n_steps, n_steps_32]) (fa (by first | omega | (simp only [len_app, n_e, n__32, n__32_32before_32, n__32before, n__32before_32, n__32behind_32, n__32most_321_32, n__431, n__451, n_0, n_1, n_1_32most_32, n_12, n_1_95, n_6, n_7, n__59, n__59_32, n_Most, n_Most_321_32, n_apart, n_apart_32, n_before, n_before_32, n_behind, n_least, n_least_32_431_32, n_least_321_32, n_least_3212_32, n_most, n_most_32, n_most_32_451_32, n_most_320_32, n_most_321, n_most_321_32, n_most_321_32_32, n_most_321_59, n_most_321_95_32, n_most_326, n_most_327_32, n_same, n_same_32, n_steps, n_steps_32]; omega) | simp only [len_app, n_e, n__32, n__32_32before_32, n__32before, n__32before_32, n__32behind_32, n__32most_321_32, n__431, n__451, n_0, n_1, n_1_32most_32, n_12, n_1_95, n_6, n_7, n__59, n__59_32, n_Most, n_Most_321_32, n_apart, n_apart_32, n_before, n_before_32, n_behind, n_least, n_least_32_431_32, n_least_321_32, n_least_3212_32, n_most, n_most_32, n_most_32_451_32, n_most_320_32, n_most_321, n_most_321_32, n_most_321_32_32, n_most_321_59, n_most_321_95_32, n_most_326, n_most_327_32, n_same, n_same_32, n_steps, n_steps_32]) (fa (by first | omega | (simp only [len_app, n_e, n__32, n__32_32before_32, n__32before, n__32before_32, n__32behind_32, n__32most_321_32, n__431, n__451, n_0, n_1, n_1_32most_32, n_12, n_1_95, n_6, n_7, n__59, n__59_32, n_Most, n_Most_321_32, n_apart, n_apart_32, n_before, n_before_32, n_behind, n_least, n_least_32_431_32, n_least_321_32, n_least_3212_32, n_most, n_most_32, n_most_32_451_32, n_most_320_32, n_most_321, n_most_321_32, n_most_321_32_32, n_most_321_59, n_most_321_95_32, n_most_326, n_most_327_32, n_same, n_same_32, n_steps, n_steps_32]; omega) | simp only [len_app, n_e, n__32, n__32_32before_32, n__32before, n__32before_32, n__32behind_32, n__32most_321_32, n__431, n__451, n_0, n_1, n_1_32most_32, n_12, n_1_95, n_6, n_7, n__59, n__59_32, n_Most, n_Most_321_32, n_apart, n_apart_32, n_before, n_before_32, n_behind, n_least, n_least_32_431_32, n_least_321_32, n_least_3212_32, n_most, n_most_32, n_most_32_451_32, n_most_320_32, n_most_321, n_most_321_32, n_most_321_32_32, n_most_321_59, n_most_321_95_32, n_most_326, n_most_327_32, n_same, n_same_32, n_steps, n_steps_32]) (fa (len13 (by simp only [len_app, n_e, n__32, n__32_32before_32, n__32before, n__32before_32, n__32behind_32, n__32most_321_32, n__431, n__451, n_0, n_1, n_1_32most_32, n_12, n_1_95, n_6, n_7, n__59, n__59_32, n_Most, n_Most_321_32, n_apart, n_apart_32, n_before, n_before_32, n_behind, n_least, n_least_32_431_32, n_least_321_32, n_least_3212_32, n_most, n_most_32, n_most_32_451_32, n_most_320_32, n_most_321, n_most_321_32, n_most_321_32_32, n_most_321_59, n_most_321_95_32, n_most_326, n_most_327_32, n_same, n_same_32, n_steps, n_steps_32]; omega)) (fa (by first | omega | (simp only [len_app, n_e, n__32, n__32_32before_32, n__32before, n__32before_32, n__32behind_32, n__32most_321_32, n__431, n__451, n_0, n_1, n_1_32most_32, n_12, n_1_95, n_6, n_7, n__59, n__59_32, n_Most, n_Most_321_32, n_apart, n_apart_32, n_before, n_before_32, n_behind, n_least, n_least_32_431_32, n_least_321_32, n_least_3212_32, n_most, n_most_32, n_most_32_451_32, n_most_320_32, n_most_321, n_most_321_32, n_most_321_32_32, n_most_321_59, n_most_321_95_32, n_most_326, n_most_327_32, n_same, n_same_32, n_steps, n_steps_32]; omega) | simp only [len_app, n_e, n__32, n__32_32before_32, n__32before, n__32before_32, n__32behind_32, n__32most_321_32, n__431, n__451, n_0, n_1, n_1_32most_32, n_12, n_1_95, n_6, n_7, n__59, n__59_32, n_Most, n_Most_321_32, n_apart, n_apart_32, n_before, n_before_32, n_behind, n_least, n_least_32_431_32, n_least_321_32, n_least_3212_32, n_most, n_most_32, n_most_32_451_32, n_most_320_32, n_most_321, n_most_321_32, n_most_321_32_32, n_most_321_59, n_most_321_95_32, n_most_326, n_most_327_32, n_same, n_same_32, n_steps, n_steps_32]) (fa (by first | omega | (simp only [len_app, n_e, n__32, n__32_32before_32, n__32before, n__32before_32, n__32behind_32, n__32most_321_32, n__431, n__451, n_0, n_1, n_1_32most_32, n_12, n_1_95, n_6, n_7, n__59, n__59_32, n_Most, n_Most_321_32, n_apart, n_apart_32, n_before, n_before_32, n_behind, n_least, n_least_32_431_32, n_least_321_32, n_least_3212_32, n_most, n_most_32, n_most_32_451_32, n_most_320_32, n_most_321, n_most_321_32, n_most_321_32_32, n_most_321_59, n_most_321_95_32, n_most_326, n_most_327_32, n_same, n_same_32, n_steps, n_steps_32]; omega) | simp only [len_app, n_e, n__32, n__32_32before_32, n__32before, n__32before_32, n__32behind_32, n__32most_321_32, n__431, n__451, n_0, n_1, n_1_32most_32, n_12, n_1_95, n_6, n_7, n__59, n__59_32, n_Most, n_Most_321_32, n_apart, n_apart_32, n_before, n_before_32, n_behind, n_least, n_least_32_431_32, n_least_321_32, n_least_3212_32, n_most, n_most_32, n_most_32_451_32, n_most_320_32, n_most_321, n_most_321_32, n_most_321_32_32, n_most_321_59, n_most_321_95_32, n_most_326, n_most_327_32, n_same, n_same_32, n_steps, n_steps_32]) (fa (by first | omega | (simp only [len_app, n_e, n__32, n__32_32before_32, n__32before, n__32before_32, n__32behind_32, n__32most_321_32, n__431, n__451, n_0, n_1, n_1_32most_32, n_12, n_1_95, n_6, n_7, n__59, n__59_32, n_Most, n_Most_321_32, n_apart, n_apart_32, n_before, n_before_32, n_behind, n_least, n_least_32_431_32, n_least_321_32, n_least_3212_32, n_most, n_most_32, n_most_32_451_32, n_most_320_32, n_most_321, n_most_321_32, n_most_321_32_32, n_most_321_59, n_most_321_95_32, n_most_326, n_most_327_32, n_same, n_same_32, n_steps, n_steps_32]; omega) | simp only [len_app, n_e, n__32, n__32_32before_32, n__32before, n__32before_32, n__32behind_32, n__32most_321_32, n__431, n__451, n_0, n_1, n_1_32most_32, n_12, n_1_95, n_6, n_7, n__59, n__59_32, n_Most, n_Most_321_32, n_apart, n_apart_32, n_before, n_before_32, n_behind, n_least, n_least_32_431_32, n_least_321_32, n_least_3212_32, n_most, n_most_32, n_most_32_451_32, n_most_320_32, n_most_321, n_most_321_32, n_most_321_32_32, n_most_321_59, n_most_321_95_32, n_most_326, n_most_327_32, n_same, n_same_32, n_steps, n_steps_32]) (fa (by first | omega | (simp only [len_app, n_e, n__32, n__32_32before_32, n__32before, n__32before_32, n__32behind_32, n__32most_321_32, n__431, n__451, n_0, n_1, n_1_32most_32, n_12, n_1_95, n_6, n_7, n__59, n__59_32, n_Most, n_Most_321_32, n_apart, n_apart_32, n_before, n_before_32, n_behind, n_least, n_least_32_431_32, n_least_321_32, n_least_3212_32, n_most, n_most_32, n_most_32_451_32, n_most_320_32, n_most_321, n_most_321_32, n_most_321_32_32, n_most_321_59, n_most_321_95_32, n_most_326, n_most_327_32, n_same, n_same_32, n_steps, n_steps_32]; omega) | simp only [len_app, n_e, n__32, n__32_32before_32, n__32before, n__32before_32, n__32behind_32, n__32most_321_32, n__431, n__451, n_0, n_1, n_1_32most_32, n_12, n_1_95, n_6, n_7, n__59, n__59_32, n_Most, n_Most_321_32, n_apart, n_apart_32, n_before, n_before_32, n_behind, n_least, n_least_32_431_32, n_least_321_32, n_least_3212_32, n_most, n_most_32, n_most_32_451_32, n_most_320_32, n_most_321, n_most_321_32, n_most_321_32_32, n_most_321_59, n_most_321_95_32, n_most_326, n_most_327_32, n_same, n_same_32, n_steps, n_steps_32]) (fa (by first | omega | (simp only [len_app, n_e, n__32, n__32_32before_32, n__32before, n__32before_32, n__32behind_32, n__32most_321_32, n__431, n__451, n_0, n_1, n_1_32most_32, n_12, n_1_95, n_6, n_7, n__59, n__59_32, n_Most, n_Most_321_32, n_apart, n_apart_32, n_before, n_before_32, n_behind, n_least, n_least_32_431_32, n_least_321_32, n_least_3212_32, n_most, n_most_32, n_most_32_451_32, n_most_320_32, n_most_321, n_most_321_32, n_most_321_32_32, n_most_321_59, n_most_321_95_32, n_most_326, n_most_327_32, n_same, n_same_32, n_steps, n_steps_32]; omega) | simp only [len_app, n_e, n__32, n__32_32before_32, n__32before, n__32before_32, n__32behind_32, n__32most_321_32, n__431, n__451, n_0, n_1, n_1_32most_32, n_12, n_1_95, n_6, n_7, n__59, n__59_32, n_Most, n_Most_321_32, n_apart, n_apart_32, n_before, n_before_32, n_behind, n_least, n_least_32_431_32, n_least_321_32, n_least_3212_32, n_most, n_most_32, n_most_32_451_32, n_most_320_32, n_most_321, n_most_321_32, n_most_321_32_32, n_most_321_59, n_most_321_95_32, n_most_326, n_most_327_32, n_same, n_same_32, n_steps, n_steps_32]) (fa (by first | omega | (simp only [len_app, n_e, n__32, n__32_32before_32, n__32before, n__32before_32, n__32behind_32, n__32most_321_32, n__431, n__451, n_0, n_1, n_1_32most_32, n_12, n_1_95, n_6, n_7, n__59, n__59_32, n_Most, n_Most_321_32, n_apart, n_apart_32, n_before, n_before_32, n_behind, n_least, n_least_32_431_32, n_least_321_32, n_least_3212_32, n_most, n_most_32, n_most_32_451_32, n_most_320_32, n_most_321, n_most_321_32, n_most_321_32_32, n_most_321_59, n_most_321_95_32, n_most_326, n_most_327_32, n_same, n_same_32, n_steps, n_steps_32]; omega) | simp only [len_app, n_e, n__32, n__32_32before_32, n__32before, n__32before_32, n__32behind_32, n__32most_321_32, n__431, n__451, n_0, n_1, n_1_32most_32, n_12, n_1_95, n_6, n_7, n__59, n__59_32, n_Most, n_Most_321_32, n_apart, n_apart_32, n_before, n_before_32, n_behind, n_least, n_least_32_431_32, n_least_321_32, n_least_3212_32, n_most, n_most_32, n_most_32_451_32, n_most_320_32, n_most_321, n_most_321_32, n_most_321_32_32, n_most_321_59, n_most_321_95_32, n_most_326, n_most_327_32, n_same, n_same_32, n_steps, n_steps_32]) (fa (by first | omega | (simp only [len_app, n_e, n__32, n__32_32before_32, n__32before, n__32before_32, n__32behind_32, n__32most_321_32, n__431, n__451, n_0, n_1, n_1_32most_32, n_12, n_1_95, n_6, n_7, n__59, n__59_32, n_Most, n_Most_321_32, n_apart, n_apart_32, n_before, n_before_32, n_behind, n_least, n_least_32_431_32, n_least_321_32, n_least_3212_32, n_most, n_most_32, n_most_32_451_32, n_most_320_32, n_most_321, n_most_321_32, n_most_321_32_32, n_most_321_59, n_most_321_95_32, n_most_326, n_most_327_32, n_same, n_same_32, n_steps, n_steps_32]; omega) | simp only [len_app, n_e, n__32, n__32_32before_32, n__32before, n__32before_32, n__32behind_32, n__32most_321_32, n__431, n__451, n_0, n_1, n_1_32most_32, n_12, n_1_95, n_6, n_7, n__59, n__59_32, n_Most, n_Most_321_32, n_apart, n_apart_32, n_before, n_before_32, n_behind, n_least, n_least_32_431_32, n_least_321_32, n_least_3212_32, n_most, n_most_32, n_most_32_451_32, n_most_320_32, n_most_321, n_most_321_32, n_most_321_32_32, n_most_321_59, n_most_321_95_32, n_most_326, n_most_327_32, n_same, n_same_32, n_steps, n_steps_32]) fa_nil)))))))))))))))))))))))))))))))))))))))))
end Rdx
namespace Rdx
open PySem DL Ti De Gw Bi Lc Be Tx Nm En Ro Rs Rre Rue Tg
def Hb (row : Str) : Prop := ∃ ws, ws ≠ [] ∧ row = Str.join (Str.ofString " ") ws ∧ (∀ w ∈ ws, Rre.Wd w) ∧ ∀ acts, ¬ HeadOk ws acts
structure Lb (l : List Str) : Prop where
  wd : ∀ w ∈ l, Rre.Wd w ∧ w.length ≤ 9
  len : l.length ≤ 7
  no : ¬ (1 ≤ l.length ∧ l.length ≤ 6 ∧ l.Nodup ∧ ∀ a ∈ l, Isn.nameB a = true ∧ a ∉ Nm.keysD)
theorem Lb.hb {l : List Str} (h : Lb l) : Hb (Str.join (Str.ofString " ") (Str.ofString "steps" :: l)) := ⟨_, by simp, rfl, fun w hw => (by
    rcases List.mem_cons.mp hw with rfl | hw
    · unfold Rre.Wd; decide +kernel
    · exact (h.wd w hw).1), fun acts z => by
    have e := z.1
    injection e with _ e
    rw [← e] at z
    exact h.no z.2⟩
theorem pickL {xs : List (List Str)} (hx : xs ≠ []) (c : Int) : ∃ x ∈ xs, dIxA (.lst (xs.map fun l => D.lst (l.map .str))) (.int (c % (xs.length : Int))) = .ok (.lst (x.map .str)) := by
  have h0 : 0 < xs.length := List.length_pos_iff.mpr hx
  have h1 : 0 ≤ c % (xs.length : Int) := Int.emod_nonneg _ (by omega)
  have h2 : c % (xs.length : Int) < (xs.length : Int) := Int.emod_lt_of_pos _ (by omega)
  have h3 : (c % (xs.length : Int)).toNat < xs.length := by omega
  exact ⟨xs[(c % (xs.length : Int)).toNat], List.getElem_mem _, DL.ixA_lst h1 (by rw [List.getElem?_map, List.getElem?_eq_getElem h3]; rfl)⟩
theorem faL {P : List Str → Prop} {w : List Str} {l : List (List Str)} (h : P w) (t : ∀ v ∈ l, P v) : ∀ v ∈ w :: l, P v := List.forall_mem_cons.mpr ⟨h, t⟩
theorem take_wd {acts : List Str} (A : ActsOk acts) {w : Str} (hw : Rre.Wd w) (hl : w.length ≤ 9) : ∀ v ∈ acts.take 5 ++ [w], Rre.Wd v ∧ v.length ≤ 9 := fun v hv => by
  rcases List.mem_append.mp hv with hv | hv
  · have := A.ok v (List.mem_of_mem_take hv)
    exact ⟨.lo this.1, by have := this.2.2.1; omega⟩
  · rw [List.mem_singleton.mp hv]; exact ⟨hw, hl⟩
theorem take_len {acts : List Str} (w : Str) : (acts.take 5 ++ [w]).length ≤ 7 := by
  rw [List.length_append, List.length_take, List.length_singleton]; omega
theorem key_facts : ∀ k ∈ Nm.keysD, Rre.Wd k ∧ k.length ≤ 9 := by
  unfold Nm.keysD Rre.Wd
  decide +kernel
theorem bad_steps_eq {acts : List Str} (A : ActsOk acts) (h1 : 1 ≤ acts.length) (h6 : acts.length ≤ 6) (c : Int) : ∃ o row, Fn.law_bad_steps_be5e [.lst (acts.map .str), .int c] = .ok (o, .str row) ∧ Hb row ∧ row.length ≤ 200 := by
  unfold Fn.law_bad_steps_be5e; rw [DL.ap_body (by rfl)]; unfold Fn.law_bad_steps_be5e_g
  walk_at "dl"
  rw [lc_map (i := 6) (f := Fn.law_bad_steps_be5e_e1) (fun k : Nat => D.int (0 + (k : Int))) (fun k => D.int (c / 8 + 5 * (k : Int) * (k : Int))) (List.range 7) (by rw [List.length_range]; omega) (fun k hk => by
    have := List.mem_range.mp hk
    unfold Fn.law_bad_steps_be5e_e1
    walk_at "dl"
    rw [DL.mul_l (by decide) (by decide)]
    walk_at "dl"
    rw [DL.mul_r (by omega) (by omega)]
    walk_at "dl"
    rw [Int.zero_add])]
  walk_at "dl"
  obtain ⟨seven, sl, S, es⟩ := acts_eq ((List.range 7).map fun k : Nat => c / 8 + 5 * (k : Int) * (k : Int)) (by simp)
  rw [List.map_map] at es
  rw [List.length_map, List.length_range] at sl
  have es : Fn.law_acts_52c7 [.lst ((List.range 7).map fun k : Nat => D.int (c / 8 + 5 * (k : Int) * (k : Int)))] = .ok (true, .lst (seven.map .str)) := es
  rw [DL.callE_of es]
  walk_at "dl"
  obtain ⟨a0, r, rfl⟩ : ∃ a0 r, acts = a0 :: r := by
    match acts, h1 with
    | a0 :: r, _ => exact ⟨a0, r, rfl⟩
  rw [DL.cut_to (by omega), ← List.map_take, show (5 : Int).toNat = 5 from rfl]
  have a0m : a0 ∈ a0 :: r := List.mem_cons_self
  have t5 : ((a0 :: r).take 5).length ≤ 5 := by rw [List.length_take]; omega
  obtain ⟨key, hk, ek⟩ := pickS (xs := Nm.keysD) (by unfold Nm.keysD; simp) (c / 8)
  have ek : dIxA (D.lst [D.str (Str.ofString "steps"), D.str (Str.ofString "before"), D.str (Str.ofString "most"), D.str (Str.ofString "least"), D.str (Str.ofString "apart"), D.str (Str.ofString "same")]) (D.int (c / 8 % 6)) = .ok (.str key) := ek
  rw [ek, show dIxA (D.lst ((a0 :: r).map D.str)) (D.int 0) = .ok (.str a0) from DL.ix_l0]
  walk_at "dl"
  rw [DL.small_of (by omega)]
  walk_at "dl"
  obtain ⟨l, hl, el⟩ := pickL (xs := [[], [Str.ofString ""], (a0 :: r).take 5 ++ [a0], seven, (a0 :: r).take 5 ++ [key], (a0 :: r).take 5 ++ [Str.ofString "abcdefghi"]]) (List.cons_ne_nil _ _) c
  have el : dIxA (D.lst [D.lst [], D.lst [D.str (Str.ofString "")], D.lst (((a0 :: r).take 5 ++ [a0]).map D.str), D.lst (seven.map D.str), D.lst (((a0 :: r).take 5 ++ [key]).map D.str), D.lst (((a0 :: r).take 5 ++ [Str.ofString "abcdefghi"]).map D.str)]) (D.int (c % 6)) = .ok (.lst (l.map D.str)) := el
  simp only [List.map_append, List.map_cons, List.map_nil] at el
  have L : Lb l := by
    refine (?_ : ∀ l ∈ [[], [Str.ofString ""], (a0 :: r).take 5 ++ [a0], seven, (a0 :: r).take 5 ++ [key], (a0 :: r).take 5 ++ [Str.ofString "abcdefghi"]], Lb l) l hl
    refine faL ?_ (faL ?_ (faL ?_ (faL ?_ (faL ?_ (faL ?_ (fun _ h => nomatch h))))))
    · exact ⟨(fun w hw => (by cases hw)), by simp, fun h => by have := h.1; simp at this⟩
    · refine ⟨fun w hw => ?_, by simp, fun h => ?_⟩
      · rw [List.mem_singleton.mp hw]
        exact ⟨by unfold Rre.Wd; decide +kernel, by decide +kernel⟩
      · have := (h.2.2.2 _ List.mem_cons_self).1
        rw [show Isn.nameB (Str.ofString "") = false by decide +kernel] at this
        cases this
    · refine ⟨take_wd A (.lo (A.ok _ a0m).1) (by have := (A.ok _ a0m).2.2.1; omega), take_len _, fun h => ?_⟩
      have := (List.nodup_append.mp h.2.2.1).2.2 a0 (by rw [List.take_succ_cons]; exact List.mem_cons_self) a0 List.mem_cons_self
      exact this rfl
    · exact ⟨fun w hw => ⟨.lo (S.ok w hw).1, by have := (S.ok w hw).2.2.1; omega⟩, by omega, fun h => by have := h.2.1; omega⟩
    · refine ⟨take_wd A (key_facts _ hk).1 (key_facts _ hk).2, take_len _, fun h => ?_⟩
      exact (h.2.2.2 key (by simp)).2 hk
    · refine ⟨take_wd A (by unfold Rre.Wd; decide +kernel) (by decide +kernel), take_len _, fun h => ?_⟩
      have := (h.2.2.2 (Str.ofString "abcdefghi") (by simp)).1
      rw [show Isn.nameB (Str.ofString "abcdefghi") = false by decide +kernel] at this
      cases this
  rw [el]
  walk_at "dl"
  have hll := L.len
  rw [DL.small_of (by omega)]
  walk_at "dl"
  have s1 : (Str.ofString " ").length = 1 := by decide +kernel
  have jo : ∀ (ws : List Str), (∀ w ∈ ws, w.length ≤ 9) → ws.length ≤ 8 → dJoin (Str.ofString " ") (D.lst (ws.map D.str)) = .ok (.str (Str.join (Str.ofString " ") ws)) ∧ (Str.join (Str.ofString " ") ws).length ≤ 80 := fun ws hw hl => by
    have g1 := len_join (Str.ofString " ") ws
    have g2 := sum_le (l := ws) (B := 9) hw
    rw [s1] at g1
    refine ⟨?_, by omega⟩
    exact DL.join_strs (by rw [s1]; omega)
  obtain ⟨j1, j2⟩ := jo (Str.ofString "steps" :: l) (fun w hw => (by
    rcases List.mem_cons.mp hw with rfl | hw
    · decide +kernel
    · exact (L.wd w hw).2)) (by rw [List.length_cons]; omega)
  obtain ⟨j3, j4⟩ := jo (a0 :: r) (fun w hw => by have := (A.ok w hw).2.2.1; omega) (by omega)
  rw [List.map_cons] at j1 j3
  rw [j1]
  walk_at "dl"
  by_cases hc : c / 48 % 3 = 1
  case neg =>
    rw [decide_eq_false hc]
    walk_at "dl"
    exact ⟨_, _, rfl, L.hb, by omega⟩
  rw [decide_eq_true hc]
  walk_at "dl"
  obtain ⟨pre, hp, ep⟩ := pickS (xs := [Str.ofString "Steps ", Str.ofString "step ", Str.ofString ""]) (List.cons_ne_nil _ _) (c / 144)
  have ep : dIxA (D.lst [D.str (Str.ofString "Steps "), D.str (Str.ofString "step "), D.str (Str.ofString "")]) (D.int (c / 144 % 3)) = .ok (.str pre) := ep
  have pl : pre.length ≤ 6 := (by
    refine (?_ : ∀ p ∈ [Str.ofString "Steps ", Str.ofString "step ", Str.ofString ""], p.length ≤ 6) pre hp
    decide +kernel)
  rw [ep]
  walk_at "dl"
  rw [j3]
  walk_at "dl"
  rw [DL.small_of (by omega)]
  walk_at "dl"
  refine ⟨_, _, rfl, ?_, by rw [len_app]; omega⟩
  have hw : ∀ w ∈ a0 :: r, Rre.Wd w := fun w hw => .lo (A.ok w hw).1
  have mk : ∀ (w : Str), Rre.Wd w → w ≠ Str.ofString "steps" → Hb (Str.join (Str.ofString " ") (w :: a0 :: r)) := fun w h1 h2 => ⟨_, by simp, rfl, fun v hv => (by
    rcases List.mem_cons.mp hv with rfl | hv
    · exact h1
    · exact hw v hv), fun acts z => by
    have := z.1
    injection this with e _
    exact h2 e⟩
  simp only [List.mem_cons, List.not_mem_nil, or_false] at hp
  rcases hp with rfl | rfl | rfl
  · have e : Str.ofString "Steps " ++ Str.join (Str.ofString " ") (a0 :: r) = Str.join (Str.ofString " ") (Str.ofString "Steps" :: a0 :: r) := TL.ext_tl (by
      rw [TL.tl_append, TL.tl_join, TL.tl_join, List.map_cons (a := Str.ofString "Steps"), joinL_cons _ _ (by simp), ← List.append_assoc]
      congr 1)
    rw [e]
    exact mk _ (by unfold Rre.Wd; decide +kernel) (by decide +kernel)
  · have e : Str.ofString "step " ++ Str.join (Str.ofString " ") (a0 :: r) = Str.join (Str.ofString " ") (Str.ofString "step" :: a0 :: r) := TL.ext_tl (by
      rw [TL.tl_append, TL.tl_join, TL.tl_join, List.map_cons (a := Str.ofString "step"), joinL_cons _ _ (by simp), ← List.append_assoc]
      congr 1)
    rw [e]
    exact mk _ (by unfold Rre.Wd; decide +kernel) (by decide +kernel)
  · have e : Str.ofString "" ++ Str.join (Str.ofString " ") (a0 :: r) = Str.join (Str.ofString " ") (a0 :: r) := TL.ext_tl (by
      rw [TL.tl_append, show TL.tl (Str.ofString "") = [] by decide +kernel, List.nil_append])
    rw [e]
    refine ⟨_, List.cons_ne_nil _ _, rfl, hw, fun acts z => ?_⟩
    have := z.1
    injection this with e _
    exact (A.ok a0 a0m).2.2.2 (by rw [e]; unfold Nm.keysD; exact List.mem_cons_self)
end Rdx
namespace Rdx
open PySem DL Ti De Gw Bi Lc Be Tx Nm En Ro Rs Rre Rue Tg
def Spt (v : D) : Prop := (∃ t, v = .str t ∧ t.length ≤ 3900 ∧ ∀ a p m, ¬ Good t a p m) ∨ v = .non ∨ (∃ n, v = .int n) ∨ (∃ b, v = .bl b) ∨ (∃ l, v = .lst l) ∨ ∃ l, v = .tup l
def lets7 : List Str := [Str.ofString "a", Str.ofString "b", Str.ofString "c", Str.ofString "d", Str.ofString "e", Str.ofString "f", Str.ofString "g"]
theorem lets7_ok : ∀ x ∈ lets7, NmOk x := by
  unfold lets7 NmOk Lo Nm.keysD
  decide +kernel
theorem lets7_nd : lets7.Nodup := by unfold lets7; decide +kernel
def signs : List Str := [Str.ofString "A", Str.ofString "Z", Str.ofString "0", Str.ofString "7", Str.ofString "8", Str.ofString "9", Str.ofString "\t", Str.ofString "\n", Str.ofString "-", Str.ofString "_", Str.ofString ",", Str.ofString ".", Str.ofString "(", Str.ofString "=", Str.ofString "/", Str.ofString "~", Str.ofString "'", Str.ofString "+"]
theorem signs_ok : ∀ x ∈ signs, x.length = 1 ∧ (TL.tl x).all (fun c => !sg c && !(c == 32) && !(c == 59)) = true := by
  unfold signs
  decide +kernel
theorem part_len {acts : List Str} (A : ActsOk acts) (h6 : acts.length ≤ 6) {ps : List Part} (P : ∀ p ∈ ps, PIn acts.length p) : ∀ t ∈ head acts :: ps.map (ptx acts), t.length ≤ 100 := fun t ht => by
  rcases List.mem_cons.mp ht with rfl | ht
  · have := head_len A h6; omega
  · obtain ⟨p, hp, rfl⟩ := List.mem_map.mp ht
    exact ptx_len A h6 (P p hp)
theorem mid_len {A C : List Str} {t : Str} (hA : ∀ y ∈ A, y.length ≤ 100) (hC : ∀ y ∈ C, y.length ≤ 100) : ((A ++ [t] ++ C).map fun y : Str => y.length).sum + (A ++ [t] ++ C).length * (Str.ofString "; ").length ≤ (A.length + C.length) * 102 + t.length + 2 := by
  have h4 : (Str.ofString "; ").length = 2 := by decide +kernel
  have a1 := sum_le hA
  have a2 := sum_le hC
  rw [h4, List.map_append, List.map_append, List.sum_append, List.sum_append, List.length_append, List.length_append, List.length_singleton]
  simp only [List.map_cons, List.map_nil, List.sum_cons, List.sum_nil]
  omega
theorem cut_str2 {z : Str} {l h : Option Int} (hz : z.length ≤ 1000000) : dCut (.str z) l h = .ok (.str (L2.cutS z l h)) := by
  rw [DL.cut_str, DL.small_of hz]; rfl
theorem cut_len_to (z : Str) (k : Nat) : (L2.cutS z none (some (k : Int))).length ≤ min k z.length := by
  have e : (TL.tl (L2.cutS z none (some (k : Int)))).length = (L2.cutS z none (some (k : Int))).length := rfl
  have e2 : (TL.tl z).length = z.length := rfl
  rw [Rt.cut_tl, DL.cut_to (by omega), List.length_take] at e
  omega
theorem cut_len_from (z : Str) (k : Nat) : (L2.cutS z (some (k : Int)) none).length ≤ z.length - k := by
  have e : (TL.tl (L2.cutS z (some (k : Int)) none)).length = (L2.cutS z (some (k : Int)) none).length := rfl
  have e2 : (TL.tl z).length = z.length := rfl
  rw [Rt.cut_tl, DL.cut_from (by omega), List.length_drop] at e
  omega
theorem pickD {xs : List D} (hx : xs ≠ []) (c : Int) : ∃ x ∈ xs, dIxA (.lst xs) (.int (c % (xs.length : Int))) = .ok x := by
  have h0 : 0 < xs.length := List.length_pos_iff.mpr hx
  have h1 : 0 ≤ c % (xs.length : Int) := Int.emod_nonneg _ (by omega)
  have h2 : c % (xs.length : Int) < (xs.length : Int) := Int.emod_lt_of_pos _ (by omega)
  have h3 : (c % (xs.length : Int)).toNat < xs.length := by omega
  exact ⟨xs[(c % (xs.length : Int)).toNat], List.getElem_mem _, DL.ixA_lst h1 (by rw [List.getElem?_eq_getElem h3])⟩
section
variable {acts : List Str} (A : ActsOk acts) (h1 : 1 ≤ acts.length) (h6 : acts.length ≤ 6) {ps : List Part} (P : PartsIn acts.length ps) (h30 : ps.length ≤ 30)
include A h1 h6 P h30
theorem txt_len : (rtxs acts ps []).length ≤ 3200 := by
  have h := part_len A h6 P.ok
  have a1 := len_join (Str.ofString "; ") (head acts :: ps.map (ptx acts))
  have a2 := sum_le h
  have h4 : (Str.ofString "; ").length = 2 := by decide +kernel
  rw [h4] at a1
  rw [List.length_cons, List.length_map] at a1 a2
  unfold rtxs
  rw [List.append_nil]
  omega
theorem spoilt_eq (c : Int) : ∃ o v, Fn.law_spoilt_a130 [.lst (acts.map .str), .lst (ps.map (dpt acts)), .int c] = .ok (o, v) ∧ Spt v := by
  have tl := txt_len A h1 h6 P h30
  obtain ⟨o1, e1⟩ := text_eq A h6 P
  have hs := text_split A P.ok (more := []) (fun _ h => by cases h)
  rw [List.append_nil] at hs
  have pl := part_len A h6 P.ok
  have hsemi : ∀ t ∈ head acts :: ps.map (ptx acts), (59 : Nat) ∉ TL.tl t := fun t ht => by
    rcases List.mem_cons.mp ht with rfl | ht
    · exact no_semi (head_wd A)
    · obtain ⟨p, hp, rfl⟩ := List.mem_map.mp ht
      exact no_semi (wds_wd A (P.ok p hp))
  unfold Fn.law_spoilt_a130; rw [DL.ap_body (by rfl)]; unfold Fn.law_spoilt_a130_g
  walk_at "dl"
  rw [DL.callE_of e1]
  walk_at "dl"
  rw [DL.split_ok (by decide +kernel) (by decide +kernel) (by omega), hs]
  walk_at "dl"
  have q1 := Int.emod_nonneg c (show (6 : Int) ≠ 0 by omega)
  have q2 := Int.emod_lt_of_pos c (show (0 : Int) < 6 by omega)
  by_cases k1 : c % 6 < 2
  · rw [decide_eq_true k1]
    walk_at "dl"
    have hq : ∃ x, x ∈ lets7 ∧ x ∉ acts := by
      refine Classical.byContradiction fun hno => ?_
      have := nd_lenT lets7_nd (BS := acts) fun x hx => Classical.byContradiction fun h => hno ⟨x, hx, h⟩
      have e7 : lets7.length = 7 := rfl
      omega
    have el : lcK (.ok (lets7.map D.str)) [11] (gSet 11) Fn.law_spoilt_a130_t2 Fn.law_spoilt_a130_e1 [some (false, D.lst (List.map D.str acts)), some (false, D.lst (List.map (dpt acts) ps)), some (false, D.int c), some (false, D.int (c / 6)), some (false, D.str (rtxs acts ps [])), some (false, D.lst (D.str (head acts) :: List.map D.str (List.map (ptx acts) ps))), none, none, none, none, none, none, none] = .ok (.lst ((lets7.filter fun x => decide (x ∉ acts)).map D.str)) := by
      rw [lc_if (i := 11) (t := Fn.law_spoilt_a130_t2) (f := Fn.law_spoilt_a130_e1) D.str D.str (fun x => decide (x ∉ acts)) lets7 (by decide) (fun x hx => by
        unfold Fn.law_spoilt_a130_t2
        walk_at "dl"
        rw [Nm.in_strs]
        by_cases h : x ∈ acts
        · rw [decide_eq_true h, decide_eq_false (fun z => z h)]
          walk_at "dl"
        · rw [decide_eq_false h, decide_eq_true h]
          walk_at "dl") (fun x hx _ => by
        unfold Fn.law_spoilt_a130_e1
        walk_at "dl")]
    obtain ⟨x, r, ex⟩ : ∃ x r, lets7.filter (fun x => decide (x ∉ acts)) = x :: r := by
      obtain ⟨x, hx1, hx2⟩ := hq
      have hm : x ∈ lets7.filter (fun x => decide (x ∉ acts)) := List.mem_filter.mpr ⟨hx1, decide_eq_true hx2⟩
      cases e : lets7.filter (fun x => decide (x ∉ acts)) with
      | nil => rw [e] at hm; cases hm
      | cons y r => exact ⟨y, r, rfl⟩
    have hx : x ∈ lets7 ∧ x ∉ acts := by
      have hm : x ∈ lets7.filter (fun x => decide (x ∉ acts)) := by rw [ex]; exact List.mem_cons_self
      have := List.mem_filter.mp hm
      exact ⟨this.1, of_decide_eq_true this.2⟩
    rw [ex, List.map_cons] at el
    have el2 : lcK (.ok [D.str (Str.ofString "a"), D.str (Str.ofString "b"), D.str (Str.ofString "c"), D.str (Str.ofString "d"), D.str (Str.ofString "e"), D.str (Str.ofString "f"), D.str (Str.ofString "g")]) [11] (gSet 11) Fn.law_spoilt_a130_t2 Fn.law_spoilt_a130_e1 [some (false, D.lst (List.map D.str acts)), some (false, D.lst (List.map (dpt acts) ps)), some (false, D.int c), some (false, D.int (c / 6)), some (false, D.str (rtxs acts ps [])), some (false, D.lst (D.str (head acts) :: List.map D.str (List.map (ptx acts) ps))), none, none, none, none, none, none, none] = _ := el
    rw [el2]
    walk_at "dl"
    rw [DL.mod_pos (by omega)]
    have r1 := Int.emod_nonneg (c / 6) (show ((ps.length + 1 : Nat) : Int) ≠ 0 by omega)
    have r2 := Int.emod_lt_of_pos (c / 6) (show 0 < ((ps.length + 1 : Nat) : Int) by omega)
    obtain ⟨k, hk⟩ : ∃ k : Nat, c / 6 % ((ps.length + 1 : Nat) : Int) = (k : Int) := ⟨_, (Int.toNat_of_nonneg r1).symm⟩
    rw [hk] at r2 ⊢
    walk_at "dl"
    rw [DL.mod_pos (by omega)]
    obtain ⟨a, ha, ea⟩ := pickS (xs := acts) (fun z => by rw [z] at h1; simp at h1) (c / 6 / 40)
    walk_at "dl"
    rw [ea]
    walk_at "dl"
    obtain ⟨ob, t, ht, eb⟩ := bad_part_eq (a := a) (x := x) (A.ok a ha).2.2.1 (lets7_ok x hx.1).2.2.1 (c / 6 / 320)
    have tb := bads_len (a := a) (x := x) (A.ok a ha).2.2.1 (lets7_ok x hx.1).2.2.1 t ht
    have hB := all_bad A ha (A.ok a ha) (lets7_ok x hx.1) hx.2 t ht
    rw [DL.callE_of eb]
    walk_at "dl"
    rw [DL.cut_to (by omega), DL.cut_from (by omega), show (1 + (k : Int)).toNat = k + 1 by omega, List.take_succ_cons, List.drop_succ_cons, ← List.map_take, ← List.map_drop]
    walk_at "dl"
    rw [DL.small_of (by rw [List.length_take, List.length_map]; omega)]
    walk_at "dl"
    rw [DL.small_of (by simp only [List.length_append, List.length_cons, List.length_nil, List.length_take, List.length_drop, List.length_map]; omega)]
    walk_at "dl"
    have hsub : ∀ y ∈ head acts :: ((ps.map (ptx acts)).take k ++ (ps.map (ptx acts)).drop k), y ∈ head acts :: ps.map (ptx acts) := fun y hy => by rw [List.take_append_drop] at hy; exact hy
    have ml := mid_len (A := head acts :: (ps.map (ptx acts)).take k) (C := (ps.map (ptx acts)).drop k) (t := t) (fun y hy => pl y (hsub y (by
      rcases List.mem_cons.mp hy with rfl | hy
      · exact List.mem_cons_self
      · exact List.mem_cons_of_mem _ (List.mem_append_left _ hy)))) (fun y hy => pl y (hsub y (List.mem_cons_of_mem _ (List.mem_append_right _ hy))))
    have hlen : (head acts :: (ps.map (ptx acts)).take k).length + ((ps.map (ptx acts)).drop k).length ≤ 31 := by
      rw [List.length_cons, List.length_take, List.length_drop, List.length_map]; omega
    have el3 : D.str (head acts) :: (List.map D.str (List.take k (List.map (ptx acts) ps)) ++ D.str t :: List.map D.str (List.drop k (List.map (ptx acts) ps))) = (head acts :: (ps.map (ptx acts)).take k ++ [t] ++ (ps.map (ptx acts)).drop k).map D.str := by simp
    first
      | rw [el3]
      | rw [show D.str (head acts) :: (List.map D.str (List.take k (List.map (ptx acts) ps)) ++ [D.str t] ++ List.map D.str (List.drop k (List.map (ptx acts) ps))) = (head acts :: (ps.map (ptx acts)).take k ++ [t] ++ (ps.map (ptx acts)).drop k).map D.str by simp]
    rw [DL.join_strs (by omega)]
    walk_at "dl"
    refine ⟨_, _, rfl, .inl ⟨_, rfl, ?_, ?_⟩⟩
    · have := len_join (Str.ofString "; ") (head acts :: (ps.map (ptx acts)).take k ++ [t] ++ (ps.map (ptx acts)).drop k)
      show (Str.join (Str.ofString "; ") (head acts :: (ps.map (ptx acts)).take k ++ [t] ++ (ps.map (ptx acts)).drop k)).length ≤ 3900
      omega
    · exact bad_mid (fun p hp => hsemi p (hsub p hp)) (head_split A) hB
  rw [decide_eq_false k1]
  walk_at "dl"
  by_cases k2 : c % 6 = 2
  · rw [decide_eq_true k2]
    walk_at "dl"
    obtain ⟨ob, row, eb, ⟨ws, w1, w2, w3, w4⟩, hl⟩ := bad_steps_eq A h1 h6 (c / 6)
    rw [DL.callE_of eb]
    walk_at "dl"
    rw [DL.cut_from (by omega), show (D.str (head acts) :: List.map D.str (List.map (ptx acts) ps)).drop (1 : Int).toNat = (List.map (ptx acts) ps).map D.str from rfl]
    walk_at "dl"
    rw [DL.small_of (by omega)]
    walk_at "dl"
    have ml := mid_len (A := []) (C := ps.map (ptx acts)) (t := row) (fun y hy => by cases hy) (fun y hy => pl y (List.mem_cons_of_mem _ hy))
    rw [List.length_nil, List.length_map] at ml
    rw [show D.str row :: (List.map (ptx acts) ps).map D.str = (row :: List.map (ptx acts) ps).map D.str from rfl, DL.join_strs (by
      have ml : ((row :: List.map (ptx acts) ps).map fun y : Str => y.length).sum + (row :: List.map (ptx acts) ps).length * (Str.ofString "; ").length ≤ _ := ml
      omega)]
    walk_at "dl"
    refine ⟨_, _, rfl, .inl ⟨_, rfl, ?_, ?_⟩⟩
    · have := len_join (Str.ofString "; ") (row :: ps.map (ptx acts))
      have ml : ((row :: List.map (ptx acts) ps).map fun y : Str => y.length).sum + (row :: List.map (ptx acts) ps).length * (Str.ofString "; ").length ≤ _ := ml
      omega
    · refine bad_head (fun p hp => ?_) (by rw [w2, DL.split_join Rre.tl_sp w1 fun w hw => (w3 w hw).1]) w4
      rcases List.mem_cons.mp hp with rfl | hp
      · rw [w2]; exact no_semi w3
      · exact hsemi p (List.mem_cons_of_mem _ hp)
  rw [decide_eq_false k2]
  walk_at "dl"
  by_cases k3 : c % 6 = 3
  · rw [decide_eq_true k3]
    walk_at "dl"
    rw [DL.small_of (by omega)]
    walk_at "dl"
    rw [DL.mod_pos (by omega)]
    have r1 := Int.emod_nonneg (c / 6) (show (((rtxs acts ps []).length : Int) + 1) ≠ 0 by omega)
    have r2 := Int.emod_lt_of_pos (c / 6) (show 0 < (((rtxs acts ps []).length : Int) + 1) by omega)
    obtain ⟨k, hk⟩ : ∃ k : Nat, c / 6 % (((rtxs acts ps []).length : Int) + 1) = (k : Int) := ⟨_, (Int.toNat_of_nonneg r1).symm⟩
    rw [hk] at r2 ⊢
    walk_at "dl"
    rw [cut_str2 (by omega), cut_str2 (by omega)]
    walk_at "dl"
    obtain ⟨s, hs, es⟩ := pickS (xs := signs) (List.cons_ne_nil _ _) (c / 6 / 600)
    have es : dIxA (D.lst [D.str (Str.ofString "A"), D.str (Str.ofString "Z"), D.str (Str.ofString "0"), D.str (Str.ofString "7"), D.str (Str.ofString "8"), D.str (Str.ofString "9"), D.str (Str.ofString "\t"), D.str (Str.ofString "\n"), D.str (Str.ofString "-"), D.str (Str.ofString "_"), D.str (Str.ofString ","), D.str (Str.ofString "."), D.str (Str.ofString "("), D.str (Str.ofString "="), D.str (Str.ofString "/"), D.str (Str.ofString "~"), D.str (Str.ofString "'"), D.str (Str.ofString "+")]) (D.int (c / 6 / 600 % 18)) = .ok (.str s) := es
    obtain ⟨s1, s2⟩ := signs_ok s hs
    have c1 := cut_len_to (rtxs acts ps []) k
    have c2 := cut_len_from (rtxs acts ps []) k
    rw [es]
    walk_at "dl"
    rw [DL.small_of (by omega)]
    walk_at "dl"
    rw [DL.small_of (by rw [len_app]; omega)]
    walk_at "dl"
    refine ⟨_, _, rfl, .inl ⟨_, rfl, by rw [len_app, len_app]; omega, not_gram ?_⟩⟩
    rw [TL.tl_append, TL.tl_append]
    have sl : (TL.tl s).length = s.length := rfl
    cases e : TL.tl s with
    | nil => rw [e] at sl; simp at sl; omega
    | cons d r =>
      rw [e, List.all_eq_true] at s2
      have := s2 d List.mem_cons_self
      rw [Bool.and_eq_true, Bool.and_eq_true, Bool.not_eq_true', Bool.not_eq_true', Bool.not_eq_true', beq_eq_false_iff_ne, beq_eq_false_iff_ne] at this
      exact gr_not_mem (c := d) (by simp) this.1.1 this.1.2 this.2
  rw [decide_eq_false k3]
  walk_at "dl"
  by_cases k4 : c % 6 = 4
  · rw [decide_eq_true k4]
    walk_at "dl"
    rw [DL.small_of (by omega)]
    walk_at "dl"
    rw [DL.inR_small (by omega) (by omega)]
    walk_at "dl"
    rw [Int.toNat_natCast]
    rw [lc_if (i := 12) (t := Fn.law_spoilt_a130_t4) (f := Fn.law_spoilt_a130_e3) (fun k : Nat => D.int (0 + (k : Int))) (fun k : Nat => D.int (k : Int)) (fun k => decide ((TL.tl (rtxs acts ps []))[k]? = some 32)) (List.range (rtxs acts ps []).length) (by rw [List.length_range]; omega) (fun k hk => by
      have hk := List.mem_range.mp hk
      have hk2 : k < (TL.tl (rtxs acts ps [])).length := hk
      have e : (TL.tl (rtxs acts ps []))[k]? = some (TL.tl (rtxs acts ps []))[k] := List.getElem?_eq_getElem hk2
      unfold Fn.law_spoilt_a130_t4
      walk_at "dl"
      rw [Rt.at_code' e (by omega)]
      walk_at "dl"
      rw [e]
      congr 1
      refine decide_eq_decide.mpr ?_
      rw [Rt.str1 Rre.tl_sp, Option.some_inj]) (fun k hk _ => by
      unfold Fn.law_spoilt_a130_e3
      walk_at "dl"
      rw [Int.zero_add])]
    walk_at "dl"
    have hF : ∀ v ∈ (List.filter (fun k => decide ((TL.tl (rtxs acts ps []))[k]? = some 32)) (List.range (rtxs acts ps []).length)).map (fun k : Nat => D.int (k : Int)) ++ [D.int 0, D.int ((rtxs acts ps []).length : Int)], ∃ n : Nat, v = .int (n : Int) ∧ n ≤ (rtxs acts ps []).length ∧ ((TL.tl (rtxs acts ps []))[n]? = some 32 ∨ n = 0 ∨ n = (rtxs acts ps []).length) := fun v hv => by
      rcases List.mem_append.mp hv with hv | hv
      · obtain ⟨k, hk, rfl⟩ := List.mem_map.mp hv
        obtain ⟨g1, g2⟩ := List.mem_filter.mp hk
        have := List.mem_range.mp g1
        exact ⟨k, rfl, by omega, .inl (of_decide_eq_true g2)⟩
      · simp only [List.mem_cons, List.not_mem_nil, or_false] at hv
        rcases hv with rfl | rfl
        · exact ⟨0, rfl, by omega, .inr (.inl rfl)⟩
        · exact ⟨_, rfl, by omega, .inr (.inr rfl)⟩
    have hfl := List.length_filter_le (fun k => decide ((TL.tl (rtxs acts ps []))[k]? = some 32)) (List.range (rtxs acts ps []).length)
    rw [List.length_range] at hfl
    rw [DL.small_of (by omega)]
    have hcl : ((List.filter (fun k => decide ((TL.tl (rtxs acts ps []))[k]? = some 32)) (List.range (rtxs acts ps []).length)).map (fun k : Nat => D.int (k : Int)) ++ [D.int 0, D.int ((rtxs acts ps []).length : Int)]) ≠ [] := by simp
    have hcl2 : ((List.filter (fun k => decide ((TL.tl (rtxs acts ps []))[k]? = some 32)) (List.range (rtxs acts ps []).length)).map (fun k : Nat => D.int (k : Int)) ++ [D.int 0, D.int ((rtxs acts ps []).length : Int)]).length ≤ 4000 := by
      rw [List.length_append, List.length_map]
      show _ + 2 ≤ 4000
      omega
    generalize (List.filter (fun k => decide ((TL.tl (rtxs acts ps []))[k]? = some 32)) (List.range (rtxs acts ps []).length)).map (fun k : Nat => D.int (k : Int)) ++ [D.int 0, D.int ((rtxs acts ps []).length : Int)] = spots at hF hcl hcl2 ⊢
    walk_at "dl"
    rw [DL.mod_pos (by have := List.length_pos_iff.mpr hcl; omega)]
    walk_at "dl"
    obtain ⟨v, hv, ev⟩ := pickD hcl (c / 6)
    obtain ⟨n, rfl, hn, h3⟩ := hF v hv
    rw [ev]
    walk_at "dl"
    rw [cut_str2 (by omega), cut_str2 (by omega)]
    walk_at "dl"
    have c1 := cut_len_to (rtxs acts ps []) n
    have c2 := cut_len_from (rtxs acts ps []) n
    have s1 : (Str.ofString " ").length = 1 := by decide +kernel
    rw [DL.small_of (by omega)]
    walk_at "dl"
    rw [DL.small_of (by rw [len_app]; omega)]
    walk_at "dl"
    refine ⟨_, _, rfl, .inl ⟨_, rfl, by rw [len_app, len_app]; omega, ?_⟩⟩
    have etl : TL.tl (L2.cutS (rtxs acts ps []) none (some (n : Int)) ++ Str.ofString " " ++ L2.cutS (rtxs acts ps []) (some (n : Int)) none) = (TL.tl (rtxs acts ps [])).take n ++ 32 :: (TL.tl (rtxs acts ps [])).drop n := by
      rw [TL.tl_append, TL.tl_append, Rre.tl_sp, Rt.cut_tl, Rt.cut_tl, DL.cut_to (by omega), DL.cut_from (by omega), Int.toNat_natCast, List.append_assoc]
      rfl
    rcases h3 with h3 | rfl | h3
    · refine not_gram ?_
      have hlt := (List.getElem?_eq_some_iff.mp h3).1
      rw [etl, List.drop_eq_getElem_cons hlt, (List.getElem?_eq_some_iff.mp h3).2]
      exact gr_not_sp (by decide)
    · refine not_gram1 ?_
      rw [etl, List.take_zero, List.nil_append]
      rfl
    · refine not_gram ?_
      rw [etl, List.drop_of_length_le (by rw [h3]; exact Nat.le_refl _)]
      exact gr_not_end
  rw [decide_eq_false k4]
  walk_at "dl"
  obtain ⟨v, hv, ev⟩ := pickD (xs := [D.non, D.int 0, D.bl true, D.lst [D.str (rtxs acts ps [])], D.tup [D.str (rtxs acts ps [])], D.lst [], D.tup [], D.str (Str.ofString ""), D.str (Str.ofString " "), D.int 1000000000000000000000000000000, D.bl false, D.int (-1)]) (List.cons_ne_nil _ _) (c / 6)
  refine ⟨false, v, ?_, ?_⟩
  · show endD (noE (retK (dIxA (D.lst [D.non, D.int 0, D.bl true, D.lst [D.str (rtxs acts ps [])], D.tup [D.str (rtxs acts ps [])], D.lst [], D.tup [], D.str (Str.ofString ""), D.str (Str.ofString " "), D.int 1000000000000000000000000000000, D.bl false, D.int (-1)]) (D.int (c / 6 % (([D.non, D.int 0, D.bl true, D.lst [D.str (rtxs acts ps [])], D.tup [D.str (rtxs acts ps [])], D.lst [], D.tup [], D.str (Str.ofString ""), D.str (Str.ofString " "), D.int 1000000000000000000000000000000, D.bl false, D.int (-1)].length : Nat) : Int)))) false)) = _
    rw [ev]
    rfl
  · simp only [List.mem_cons, List.not_mem_nil, or_false] at hv
    rcases hv with rfl | rfl | rfl | rfl | rfl | rfl | rfl | rfl | rfl | rfl | rfl | rfl
    · exact .inr (.inl rfl)
    · exact .inr (.inr (.inl ⟨_, rfl⟩))
    · exact .inr (.inr (.inr (.inl ⟨_, rfl⟩)))
    · exact .inr (.inr (.inr (.inr (.inl ⟨_, rfl⟩))))
    · exact .inr (.inr (.inr (.inr (.inr ⟨_, rfl⟩))))
    · exact .inr (.inr (.inr (.inr (.inl ⟨_, rfl⟩))))
    · exact .inr (.inr (.inr (.inr (.inr ⟨_, rfl⟩))))
    · exact .inl ⟨_, rfl, by decide +kernel, not_gram1 (by decide +kernel)⟩
    · exact .inl ⟨_, rfl, by decide +kernel, not_gram1 (by decide +kernel)⟩
    · exact .inr (.inr (.inl ⟨_, rfl⟩))
    · exact .inr (.inr (.inr (.inl ⟨_, rfl⟩)))
    · exact .inr (.inr (.inl ⟨_, rfl⟩))
end
end Rdx
namespace Lk68
open PySem DL Ti De Gw Bi Lc Be Tx Nm En Ro Rs Rre Rue Tg Rdx
theorem kind_nt {v : D} (h : Fn.read_round_c957 [v] = .err (Str.ofString "NoText")) : ∃ o, Fn.law_kind_caba [v] = .ok (o, .str (Str.ofString "no text")) := by
  have hy : Fn.law_kind_caba_y1 [some (false, v), some (false, D.str (Str.ofString "read"))] = .err (Str.ofString "NoText") := by
    unfold Fn.law_kind_caba_y1
    walk_at "dl"
    unfold callE
    rw [h]; rfl
  unfold Fn.law_kind_caba; rw [DL.ap_body (by rfl)]; unfold Fn.law_kind_caba_g
  walk_at "dl"
  rw [hy]
  have ht : tryK (.err (Str.ofString "NoText")) (fun x ρ => R.ok (Fl.next ρ)) [(Str.ofString "NoText", 0), (Str.ofString "Ring", 1)] [Fn.law_kind_caba_h2, Fn.law_kind_caba_h3] [some (false, v), some (false, D.str (Str.ofString "read"))] = Fn.law_kind_caba_h2 [some (false, v), some (false, D.str (Str.ofString "read"))] := by rfl
  rw [ht]
  unfold Fn.law_kind_caba_h2
  walk_at "dl"
  exact ⟨_, rfl⟩
theorem kind_read {v w : D} {o : Bool} (h : Fn.read_round_c957 [v] = .ok (o, w)) : ∃ o, Fn.law_kind_caba [v] = .ok (o, .str (Str.ofString "read")) := by
  have hy : Fn.law_kind_caba_y1 [some (false, v), some (false, D.str (Str.ofString "read"))] = .ok w := by
    unfold Fn.law_kind_caba_y1
    walk_at "dl"
    rw [DL.callE_of h]
  unfold Fn.law_kind_caba; rw [DL.ap_body (by rfl)]; unfold Fn.law_kind_caba_g
  walk_at "dl"
  rw [hy]
  have ht : tryK (.ok w) (fun x ρ => R.ok (Fl.next ρ)) [(Str.ofString "NoText", 0), (Str.ofString "Ring", 1)] [Fn.law_kind_caba_h2, Fn.law_kind_caba_h3] [some (false, v), some (false, D.str (Str.ofString "read"))] = .ok (.next [some (false, v), some (false, D.str (Str.ofString "read"))]) := by rfl
  rw [ht]
  walk_at "dl"
  exact ⟨_, rfl⟩
theorem class_nt {v : D} (h : Fn.read_round_c957 [v] = .err (Str.ofString "NoText")) : ∃ o, Fn.law_class_4744 [v] = .ok (o, .bl true) := by
  have hy : Fn.law_class_4744_y1 [some (false, v), some (false, D.bl false), none] = .err (Str.ofString "NoText") := by
    unfold Fn.law_class_4744_y1
    walk_at "dl"
    unfold callE
    rw [h]; rfl
  unfold Fn.law_class_4744; rw [DL.ap_body (by rfl)]; unfold Fn.law_class_4744_g
  walk_at "dl"
  rw [hy]
  walk_at "dl"
  have hc : catchAs 2 [(Str.ofString "NoText", true), (Str.ofString "Ring", true)] Fn.law_class_4744_h2 (Str.ofString "NoText") [some (false, v), some (false, D.bl false), none] = .ok (.next [some (false, v), some (false, D.bl true), none]) := by rfl
  rw [hc]
  walk_at "dl"
  exact ⟨_, rfl⟩
theorem read_no {v : D} (h : v = .non ∨ (∃ n, v = .int n) ∨ (∃ b, v = .bl b) ∨ (∃ l, v = .lst l) ∨ ∃ l, v = .tup l) : Fn.read_round_c957 [v] = .err (Str.ofString "NoText") := by
  have hs : isiD "str" v = .ok (.bl false) := by
    rcases h with rfl | ⟨n, rfl⟩ | ⟨n, rfl⟩ | ⟨n, rfl⟩ | ⟨n, rfl⟩ <;> rfl
  unfold Fn.read_round_c957; rw [DL.ap_bodyD (by rfl)]; unfold Fn.read_round_c957_g
  rcases h with rfl | ⟨n, rfl⟩ | ⟨n, rfl⟩ | ⟨n, rfl⟩ | ⟨n, rfl⟩
  · walk_at "dl"
    try rw [show isB "str" D.non = false from rfl]
    try walk_at "dl"
  · walk_at "dl"
    try rw [show isB "str" (D.int n) = false from rfl]
    try walk_at "dl"
  · walk_at "dl"
    try rw [show isB "str" (D.bl n) = false from rfl]
    try walk_at "dl"
  · walk_at "dl"
    try rw [show isB "str" (D.lst n) = false from rfl]
    try walk_at "dl"
  · walk_at "dl"
    try rw [show isB "str" (D.tup n) = false from rfl]
    try walk_at "dl"
theorem spt_read {v : D} (h : Spt v) : Fn.read_round_c957 [v] = .err (Str.ofString "NoText") := by
  rcases h with ⟨t, rfl, h1, h2⟩ | h
  · exact read_not h1 h2
  · exact read_no h
theorem round_eqT (ns : List Int) (hl : ns.length ≤ 63) : ∃ o acts ps, Fn.law_round_66ce [.scr ns] = .ok (o, .tup [.lst (acts.map .str), .lst (ps.map (dpt acts))]) ∧ RoundOk acts (1 + ns.getD 1 0 % 6).toNat ps := by
  unfold Fn.law_round_66ce; rw [DL.ap_body (by rfl)]; unfold Fn.law_round_66ce_g
  walk_at "dl"
  rw [lc_map (i := 6) (f := Fn.law_round_66ce_e1) (fun k : Nat => D.int (0 + (k : Int))) (fun k => D.int (ns.getD k 0)) (List.range 4) (by rw [List.length_range]; omega) (fun k _ => by
    obtain ⟨o0, e0⟩ := cell0_eq ns (0 + (k : Int)) (by omega)
    unfold Fn.law_round_66ce_e1
    walk_at "dl"
    rw [DL.callE_of e0, show (0 + (k : Int)).toNat = k by omega])]
  rw [show (List.range 4).map (fun k => D.int (ns.getD k 0)) = [D.int (ns.getD 0 0), D.int (ns.getD 1 0), D.int (ns.getD 2 0), D.int (ns.getD 3 0)] from rfl]
  generalize ns.getD 0 0 = h0
  generalize ns.getD 1 0 = h1
  generalize ns.getD 2 0 = h2
  generalize ns.getD 3 0 = h3
  walk_at "dl"
  obtain ⟨count, n1, n6, ec⟩ := six_at h0
  obtain ⟨many, m27, em⟩ := eight_at (h0 / 6)
  rw [ec]
  walk_at "dl"
  rw [em]
  walk_at "dl"
  rw [DL.mul_l (by omega) (by omega)]
  walk_at "dl"
  obtain ⟨cells, hc, ee⟩ := entries_eq ns hl (count + 3 * many) (by omega) (by omega)
  rw [show (count : Int) + 3 * (many : Int) = ((count + 3 * many : Nat) : Int) by omega, DL.callE_of ee]
  walk_at "dl"
  rw [DL.cut_to (by omega), ← List.map_take]
  obtain ⟨acts, al, A, ea⟩ := acts_eq (cells.take (count : Int).toNat) (by rw [List.length_take]; omega)
  rw [List.length_take] at al
  rw [DL.callE_of ea]
  walk_at "dl"
  rw [DL.cut_from (by omega), ← List.map_drop]
  obtain ⟨turn, ht⟩ : ∃ n : Nat, 1 + h1 % 6 = n := ⟨(1 + h1 % 6).toNat, by omega⟩
  rw [ht]
  obtain ⟨o, ps, ep, P⟩ := parts_eq A (by omega) (by omega) (turn := turn) (by omega) (by omega) (cells.drop (count : Int).toNat) many (by omega) (by rw [List.length_drop]; omega)
  rw [DL.callE_of ep]
  walk_at "dl"
  rw [Int.toNat_natCast]
  exact ⟨_, acts, ps, rfl, A, by omega, by omega, by omega, by omega, P⟩
theorem none_left2 {n : Nat} {ord : Or.Od} (key : Nat → Nat) (hf : Or.Fit ord n) (h : ∀ p ∈ ord, key p.1 < key p.2) : Rg.lft ord n = [] := by
  have W := Rg.wt_left hf
  have main : ∀ (i s : Nat), key s ≤ i → s ∉ Rg.lft ord n := by
    intro i
    induction i with
    | zero =>
      intro s hs hm
      obtain ⟨p, hp, h1, h2⟩ := W s hm
      have := h p hp
      rw [h1] at this
      omega
    | succ i ih =>
      intro s hs hm
      obtain ⟨p, hp, h1, h2⟩ := W s hm
      have := h p hp
      rw [h1] at this
      exact ih p.1 (by omega) h2
  exact List.eq_nil_iff_forall_not_mem.mpr fun s hs => main _ s (Nat.le_refl _) hs
theorem law_true : ∀ ns : List Int, ns.length ≤ 63 → ∃ o, Fn.law_db2a [.scr ns] = .ok (o, .bl true) := by
  intro ns hl
  obtain ⟨o1, acts, ps, e1, hR⟩ := round_eqT ns hl
  obtain ⟨oa, ea⟩ := cell0_eq ns 2 (by omega)
  have A := hR.A
  have n1 := hR.lo
  have n6 := hR.hi
  have P0 : PartsIn acts.length ps := ⟨fun p hp => pin_of (hR.P.ok p hp), hR.P.nd, by have := hR.P.len; omega⟩
  have tl := txt_len A n1 n6 P0 hR.P.len
  obtain ⟨o2, e2⟩ := text_eq A n6 P0
  obtain ⟨o3, v, e3, hS⟩ := spoilt_eq A n1 n6 P0 hR.P.len (ns.getD 2 0)
  have hg := good_text A n1 n6 P0.ok P0.nd hR.P.ties
  have hr : ∃ o w, Fn.read_round_c957 [.str (rtxs acts ps [])] = .ok (o, w) := by
    rcases read_any (rtxs acts ps []) (by omega) with ⟨acts', prs, m, g, h⟩ | ⟨h, _⟩
    · have ea : acts' = acts := by
        have h1 := g.1.1.symm.trans hg.1.1
        injection h1
      subst ea
      have ep : prs = pairsOf ps := by
        have h1 := g.2.1.symm.trans hg.2.1
        injection h1 with h1
        injection h1
      subst ep
      rcases h with ⟨h, _⟩ | ⟨_, h⟩
      · exfalso
        refine h (none_left2 (k7 (1 + ns.getD 1 0 % 6).toNat) (fit_in P0.ok) fun q hq => ?_)
        obtain ⟨p, hp, e⟩ := List.mem_filterMap.mp hq
        have := hR.P.ok p hp
        cases p with
        | pair i j => cases e; exact this.2.2
        | _ => cases e
      · exact h
    · exact absurd hg (h _ _ _)
  obtain ⟨o4, w, hr⟩ := hr
  obtain ⟨o5, k1⟩ := kind_read hr
  obtain ⟨o6, k2⟩ := kind_nt (spt_read hS)
  obtain ⟨o7, k3⟩ := class_nt (spt_read hS)
  unfold Fn.law_db2a; rw [DL.ap_body (by rfl)]; unfold Fn.law_db2a_g
  walk_at "dl"
  rw [DL.callE_of e1]
  walk_at "dl"
  rw [DL.callE_of e2]
  walk_at "dl"
  rw [DL.callE_of ea]
  walk_at "dl"
  rw [DL.callE_of e3]
  walk_at "dl"
  rw [DL.callE_of k1]
  walk_at "dl"
  rw [DL.callE_of k2]
  walk_at "dl"
  rw [DL.callO_flat k3 rfl]
  walk_at "dl"
  rw [DL.callE_of k1]
  walk_at "dl"
  exact ⟨_, rfl⟩
end Lk68
open PySem PySem.W PyProof.Rows
set_option maxHeartbeats 0 in
theorem PySem.Challenge.cw_deskround_k68_no_round_holds : PySem.Challenge.rw_deskround_k68_no_round.Holds := by
  refine hdTop ?_
  k_fill
  refine L2.walk_of (l := PySem.Challenge.rw_deskround_k68_no_round) (n := 63) (k := 7) (x := "script") (CX := fun _ => L2.CX0) (sp := fun w => DL.spLaw _) rfl (by decide) rfl ⟨rfl, by decide, by decide⟩ (fun w h Y => PySem.W.kIn_of Y) ?F (fun _ _ a ns hl _ hS => ⟨a, ns, rfl, hS, hl, fun _ => rfl⟩) (fun _ _ _ _ _ h => h)
  case F =>
    intro w mg fa h KX G hmg
    refine' Lk68.all_mk Lk68.law_true KX G hmg ?a_is_name ?l_is_name ?c_is_name ?k_is_name ?a_free ?l_free ?c_free ?k_free ?a_one_ahead ?l_one_ahead ?c_one_ahead ?k_one_ahead ?a_place_of ?l_place_of ?c_place_of ?k_place_of ?a__law_cell ?l__law_cell ?c__law_cell ?k__law_cell ?a__law_entries ?l__law_entries ?c__law_entries ?k__law_entries ?a__law_name ?l__law_name ?c__law_name ?k__law_name ?a__law_part ?l__law_part ?c__law_part ?k__law_part ?a__law_text ?l__law_text ?c__law_text ?k__law_text ?a__law_bad_part ?l__law_bad_part ?c__law_bad_part ?k__law_bad_part ?a_next_free ?l_next_free ?c_next_free ?k_next_free ?a_acts_of ?l_acts_of ?c_acts_of ?k_acts_of ?a_places_of ?l_places_of ?c_places_of ?k_places_of ?a__law_acts ?l__law_acts ?c__law_acts ?k__law_acts ?a__law_parts ?l__law_parts ?c__law_parts ?k__law_parts ?a_settled ?l_settled ?c_settled ?k_settled ?a_tie_of ?l_tie_of ?c_tie_of ?k_tie_of ?a__law_round ?l__law_round ?c__law_round ?k__law_round ?a__law_bad_steps ?l__law_bad_steps ?c__law_bad_steps ?k__law_bad_steps ?a_ring ?l_ring ?c_ring ?k_ring ?a__law_spoilt ?l__law_spoilt ?c__law_spoilt ?k__law_spoilt ?a_read_round ?l_read_round ?c_read_round ?k_read_round ?a__law_kind ?l__law_kind ?c__law_kind ?k__law_kind ?a__law_class ?l__law_class ?c__law_class ?k__law_class ?a_law ?l_law ?c_law ?k_law ?n_DeskError ?ex_DeskError ?ek_DeskError ?es_DeskError ?et_DeskError ?n_NoText ?ex_NoText ?ek_NoText ?es_NoText ?et_NoText ?n_Ring ?ex_Ring ?ek_Ring ?es_Ring ?et_Ring ?em_NoText_DeskError ?em_NoText_NoText ?em_Ring_DeskError ?em_Ring_NoText ?em_Ring_Ring ?ki_NoText_NoText ?ki_NoText_Ring ?ki_NoText_ValueError ?ki_Ring_NoText ?ki_Ring_Ring ?ki_Ring_ValueError ?kn_NoText ?kn_Ring ?kn_ValueError ?c1_NoText ?c2_NoText ?c3_NoText ?c4_NoText ?c5_NoText ?c1_Ring ?c2_Ring ?c3_Ring ?c4_Ring ?c5_Ring ?oc1 ?oc2 ?p_KEYS ?q_KEYS ?r_KEYS ?z_ValueError ?z_int ?z_isinstance ?z_len ?z_list ?z_range ?z_reversed ?z_set ?z_sorted ?z_str ?z_tuple ?e_FIGURES ?e_LETTERS ?e_LONGEST ?e_MOST_STEPS ?e_MOST_TIES
    (case n_DeskError => k_is); (case n_NoText => k_is); (case n_Ring => k_is); (case a_is_name => k_is); (case l_is_name => k_is); (case c_is_name => k_is); (case k_is_name => k_is); (case a_free => k_is); (case l_free => k_is); (case c_free => k_is); (case k_free => k_is); (case a_one_ahead => k_is); (case l_one_ahead => k_is); (case c_one_ahead => k_is); (case k_one_ahead => k_is); (case a_place_of => k_is); (case l_place_of => k_is); (case c_place_of => k_is); (case k_place_of => k_is); (case a__law_cell => k_is); (case l__law_cell => k_is); (case c__law_cell => k_is); (case k__law_cell => k_is); (case a__law_entries => k_is); (case l__law_entries => k_is); (case c__law_entries => k_is); (case k__law_entries => k_is); (case a__law_name => k_is); (case l__law_name => k_is); (case c__law_name => k_is); (case k__law_name => k_is); (case a__law_part => k_is); (case l__law_part => k_is); (case c__law_part => k_is); (case k__law_part => k_is); (case a__law_text => k_is); (case l__law_text => k_is); (case c__law_text => k_is); (case k__law_text => k_is); (case a__law_bad_part => k_is); (case l__law_bad_part => k_is); (case c__law_bad_part => k_is); (case k__law_bad_part => k_is); (case a_next_free => k_is); (case l_next_free => k_is); (case c_next_free => k_is); (case k_next_free => k_is); (case a_acts_of => k_is); (case l_acts_of => k_is); (case c_acts_of => k_is); (case k_acts_of => k_is); (case a_places_of => k_is); (case l_places_of => k_is); (case c_places_of => k_is); (case k_places_of => k_is); (case a__law_acts => k_is); (case l__law_acts => k_is); (case c__law_acts => k_is); (case k__law_acts => k_is); (case a__law_parts => k_is); (case l__law_parts => k_is); (case c__law_parts => k_is); (case k__law_parts => k_is); (case a_settled => k_is); (case l_settled => k_is); (case c_settled => k_is); (case k_settled => k_is); (case a_tie_of => k_is); (case l_tie_of => k_is); (case c_tie_of => k_is); (case k_tie_of => k_is); (case a__law_round => k_is); (case l__law_round => k_is); (case c__law_round => k_is); (case k__law_round => k_is); (case a__law_bad_steps => k_is); (case l__law_bad_steps => k_is); (case c__law_bad_steps => k_is); (case k__law_bad_steps => k_is); (case a_ring => k_is); (case l_ring => k_is); (case c_ring => k_is); (case k_ring => k_is); (case a__law_spoilt => k_is); (case l__law_spoilt => k_is); (case c__law_spoilt => k_is); (case k__law_spoilt => k_is); (case a_read_round => k_is); (case l_read_round => k_is); (case c_read_round => k_is); (case k_read_round => k_is); (case a__law_kind => k_is); (case l__law_kind => k_is); (case c__law_kind => k_is); (case k__law_kind => k_is); (case a__law_class => k_is); (case l__law_class => k_is); (case c__law_class => k_is); (case k__law_class => k_is); (case a_law => k_is); (case l_law => k_is); (case c_law => k_is); (case k_law => k_is); (case ex_DeskError => k_exc); (case ek_DeskError => k_is); (case es_DeskError => k_is); (case et_DeskError => k_is); (case ex_NoText => k_exc); (case ek_NoText => k_is); (case es_NoText => k_is); (case et_NoText => k_is); (case ex_Ring => k_exc); (case ek_Ring => k_is); (case es_Ring => k_is); (case et_Ring => k_is); (case em_NoText_DeskError => kts_exm); (case em_NoText_NoText => kts_exm); (case em_Ring_DeskError => kts_exm); (case em_Ring_NoText => kts_exm); (case em_Ring_Ring => kts_exm); (case ki_NoText_NoText => kit_is); (case ki_NoText_Ring => kit_is); (case ki_NoText_ValueError => kit_is); (case ki_Ring_NoText => kit_is); (case ki_Ring_Ring => kit_is); (case ki_Ring_ValueError => kit_is); (case kn_NoText => kit_is); (case kn_Ring => kit_is); (case kn_ValueError => kit_is); (case c1_NoText => k_is); (case c2_NoText => k_is); (case c3_NoText => k_is); (case c4_NoText => k_is); (case c5_NoText => k_is); (case c1_Ring => k_is); (case c2_Ring => k_is); (case c3_Ring => k_is); (case c4_Ring => k_is); (case c5_Ring => k_is); (case oc1 => k_is); (case oc2 => k_is); (case p_KEYS => k_is); (case q_KEYS => k_is); (case r_KEYS => exact ⟨rfl, _, _, rfl, by decide, by repeat (first | exact DL.vs_nil | refine DL.vs_cons ?_)⟩); (case z_ValueError => k_is); (case z_int => k_is); (case z_isinstance => k_is); (case z_len => k_is); (case z_list => k_is); (case z_range => k_is); (case z_reversed => k_is); (case z_set => k_is); (case z_sorted => k_is); (case z_str => k_is); (case z_tuple => k_is); (case e_FIGURES => k_is); (case e_LETTERS => k_is); (case e_LONGEST => k_is); (case e_MOST_STEPS => k_is); (case e_MOST_TIES => k_is)

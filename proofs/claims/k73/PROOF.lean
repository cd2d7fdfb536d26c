import PyProof.Rows.All
import Wide.All
import OpenK.AllK
import Wide.FinOn
import HandS.ForMost
import HandS.Deep
import HandS.SortInts
import HandS.Wide
import HandS.IsInst
import HandS.Style
import HandS.Text
import HandS.NoneIn
import KE.KSortedM
import HandS.More
import HandS.WordsDict
import HandS.Strs
import HandS.SetFor
import HandS.Zip
import HandS.SortKw
import KE.DataMinMax
import HandS.Rev
import HandS.SortRule
import PyProof.Rows.SortKeyStr
import HandS.Conv
import HandS.Iter
import KE.SortKeyHeap
import KE.SortData
import HandS.Exc
import HandS.ExcOwn
import HandS.TryOnly
import HandS.TryMany
import HandS.WordsExc
import HandS.ExcIs
import HandS.Comp
import KE.GoesRaise
import PyProof.StrOps2
import KE.OsRunLaw
import PySem.Challenge.RW_deskround_k73_no_paper
set_option Elab.async false
set_option linter.all false
set_option maxRecDepth 100000
set_option maxHeartbeats 4000000
section
open PyProof.Rows PySem.Calls HeadRun PySem PySem.W
namespace HdT
noncomputable section
def hdView : Program := { PySem.Challenge.rw_deskround_k73_no_paper.row.prog with main := { PySem.Challenge.rw_deskround_k73_no_paper.row.prog.main with body := ([1,2,3,5,6,7,8,9,10,11,12,13,15,16,17,18,19,20,21,22,23,24,25,26,27,28] : List Nat).filterMap fun i => PySem.Challenge.rw_deskround_k73_no_paper.row.prog.main.body[i]? } }
theorem good_eq : openGood hdView ([] : List PySem.Str) = ((⟨(PySem.W.Fast.tw3399658132070893891 hdView).map fun d => some d.shape, true, [], true, true, true, 0⟩ : Seen), bltViewBooted, true, true, (((PySem.W.Fast.tw3247288618530077131 hdView).map fun d => some d.1.shape, true) : List (Option FnShape) × Bool), ((PySem.W.Fast.tw210736558901404530 hdView (PySem.W.Fast.tw821141287760084731 hdView ([] : List PySem.Str))).map fun c => some c.withCmp.plainShape), ((PySem.W.Fast.tw4354255287344443571 hdView ([] : List PySem.Str)).map fun c => some (c.plainShape, true)), (((PySem.W.Fast.tw694669760492028198 hdView).map fun d => some d.1.shape, true) : List (Option FnShape) × Bool), ((PySem.W.Fast.tw1571739515156823405 hdView ([] : List PySem.Str)).map fun c => (wclsGood c, (some (c.plainShape, true) : Option (PlainShape × Bool))))) := by
  unfold openGood expectedOf pinGoodD plainGoodE plainGoodD wideGood clsGoodW
  rw [show @recsOf = PySem.W.Fast.tw3399658132070893891 from PySem.W.Fast.te3399658132070893891, show @drecsOf = PySem.W.Fast.tw3247288618530077131 from PySem.W.Fast.te3247288618530077131, show @plainsOf = PySem.W.Fast.tw210736558901404530 from PySem.W.Fast.te210736558901404530, show @looseW = PySem.W.Fast.tw821141287760084731 from PySem.W.Fast.te821141287760084731, show @dclssOf = PySem.W.Fast.tw4354255287344443571 from PySem.W.Fast.te4354255287344443571, show @wdefsOf = PySem.W.Fast.tw694669760492028198 from PySem.W.Fast.te694669760492028198, show @wclssOf = PySem.W.Fast.tw1571739515156823405 from PySem.W.Fast.te1571739515156823405]
theorem run3 {α β γ δ : Type} {o : Option α} {f : α → β} {g : α → γ} {h : α → δ} {b : β} {c : γ} {d : δ} (h1 : o.map f = some b) (h2 : o.map g = some c) (h3 : o.map h = some d) : o.map (fun s => (f s, g s, h s)) = some (b, c, d) := by
  cases o with
  | none => cases h1
  | some s => cases h1; cases h2; cases h3; rfl
set_option maxHeartbeats 0 in
theorem loose_eq : PySem.W.Fast.tw821141287760084731 hdView ([] : List PySem.Str) = ([] : List PySem.Str) := by kernel_rfl
set_option maxHeartbeats 0 in
theorem names_eq : (PySem.W.Fast.tw3399658132070893891 hdView).map (·.name) = ([PySem.Str.ofString "number_of", PySem.Str.ofString "price_of", PySem.Str.ofString "due_of", PySem.Str.ofString "parts_of", PySem.Str.ofString "read_at", PySem.Str.ofString "read_paper", PySem.Str.ofString "_law_cell", PySem.Str.ofString "_law_entries", PySem.Str.ofString "_law_whole", PySem.Str.ofString "_law_number", PySem.Str.ofString "_law_tree", PySem.Str.ofString "_law_written", PySem.Str.ofString "_law_same", PySem.Str.ofString "_law_bad", PySem.Str.ofString "_law_put_in", PySem.Str.ofString "_law_deep", PySem.Str.ofString "_law_spoilt", PySem.Str.ofString "_law_refused", PySem.Str.ofString "_law_class", PySem.Str.ofString "law"] : List PySem.Str) := by kernel_rfl
set_option maxHeartbeats 0 in
theorem p1 (w : World) (os : OsState) : (endF (stepQ (denQ tabQ) PySem.Challenge.rw_deskround_k73_no_paper.row.prog w) 2668 PySem.Challenge.rw_deskround_k73_no_paper.row.prog w os).map (fun x => (looksF PySem.Challenge.rw_deskround_k73_no_paper.row.prog (boot_heap w.params) x.abs, (seenQ hdView ([] : List PySem.Str) (importedModules PySem.Challenge.rw_deskround_k73_no_paper.row.prog.main.body) (fun s => xlAt hdView [] s && recOk PySem.Challenge.rw_deskround_k73_no_paper.row.records s) x.abs).2.1, (PySem.W.Fast.tw5244371056499926238 x.abs.heap && PySem.W.Fast.tw2578726214315757710 hdView x.abs.heap && (!PySem.W.Fast.tw2458874890965802552 hdView || PySem.W.Fast.tw9649274521512697073 x.abs.heap)))) = some (true, bltViewBooted, true) := by kernel_rfl
set_option maxHeartbeats 0 in
theorem p2 (w : World) (os : OsState) : (endF (stepQ (denQ tabQ) PySem.Challenge.rw_deskround_k73_no_paper.row.prog w) 2668 PySem.Challenge.rw_deskround_k73_no_paper.row.prog w os).map (fun x => (seenQ hdView ([] : List PySem.Str) (importedModules PySem.Challenge.rw_deskround_k73_no_paper.row.prog.main.body) (fun s => xlAt hdView [] s && recOk PySem.Challenge.rw_deskround_k73_no_paper.row.records s) x.abs).1) = some (⟨(PySem.W.Fast.tw3399658132070893891 hdView).map fun d => some d.shape, true, [], true, true, true, 0⟩ : Seen) := by kernel_rfl
set_option maxHeartbeats 0 in
theorem p3 (w : World) (os : OsState) : (endF (stepQ (denQ tabQ) PySem.Challenge.rw_deskround_k73_no_paper.row.prog w) 2668 PySem.Challenge.rw_deskround_k73_no_paper.row.prog w os).map (fun x => PySem.W.Fast.tw10880121769531294198 x.abs.heap ([] : List PySem.Str) ([PySem.Str.ofString "number_of", PySem.Str.ofString "price_of", PySem.Str.ofString "due_of", PySem.Str.ofString "parts_of", PySem.Str.ofString "read_at", PySem.Str.ofString "read_paper", PySem.Str.ofString "_law_cell", PySem.Str.ofString "_law_entries", PySem.Str.ofString "_law_whole", PySem.Str.ofString "_law_number", PySem.Str.ofString "_law_tree", PySem.Str.ofString "_law_written", PySem.Str.ofString "_law_same", PySem.Str.ofString "_law_bad", PySem.Str.ofString "_law_put_in", PySem.Str.ofString "_law_deep", PySem.Str.ofString "_law_spoilt", PySem.Str.ofString "_law_refused", PySem.Str.ofString "_law_class", PySem.Str.ofString "law"] : List PySem.Str) ((PySem.W.Fast.tw7409074990110511671 hdView).map (·.1)) ((PySem.W.Fast.tw13664370479719496447 hdView ([] : List PySem.Str)).map (·.name))) = some true := by kernel_rfl
set_option maxHeartbeats 0 in
theorem p4 (w : World) (os : OsState) : (endF (stepQ (denQ tabQ) PySem.Challenge.rw_deskround_k73_no_paper.row.prog w) 2668 PySem.Challenge.rw_deskround_k73_no_paper.row.prog w os).map (fun x => ((PySem.W.Fast.tw14722251495701143533 x.abs.heap (importedModules PySem.Challenge.rw_deskround_k73_no_paper.row.prog.main.body) && x.abs.heap.isNs mainGlobals && x.abs.heap.isNs builtinsNs && PySem.W.Fast.tw10994771534591457954 hdView x.abs.heap && (fun s => xlAt hdView [] s && recOk PySem.Challenge.rw_deskround_k73_no_paper.row.records s) x.abs && (x.abs.gens.size == 0)), (seenQ hdView ([] : List PySem.Str) (importedModules PySem.Challenge.rw_deskround_k73_no_paper.row.prog.main.body) (fun s => xlAt hdView [] s && recOk PySem.Challenge.rw_deskround_k73_no_paper.row.records s) x.abs).2.2.2.2.1)) = some (true, (((PySem.W.Fast.tw3247288618530077131 hdView).map fun d => some d.1.shape, true) : List (Option FnShape) × Bool)) := by kernel_rfl
set_option maxHeartbeats 0 in
theorem p5 (w : World) (os : OsState) : (endF (stepQ (denQ tabQ) PySem.Challenge.rw_deskround_k73_no_paper.row.prog w) 2668 PySem.Challenge.rw_deskround_k73_no_paper.row.prog w os).map (fun x => ([PySem.Str.ofString "number_of", PySem.Str.ofString "price_of", PySem.Str.ofString "due_of", PySem.Str.ofString "parts_of", PySem.Str.ofString "read_at", PySem.Str.ofString "read_paper", PySem.Str.ofString "_law_cell", PySem.Str.ofString "_law_entries", PySem.Str.ofString "_law_whole", PySem.Str.ofString "_law_number", PySem.Str.ofString "_law_tree", PySem.Str.ofString "_law_written", PySem.Str.ofString "_law_same", PySem.Str.ofString "_law_bad", PySem.Str.ofString "_law_put_in", PySem.Str.ofString "_law_deep", PySem.Str.ofString "_law_spoilt", PySem.Str.ofString "_law_refused", PySem.Str.ofString "_law_class", PySem.Str.ofString "law"] : List PySem.Str).all (fun n => PySem.W.Fast.tw5930804224584009831 x.abs.heap n)) = some true := by kernel_rfl
set_option maxHeartbeats 0 in
theorem p6 (w : World) (os : OsState) : (endF (stepQ (denQ tabQ) PySem.Challenge.rw_deskround_k73_no_paper.row.prog w) 2668 PySem.Challenge.rw_deskround_k73_no_paper.row.prog w os).map (fun x => PySem.W.Fast.tw2386780881361962483 hdView ([] : List PySem.Str) x.abs) = some ((PySem.W.Fast.tw210736558901404530 hdView ([] : List PySem.Str)).map fun c => some c.withCmp.plainShape) := by kernel_rfl
set_option maxHeartbeats 0 in
theorem p7 (w : World) (os : OsState) : (endF (stepQ (denQ tabQ) PySem.Challenge.rw_deskround_k73_no_paper.row.prog w) 2668 PySem.Challenge.rw_deskround_k73_no_paper.row.prog w os).map (fun x => ((seenQ hdView ([] : List PySem.Str) (importedModules PySem.Challenge.rw_deskround_k73_no_paper.row.prog.main.body) (fun s => xlAt hdView [] s && recOk PySem.Challenge.rw_deskround_k73_no_paper.row.records s) x.abs).2.2.2.2.2.2.1, (seenQ hdView ([] : List PySem.Str) (importedModules PySem.Challenge.rw_deskround_k73_no_paper.row.prog.main.body) (fun s => xlAt hdView [] s && recOk PySem.Challenge.rw_deskround_k73_no_paper.row.records s) x.abs).2.2.2.2.2.2.2.2)) = some (((PySem.W.Fast.tw4354255287344443571 hdView ([] : List PySem.Str)).map fun c => some (c.plainShape, true)), ((PySem.W.Fast.tw1571739515156823405 hdView ([] : List PySem.Str)).map fun c => (wclsGood c, (some (c.plainShape, true) : Option (PlainShape × Bool))))) := by kernel_rfl
set_option maxHeartbeats 0 in
theorem p8 (w : World) (os : OsState) : (endF (stepQ (denQ tabQ) PySem.Challenge.rw_deskround_k73_no_paper.row.prog w) 2668 PySem.Challenge.rw_deskround_k73_no_paper.row.prog w os).map (fun x => (seenQ hdView ([] : List PySem.Str) (importedModules PySem.Challenge.rw_deskround_k73_no_paper.row.prog.main.body) (fun s => xlAt hdView [] s && recOk PySem.Challenge.rw_deskround_k73_no_paper.row.records s) x.abs).2.2.2.2.2.2.2.1) = some (((PySem.W.Fast.tw694669760492028198 hdView).map fun d => some d.1.shape, true) : List (Option FnShape) × Bool) := by kernel_rfl
theorem all (w : World) (os : OsState) : (endF (stepQ (denQ tabQ) PySem.Challenge.rw_deskround_k73_no_paper.row.prog w) 2668 PySem.Challenge.rw_deskround_k73_no_paper.row.prog w os).map (fun x => looksF PySem.Challenge.rw_deskround_k73_no_paper.row.prog (boot_heap w.params) x.abs) = some true ∧ (endF (stepQ (denQ tabQ) PySem.Challenge.rw_deskround_k73_no_paper.row.prog w) 2668 PySem.Challenge.rw_deskround_k73_no_paper.row.prog w os).map (fun x => (seenQ hdView ([] : List PySem.Str) (importedModules PySem.Challenge.rw_deskround_k73_no_paper.row.prog.main.body) (fun s => xlAt hdView [] s && recOk PySem.Challenge.rw_deskround_k73_no_paper.row.records s) x.abs)) = some (openGood hdView ([] : List PySem.Str)) := by
  have h1 := p1 w os
  have h2 := p2 w os
  have h3 := p3 w os
  have h4 := p4 w os
  have h5 := p5 w os
  have h6 := p6 w os
  have h7 := p7 w os
  have h8 := p8 w os
  generalize (endF (stepQ (denQ tabQ) PySem.Challenge.rw_deskround_k73_no_paper.row.prog w) 2668 PySem.Challenge.rw_deskround_k73_no_paper.row.prog w os) = r at h1 h2 h3 h4 h5 h6 h7 h8 ⊢
  cases r with
  | none => cases h2
  | some x =>
    have h1 := Option.some.inj h1
    have h2 := Option.some.inj h2
    have h3 := Option.some.inj h3
    have h4 := Option.some.inj h4
    have h5 := Option.some.inj h5
    have h6 := Option.some.inj h6
    have h7 := Option.some.inj h7
    have h8 := Option.some.inj h8
    obtain ⟨h10, h12, h14⟩ := (by simpa only [Prod.mk.injEq] using h1 : _ ∧ _ ∧ _)
    obtain ⟨h43, h45⟩ := (by simpa only [Prod.mk.injEq] using h4 : _ ∧ _)
    obtain ⟨h77, h79⟩ := (by simpa only [Prod.mk.injEq] using h7 : _ ∧ _)
    refine ⟨congrArg some h10, congrArg some ?_⟩
    have e := seenQ_eq hdView ([] : List PySem.Str) (importedModules PySem.Challenge.rw_deskround_k73_no_paper.row.prog.main.body) (fun s => xlAt hdView [] s && recOk PySem.Challenge.rw_deskround_k73_no_paper.row.records s) x.abs
    have c3 : (seenQ hdView ([] : List PySem.Str) (importedModules PySem.Challenge.rw_deskround_k73_no_paper.row.prog.main.body) (fun s => xlAt hdView [] s && recOk PySem.Challenge.rw_deskround_k73_no_paper.row.records s) x.abs).2.2.1 = true := by
      rw [← e]
      have k : x.abs.heap.keysOk (looseW hdView ([] : List PySem.Str)) ((recsOf hdView).map (·.name)) ((litsOf hdView).map (·.1)) ((clssOf hdView (looseW hdView ([] : List PySem.Str))).map (·.name)) = true := by
        rw [show @Heap.keysOk = PySem.W.Fast.tw10880121769531294198 from PySem.W.Fast.te10880121769531294198, show @looseW = PySem.W.Fast.tw821141287760084731 from PySem.W.Fast.te821141287760084731, show @recsOf = PySem.W.Fast.tw3399658132070893891 from PySem.W.Fast.te3399658132070893891, show @litsOf = PySem.W.Fast.tw7409074990110511671 from PySem.W.Fast.te7409074990110511671, show @clssOf = PySem.W.Fast.tw13664370479719496447 from PySem.W.Fast.te13664370479719496447, loose_eq, names_eq]
        exact h3
      simp only [Bool.and_eq_true] at h43
      obtain ⟨⟨⟨⟨⟨a, m⟩, b⟩, t⟩, xx⟩, g⟩ := h43
      have a : x.abs.heap.accountedOkI (importedModules PySem.Challenge.rw_deskround_k73_no_paper.row.prog.main.body) = true := by rw [show @Heap.accountedOkI = PySem.W.Fast.tw14722251495701143533 from PySem.W.Fast.te14722251495701143533]; exact a
      have t : tablesOk hdView x.abs.heap = true := by rw [show @tablesOk = PySem.W.Fast.tw10994771534591457954 from PySem.W.Fast.te10994771534591457954]; exact t
      unfold openSeen
      dsimp only
      rw [k, a, m, b, t]
      simp only [Bool.true_and, Bool.and_eq_true]
      exact ⟨xx, g⟩
    have c4 : (seenQ hdView ([] : List PySem.Str) (importedModules PySem.Challenge.rw_deskround_k73_no_paper.row.prog.main.body) (fun s => xlAt hdView [] s && recOk PySem.Challenge.rw_deskround_k73_no_paper.row.records s) x.abs).2.2.2.1 = true := by
      rw [← e]
      show tabsOk hdView x.abs = true
      unfold tabsOk
      have k : ((recsOf hdView).all fun d => x.abs.heap.tab0Ok d.name) = true := by
        have k2 : ((recsOf hdView).map (·.name)).all (fun n => x.abs.heap.tab0Ok n) = true := by
          rw [show @recsOf = PySem.W.Fast.tw3399658132070893891 from PySem.W.Fast.te3399658132070893891, show @Heap.tab0Ok = PySem.W.Fast.tw5930804224584009831 from PySem.W.Fast.te5930804224584009831, names_eq]
          exact h5
        rw [List.all_map] at k2
        exact k2
      have k3 : (x.abs.heap.bmainOk && valsOk hdView x.abs.heap && (!importsNone hdView || x.abs.heap.noSeerOk)) = true := by
        rw [show @Heap.bmainOk = PySem.W.Fast.tw5244371056499926238 from PySem.W.Fast.te5244371056499926238, show @valsOk = PySem.W.Fast.tw2578726214315757710 from PySem.W.Fast.te2578726214315757710, show @importsNone = PySem.W.Fast.tw2458874890965802552 from PySem.W.Fast.te2458874890965802552, show @Heap.noSeerOk = PySem.W.Fast.tw9649274521512697073 from PySem.W.Fast.te9649274521512697073]
        exact h14
      rw [k, Bool.true_and]
      exact k3
    have c6 : (seenQ hdView ([] : List PySem.Str) (importedModules PySem.Challenge.rw_deskround_k73_no_paper.row.prog.main.body) (fun s => xlAt hdView [] s && recOk PySem.Challenge.rw_deskround_k73_no_paper.row.records s) x.abs).2.2.2.2.2.1 = plainGoodE hdView (looseW hdView ([] : List PySem.Str)) := by
      rw [← e]
      show plainSeenE hdView (looseW hdView ([] : List PySem.Str)) x.abs = _
      unfold plainGoodE
      rw [show @plainSeenE = PySem.W.Fast.tw2386780881361962483 from PySem.W.Fast.te2386780881361962483, show @looseW = PySem.W.Fast.tw821141287760084731 from PySem.W.Fast.te821141287760084731, show @plainsOf = PySem.W.Fast.tw210736558901404530 from PySem.W.Fast.te210736558901404530, loose_eq]
      exact h6
    have c6 : (seenQ hdView ([] : List PySem.Str) (importedModules PySem.Challenge.rw_deskround_k73_no_paper.row.prog.main.body) (fun s => xlAt hdView [] s && recOk PySem.Challenge.rw_deskround_k73_no_paper.row.records s) x.abs).2.2.2.2.2.1 = ((PySem.W.Fast.tw210736558901404530 hdView (PySem.W.Fast.tw821141287760084731 hdView ([] : List PySem.Str))).map fun c => some c.withCmp.plainShape) := by
      rw [c6]
      unfold plainGoodE
      rw [show @looseW = PySem.W.Fast.tw821141287760084731 from PySem.W.Fast.te821141287760084731, show @plainsOf = PySem.W.Fast.tw210736558901404530 from PySem.W.Fast.te210736558901404530]
    rw [good_eq]
    exact Prod.ext h2 (Prod.ext h12 (Prod.ext c3 (Prod.ext c4 (Prod.ext h45 (Prod.ext c6 (Prod.ext h77 (Prod.ext h8 h79)))))))
end
end HdT
local macro_rules | `(tactic| k_head) => `(tactic| k_headL)
local macro_rules | `(tactic| kernel_rfl) => `(tactic| ((with_reducible refine HdT.run3 ?_ ?_ ?_); rename_i w os; exact Eq.trans (by kernel_rfl) (HdT.all w os).1; rename_i w os; exact Eq.trans (by kernel_rfl) (Eq.trans (HdT.all w os).2 (by kernel_rfl)); kernel_rfl))
set_option maxHeartbeats 0 in
open_top hdTop for PySem.Challenge.rw_deskround_k73_no_paper
end
namespace DL
open PySem PySem.Spec PyProof.Rows L2
structure Kx where
  fr : PySem.W.Frag
  as : List Addr
instance : Coe Kx PySem.W.Frag := ⟨Kx.fr⟩
def clsOf (K : PySem.W.Frag) (c : Str) : Addr := match PySem.W.nsIn K mainGlobals c with
  | some (some (.ref C)) => C
  | _ => 0
inductive D where
  | non | bl (b : Bool) | int (i : Int) | str (s : Str)
  | lst (xs : List D) | tup (xs : List D) | scr (ns : List Int)
  | dK (kvs : List (Key × D)) | dT (kvs : List (List Key × D))
  | ref (a : Addr)
  | rows (rs : List D)
  | exn (c : Str)
  | deep (d : D)
  | junk (n : Nat)
  | obj (k : Nat)
inductive R (α : Type) where
  | ok (a : α) | err (c : Str) | bad
def bd {α β : Type} (x : R α) (f : α → R β) : R β := match x with
  | .ok a => f a
  | .err c => .err c
  | .bad => .bad
@[simp] theorem bd_ok {α β : Type} (a : α) (f : α → R β) : bd (.ok a) f = f a := rfl
@[simp] theorem bd_err {α β : Type} (c : Str) (f : α → R β) : bd (.err c) f = .err c := rfl
@[simp] theorem bd_bad {α β : Type} (f : α → R β) : bd (.bad) f = .bad := rfl
def grd {α : Type} (c : Bool) (x : R α) : R α := if c = true then x else .bad
@[simp] theorem grd_t {α : Type} (x : R α) : grd true x = x := rfl
@[simp] theorem grd_f {α : Type} (x : R α) : grd false x = .bad := rfl
def exK (C a : Addr) : HO := .ext fun h => ∃ oe : Obj, h.get? a = some oe ∧ oe.cls = .ref C ∧ oe.dict = none ∧ ∃ vs, oe.data = .fields vs
mutual
/-- numbers, texts, tuples of such -/
def tO1 : D → Bool
  | .non => true
  | .bl _ => true
  | .int _ => true
  | .str _ => true
  | .tup ds => tOs ds
  | _ => false
def tOs : List D → Bool
  | [] => true
  | d :: ds => tO1 d && tOs ds
end
mutual
/-- .. and lists -/
def dat1 : D → Bool
  | .non => true
  | .bl _ => true
  | .int _ => true
  | .str _ => true
  | .tup ds => dats ds
  | .lst ds => dats ds
  | _ => false
def dats : List D → Bool
  | [] => true
  | d :: ds => dat1 d && dats ds
end
mutual
inductive Rep (K : Kx) (F : Hp) : D → V → Prop
  | non : Rep K F .non .non
  | bl (b : Bool) : Rep K F (.bl b) (.bl b)
  | int (i : Int) : Rep K F (.int i) (.int i)
  | str (x : Str) : Rep K F (.str x) (.str x)
  | lst {a : Addr} {vs : List V} {ds : List D} : F a = some (.lst vs) → Reps K F ds vs → Rep K F (.lst ds) (.ref a)
  | scr {a : Addr} {ns : List Int} : SqL K F a (ns.map V.int) → Rep K F (.scr ns) (.ref a)
  | tup {a : Addr} {vs : List V} {ds : List D} : F a = some (.tup vs) → Reps K F ds vs → Rep K F (.tup ds) (.ref a)
  | dK {a : Addr} {kvs : List (Key × V)} {kds : List (Key × D)} : Rd F a (.dK kvs) → RepK K F kds kvs → Rep K F (.dK kds) (.ref a)
  | dT {a : Addr} {kvs : List (List Key × V)} {kds : List (List Key × D)} : Rd F a (.dT kvs) → RepT K F kds kvs → Rep K F (.dT kds) (.ref a)
  | ref (a : Addr) : Rep K F (.ref a) (.ref a)
  | rows {a : Addr} {vs : List V} {ds : List D} : F a = some (.lst vs) → Reps K F ds vs → Rep K F (.rows ds) (.ref a)
  | exn {c : Str} {a C : Addr} : PySem.W.nsIn K mainGlobals c = some (some (.ref C)) → F a = some (exK C a) → Rep K F (.exn c) (.ref a)
  | deep (d : D) (a : Addr) : Rep K F (.deep d) (.ref a)
  | obj {k : Nat} {a : Addr} : K.as[k]? = some a → Rep K F (.obj k) (.ref a)
inductive Reps (K : Kx) (F : Hp) : List D → List V → Prop
  | nil : Reps K F [] []
  | cons {d : D} {v : V} {ds : List D} {vs : List V} : Rep K F d v → Reps K F ds vs → Reps K F (d :: ds) (v :: vs)
inductive RepK (K : Kx) (F : Hp) : List (Key × D) → List (Key × V) → Prop
  | nil : RepK K F [] []
  | cons {k : Key} {d : D} {v : V} {ds : List (Key × D)} {vs : List (Key × V)} : Rep K F d v → RepK K F ds vs → RepK K F ((k, d) :: ds) ((k, v) :: vs)
inductive RepT (K : Kx) (F : Hp) : List (List Key × D) → List (List Key × V) → Prop
  | nil : RepT K F [] []
  | cons {k : List Key} {d : D} {v : V} {ds : List (List Key × D)} {vs : List (List Key × V)} : Rep K F d v → RepT K F ds vs → RepT K F ((k, d) :: ds) ((k, v) :: vs)
end
section
variable {K : Kx} {F F' H H' H'' F'' : Hp}
theorem Same.seqT {a : Addr} {xs : List V} (e : Same H H') (h : SqT K H a xs) : SqT K H' a xs := by
  rcases h with (h | ⟨o, h⟩) | h
  · exact .inl (.inl (e _ _ h))
  · exact .inl (.inr ⟨o, e _ _ h⟩)
  · exact .inr h
theorem Same.rd {a : Addr} {o : HO} (e : Same H H') (h : Rd H a o) : Rd H' a o := by
  rcases h with h | ⟨u, h⟩
  · exact .inl (e _ _ h)
  · exact .inr ⟨u, e _ _ h⟩
theorem same_upd {p : Addr} {o : HO} (h : H p = none) : Same H (upd H p o) := fun b x e => by
  rw [upd_ne (ne_of_none e h)]
  exact e
theorem same_upd2 {p : Addr} {o : HO} (e : Same F H) (h : F p = none) : Same F (upd H p o) := fun b x z => by
  rw [upd_ne (ne_of_none z h)]
  exact e _ _ z
mutual
theorem Rep.mono (e : Same F F') : ∀ {d : D} {v : V}, Rep K F d v → Rep K F' d v
  | _, _, .non => .non
  | _, _, .bl b => .bl b
  | _, _, .int b => .int b
  | _, _, .str b => .str b
  | _, _, .lst s r => .lst (e _ _ s) (Reps.mono e r)
  | _, _, .scr s => .scr (e.seq s)
  | _, _, .tup s r => .tup (e _ _ s) (Reps.mono e r)
  | _, _, .dK s r => .dK (Same.rd e s) (RepK.mono e r)
  | _, _, .dT s r => .dT (Same.rd e s) (RepT.mono e r)
  | _, _, .ref a => .ref a
  | _, _, .rows s r => .rows (e _ _ s) (Reps.mono e r)
  | _, _, .exn n s => .exn n (e _ _ s)
  | _, _, .deep n s => .deep n s
  | _, _, .obj h => .obj h
theorem Reps.mono (e : Same F F') : ∀ {ds : List D} {vs : List V}, Reps K F ds vs → Reps K F' ds vs
  | _, _, .nil => .nil
  | _, _, .cons r t => .cons (Rep.mono e r) (Reps.mono e t)
theorem RepK.mono (e : Same F F') : ∀ {ds : List (Key × D)} {vs : List (Key × V)}, RepK K F ds vs → RepK K F' ds vs
  | _, _, .nil => .nil
  | _, _, .cons r t => .cons (Rep.mono e r) (RepK.mono e t)
theorem RepT.mono (e : Same F F') : ∀ {ds : List (List Key × D)} {vs : List (List Key × V)}, RepT K F ds vs → RepT K F' ds vs
  | _, _, .nil => .nil
  | _, _, .cons r t => .cons (Rep.mono e r) (RepT.mono e t)
end
theorem Reps.length : ∀ {ds : List D} {vs : List V}, Reps K F ds vs → vs.length = ds.length
  | _, _, .nil => rfl
  | _, _, .cons _ t => congrArg (· + 1) (Reps.length t)
theorem Reps.get : ∀ {ds : List D} {vs : List V} {i : Nat} {d : D}, Reps K F ds vs → ds[i]? = some d → ∃ v, vs[i]? = some v ∧ Rep K F d v
  | _, _, _, _, .nil, e => by simp at e
  | _, _, 0, _, .cons r _, e => by simp at e; subst e; exact ⟨_, rfl, r⟩
  | _, _, i + 1, d, .cons _ t, e => by
    obtain ⟨u, h1, h2⟩ := Reps.get (i := i) (d := d) t (by simpa using e)
    exact ⟨u, by simpa using h1, h2⟩
theorem Reps.get' : ∀ {ds : List D} {vs : List V} {i : Nat} {v : V}, Reps K F ds vs → vs[i]? = some v → ∃ d, ds[i]? = some d ∧ Rep K F d v
  | _, _, _, _, .nil, e => by simp at e
  | _, _, 0, _, .cons r _, e => by simp at e; subst e; exact ⟨_, rfl, r⟩
  | _, _, i + 1, d, .cons _ t, e => by
    obtain ⟨u, h1, h2⟩ := Reps.get' (i := i) t (by simpa using e)
    exact ⟨u, by simpa using h1, h2⟩
theorem Reps.append : ∀ {xs ys : List D} {us ws : List V}, Reps K F xs us → Reps K F ys ws → Reps K F (xs ++ ys) (us ++ ws)
  | _, _, _, _, .nil, s => s
  | _, _, _, _, .cons r t, s => .cons r (Reps.append t s)
theorem Reps.take : ∀ {xs : List D} {us : List V} (n : Nat), Reps K F xs us → Reps K F (xs.take n) (us.take n)
  | _, _, 0, _ => .nil
  | _, _, _ + 1, .nil => .nil
  | _, _, n + 1, .cons r t => .cons r (Reps.take n t)
theorem Reps.drop : ∀ {xs : List D} {us : List V} (n : Nat), Reps K F xs us → Reps K F (xs.drop n) (us.drop n)
  | _, _, 0, r => r
  | _, _, _ + 1, .nil => .nil
  | _, _, n + 1, .cons _ t => Reps.drop n t
theorem Reps.set {d : D} {v : V} (r : Rep K F d v) : ∀ {xs : List D} {us : List V} (i : Nat), Reps K F xs us → Reps K F (xs.set i d) (us.set i v)
  | _, _, _, .nil => .nil
  | _, _, 0, .cons _ t => .cons r t
  | _, _, i + 1, .cons q t => .cons q (Reps.set r i t)
theorem Reps.reverse : ∀ {xs : List D} {us : List V}, Reps K F xs us → Reps K F xs.reverse us.reverse
  | _, _, .nil => .nil
  | _, _, .cons r t => by
    rw [List.reverse_cons, List.reverse_cons]
    exact Reps.append (Reps.reverse t) (.cons r .nil)
theorem Reps.of_ints : ∀ (ns : List Int), Reps K F (ns.map D.int) (ns.map V.int)
  | [] => .nil
  | n :: ns => .cons (.int n) (Reps.of_ints ns)
theorem Reps.of_strs : ∀ (ns : List Str), Reps K F (ns.map D.str) (ns.map V.str)
  | [] => .nil
  | n :: ns => .cons (.str n) (Reps.of_strs ns)
structure Ext (F H F' H' : Hp) : Prop where
  f : Same F F'
  h : Same H H'
  n : ∀ a o, F' a = some o → F a = some o ∨ H a = none
theorem Ext.refl (F H : Hp) : Ext F H F H := ⟨Same.refl _, Same.refl _, fun _ _ h => .inl h⟩
theorem Ext.trans (a : Ext F H F' H') (b : Ext F' H' F'' H'') : Ext F H F'' H'' :=
  ⟨a.f.trans b.f, a.h.trans b.h, fun c o e => by
    rcases b.n c o e with h | h
    · exact a.n c o h
    · exact .inr (a.h.free h)⟩
theorem Ext.heap (s : Same H H') : Ext F H F H' := ⟨Same.refl _, s, fun _ _ h => .inl h⟩
theorem Ext.keepN {a : Addr} {o : HO} (x : Ext F H F' H') (h : H a = some o) (e : F a = none) : F' a = none := by
  cases q : F' a with
  | none => rfl
  | some u =>
    rcases x.n a u q with z | z
    · rw [e] at z; cases z
    · rw [h] at z; cases z
theorem Ext.settle {p : Addr} {o : HO} (x : Ext F H F' H') (n : H p = .none) (q : F' p = .none) : Ext F H (upd F' p o) H' :=
  ⟨x.f.trans (same_upd q), x.h, fun a u e => by
    by_cases h : a = p
    · subst h; exact .inr n
    · rw [upd_ne h] at e; exact x.n a u e⟩
theorem same_settle {p : Addr} {o : HO} (s : Same F H) (q : H p = some o) : Same (upd F p o) H := fun b u e => by
  by_cases h : b = p
  · subst h; rw [upd_same] at e; rw [q, ← e]
  · rw [upd_ne h] at e; exact s b u e
inductive RowsAt (K : Kx) (F H : Hp) : List D → List V → Prop
  | nil : RowsAt K F H [] []
  | cons {b : Addr} {us : List V} {xs rs : List D} {vs : List V} : H b = some (.lst us) → Reps K F xs us → RowsAt K F H rs vs → RowsAt K F H (.lst xs :: rs) (.ref b :: vs)
mutual
/-- a tree whose lists are one's own (places may be shared within it); what holds no list is settled -/
inductive OwD (K : Kx) (F H : Hp) : D → V → Prop
  | set {d : D} {v : V} : tO1 d = true → Rep K F d v → OwD K F H d v
  | lst {a : Addr} {vs : List V} {ds : List D} : H a = some (.lst vs) → OwDs K F H ds vs → OwD K F H (.lst ds) (.ref a)
  | tup {a : Addr} {vs : List V} {ds : List D} : tOs ds = false → H a = some (.tup vs) → OwDs K F H ds vs → OwD K F H (.tup ds) (.ref a)
  | junk {a : Addr} {vs : List V} {n : Nat} : H a = some (.lst vs) → vs.length ≤ n → OwD K F H (.junk n) (.ref a)
inductive OwDs (K : Kx) (F H : Hp) : List D → List V → Prop
  | nil : OwDs K F H [] []
  | cons {d : D} {v : V} {ds : List D} {vs : List V} : OwD K F H d v → OwDs K F H ds vs → OwDs K F H (d :: ds) (v :: vs)
end
mutual
/-- the places of such a tree -/
def rch (H : Hp) : D → V → List Addr
  | .lst ds, .ref a => a :: (match H a with | some (.lst vs) => rchs H ds vs | _ => [])
  | .tup ds, .ref a => if tOs ds = true then [] else a :: (match H a with | some (.tup vs) => rchs H ds vs | _ => [])
  | .junk _, .ref a => [a]
  | _, _ => []
def rchs (H : Hp) : List D → List V → List Addr
  | d :: ds, v :: vs => rch H d v ++ rchs H ds vs
  | _, _ => []
end
mutual
theorem OwD.at {F F' H H' : Hp} (f : Same F F') : ∀ {d : D} {v : V}, OwD K F H d v → (∀ b ∈ rch H d v, H' b = H b) → OwD K F' H' d v ∧ rch H' d v = rch H d v
  | d, v, .set h r, e => ⟨.set h (r.mono f), by
    cases d with
    | tup ds =>
      have h : tOs ds = true := h
      cases v <;> simp only [rch, h, if_true]
    | lst ds => exact nomatch h
    | junk n => exact nomatch h
    | _ => cases v <;> simp only [rch]⟩
  | _, _, .lst (a := a) (vs := vs) (ds := ds) q t, e => by
    have ha : H' a = H a := e a (by simp only [rch]; exact List.mem_cons_self)
    obtain ⟨t1, t2⟩ := OwDs.at f t fun b hb => e b (by simp only [rch, q]; exact List.mem_cons_of_mem _ hb)
    exact ⟨.lst (ha.trans q) t1, by simp only [rch, ha, q, t2]⟩
  | _, _, .tup (a := a) (vs := vs) (ds := ds) z q t, e => by
    have ha : H' a = H a := e a (by simp only [rch, z, Bool.false_eq_true, if_false]; exact List.mem_cons_self)
    obtain ⟨t1, t2⟩ := OwDs.at f t fun b hb => e b (by simp only [rch, z, Bool.false_eq_true, if_false, q]; exact List.mem_cons_of_mem _ hb)
    exact ⟨.tup z (ha.trans q) t1, by simp only [rch, z, Bool.false_eq_true, if_false, ha, q, t2]⟩
  | _, _, .junk (a := a) q l, e => by
    have ha : H' a = H a := e a (by simp only [rch]; exact List.mem_cons_self)
    exact ⟨.junk (ha.trans q) l, by simp only [rch]⟩
theorem OwDs.at {F F' H H' : Hp} (f : Same F F') : ∀ {ds : List D} {vs : List V}, OwDs K F H ds vs → (∀ b ∈ rchs H ds vs, H' b = H b) → OwDs K F' H' ds vs ∧ rchs H' ds vs = rchs H ds vs
  | _, _, .nil, _ => ⟨.nil, by simp only [rchs]⟩
  | _, _, .cons r t, e => by
    obtain ⟨r1, r2⟩ := OwD.at f r fun b hb => e b (by simp only [rchs]; exact List.mem_append_left _ hb)
    obtain ⟨t1, t2⟩ := OwDs.at f t fun b hb => e b (by simp only [rchs]; exact List.mem_append_right _ hb)
    exact ⟨.cons r1 t1, by simp only [rchs, r2, t2]⟩
end
mutual
theorem OwD.there {F H : Hp} : ∀ {d : D} {v : V}, OwD K F H d v → ∀ b ∈ rch H d v, ∃ u, H b = some u
  | d, v, .set h r, b, hb => by
    exfalso
    cases d with
    | tup ds =>
      have h : tOs ds = true := h
      cases v <;> simp only [rch, h, if_true] at hb <;> exact nomatch hb
    | lst ds => exact nomatch h
    | junk n => exact nomatch h
    | _ => cases v <;> simp only [rch] at hb <;> exact nomatch hb
  | _, _, .lst (a := a) (vs := vs) (ds := ds) q t, b, hb => by
    simp only [rch, q] at hb
    rcases List.mem_cons.mp hb with rfl | hb
    · exact ⟨_, q⟩
    · exact OwDs.there t b hb
  | _, _, .tup (a := a) (vs := vs) (ds := ds) z q t, b, hb => by
    simp only [rch, z, Bool.false_eq_true, if_false, q] at hb
    rcases List.mem_cons.mp hb with rfl | hb
    · exact ⟨_, q⟩
    · exact OwDs.there t b hb
  | _, _, .junk (a := a) q l, b, hb => by
    simp only [rch] at hb
    rw [List.mem_singleton.mp hb]
    exact ⟨_, q⟩
theorem OwDs.there {F H : Hp} : ∀ {ds : List D} {vs : List V}, OwDs K F H ds vs → ∀ b ∈ rchs H ds vs, ∃ u, H b = some u
  | _, _, .nil, b, hb => by simp only [rchs] at hb; exact nomatch hb
  | _, _, .cons r t, b, hb => by
    simp only [rchs] at hb
    rcases List.mem_append.mp hb with hb | hb
    · exact OwD.there r b hb
    · exact OwDs.there t b hb
end
mutual
/-- without junk: settled where its places are -/
theorem OwD.rep {F F' H : Hp} (f : Same F F') : ∀ {d : D} {v : V}, OwD K F H d v → dat1 d = true → (∀ b ∈ rch H d v, F' b = H b) → Rep K F' d v
  | _, _, .set h r, _, e => r.mono f
  | _, _, .lst (a := a) (vs := vs) (ds := ds) q t, z, e => by
    have ha : F' a = H a := e a (by simp only [rch]; exact List.mem_cons_self)
    exact .lst (ha.trans q) (OwDs.rep f t z fun b hb => e b (by simp only [rch, q]; exact List.mem_cons_of_mem _ hb))
  | _, _, .tup (a := a) (vs := vs) (ds := ds) z q t, y, e => by
    have ha : F' a = H a := e a (by simp only [rch, z, Bool.false_eq_true, if_false]; exact List.mem_cons_self)
    exact .tup (ha.trans q) (OwDs.rep f t y fun b hb => e b (by simp only [rch, z, Bool.false_eq_true, if_false, q]; exact List.mem_cons_of_mem _ hb))
  | _, _, .junk _ _, y, _ => nomatch y
theorem OwDs.rep {F F' H : Hp} (f : Same F F') : ∀ {ds : List D} {vs : List V}, OwDs K F H ds vs → dats ds = true → (∀ b ∈ rchs H ds vs, F' b = H b) → Reps K F' ds vs
  | _, _, .nil, _, _ => .nil
  | _, _, .cons r t, z, e => by
    have z := Bool.and_eq_true_iff.mp z
    exact .cons (OwD.rep f r z.1 fun b hb => e b (by simp only [rchs]; exact List.mem_append_left _ hb)) (OwDs.rep f t z.2 fun b hb => e b (by simp only [rchs]; exact List.mem_append_right _ hb))
end
mutual
theorem OwD.of {F H : Hp} (s : Same F H) : ∀ {d : D} {v : V}, Rep K F d v → dat1 d = true → OwD K F H d v
  | _, _, .non, _ => .set rfl .non
  | _, _, .bl b, _ => .set rfl (.bl b)
  | _, _, .int b, _ => .set rfl (.int b)
  | _, _, .str b, _ => .set rfl (.str b)
  | _, _, .lst q t, z => .lst (s _ _ q) (OwDs.of s t z)
  | _, _, .tup (ds := ds) q t, z => by
    cases h : tOs ds with
    | true => exact .set h (.tup q t)
    | false => exact .tup h (s _ _ q) (OwDs.of s t z)
  | _, _, .scr _, z => nomatch z
  | _, _, .dK _ _, z => nomatch z
  | _, _, .dT _ _, z => nomatch z
  | _, _, .ref _, z => nomatch z
  | _, _, .rows _ _, z => nomatch z
  | _, _, .exn _ _, z => nomatch z
  | _, _, .deep _ _, z => nomatch z
  | _, _, .obj _, z => nomatch z
theorem OwDs.of {F H : Hp} (s : Same F H) : ∀ {ds : List D} {vs : List V}, Reps K F ds vs → dats ds = true → OwDs K F H ds vs
  | _, _, .nil, _ => .nil
  | _, _, .cons r t, z => by
    have z := Bool.and_eq_true_iff.mp z
    exact .cons (OwD.of s r z.1) (OwDs.of s t z.2)
end
mutual
theorem OwD.mono {F F' H H' : Hp} (f : Same F F') (h : Same H H') : ∀ {d : D} {v : V}, OwD K F H d v → OwD K F' H' d v
  | _, _, .set z r => .set z (r.mono f)
  | _, _, .lst q t => .lst (h _ _ q) (OwDs.mono f h t)
  | _, _, .tup z q t => .tup z (h _ _ q) (OwDs.mono f h t)
  | _, _, .junk q l => .junk (h _ _ q) l
theorem OwDs.mono {F F' H H' : Hp} (f : Same F F') (h : Same H H') : ∀ {ds : List D} {vs : List V}, OwDs K F H ds vs → OwDs K F' H' ds vs
  | _, _, .nil => .nil
  | _, _, .cons r t => .cons (OwD.mono f h r) (OwDs.mono f h t)
end
def View (K : Kx) (F H : Hp) : D → V → Prop
  | .lst ds, v => ∃ a vs, v = .ref a ∧ H a = some (.lst vs) ∧ Reps K F ds vs
  | .scr ns, v => ∃ a, v = .ref a ∧ SqL K H a (ns.map V.int)
  | .tup ds, v => ∃ a vs, v = .ref a ∧ H a = some (.tup vs) ∧ Reps K F ds vs
  | .dK ds, v => ∃ a vs, v = .ref a ∧ Rd H a (.dK vs) ∧ RepK K F ds vs
  | .dT ds, v => ∃ a vs, v = .ref a ∧ Rd H a (.dT vs) ∧ RepT K F ds vs
  | .non, v => v = .non
  | .bl b, v => v = .bl b
  | .int b, v => v = .int b
  | .str b, v => v = .str b
  | .ref b, v => v = .ref b
  | .rows rs, v => ∃ a vs, v = .ref a ∧ H a = some (.lst vs) ∧ (Reps K F rs vs ∨ RowsAt K F H rs vs)
  | .exn c, v => ∃ a C, v = .ref a ∧ PySem.W.nsIn K mainGlobals c = some (some (.ref C)) ∧ H a = some (exK C a)
  | .deep _, v => ∃ a, v = .ref a
  | .junk _, _ => False
  | .obj k, v => ∃ a, v = .ref a ∧ K.as[k]? = some a
def Own (K : Kx) (F H : Hp) (a : Addr) : D → Prop
  | .lst ds => ∃ vs, H a = some (.lst vs) ∧ Reps K F ds vs
  | .dK ds => ∃ vs, H a = some (.dK vs) ∧ RepK K F ds vs
  | .dT ds => ∃ vs, H a = some (.dT vs) ∧ RepT K F ds vs
  | .rows rs => ∃ vs, H a = some (.lst vs) ∧ RowsAt K F H rs vs
  | .deep d => OwD K F H d (.ref a) ∧ tO1 d = false
  | _ => False
def isC : D → Bool
  | .lst _ => true
  | .dK _ => true
  | .dT _ => true
  | .rows _ => true
  | .deep _ => true
  | _ => false
def isRows : D → Bool
  | .rows _ => true
  | .deep _ => true
  | _ => false
def refOf : V → Option Addr
  | .ref b => some b
  | _ => none
def isDeep : D → Bool
  | .deep _ => true
  | _ => false
def kids (H : Hp) (a : Addr) : List Addr := match H a with
  | some (.lst vs) => vs.filterMap refOf
  | _ => []
def nub : List Addr → List Addr
  | [] => []
  | b :: l => if b ∈ nub l then nub l else b :: nub l
theorem mem_nub {c : Addr} : ∀ {l : List Addr}, c ∈ nub l ↔ c ∈ l
  | [] => Iff.rfl
  | b :: l => by
    have ih := mem_nub (c := c) (l := l)
    unfold nub
    split
    · rename_i h
      rw [List.mem_cons, ih]
      refine ⟨.inr, fun z => z.elim (fun e => ?_) id⟩
      subst e
      exact ih.mp h
    · rw [List.mem_cons, List.mem_cons, ih]
theorem nub_nodup : ∀ {l : List Addr}, (nub l).Nodup
  | [] => List.nodup_nil
  | b :: l => by
    unfold nub
    split
    · exact nub_nodup
    · rename_i h
      exact List.nodup_cons.mpr ⟨h, nub_nodup⟩
def kin (H : Hp) (a : Addr) : D → List Addr
  | .rows _ => kids H a
  | .deep d => (nub (rch H d (.ref a))).filter fun b => b != a
  | _ => []
def foot (H : Hp) (a : Addr) (d : D) : List Addr := a :: kin H a d
def New (K : Kx) (H0 F H : Hp) (d : D) (v : V) : Prop :=
  if isC d = true then (if isRows d = true then ∃ a, v = .ref a ∧ (∀ b ∈ foot H a d, H0 b = none ∧ F b = none) ∧ (foot H a d).Nodup ∧ Own K F H a d
    else ∃ a, v = .ref a ∧ H0 a = none ∧ F a = none ∧ Own K F H a d) else Rep K F d v
theorem foot_head {a : Addr} {d : D} : a ∈ foot H a d := List.mem_cons_self
theorem foot_one {a : Addr} {d : D} (h : isRows d = false) : foot H a d = [a] := by
  cases d with
  | rows rs => exact nomatch h
  | deep d => exact nomatch h
  | _ => rfl
theorem foot_rows {a : Addr} {rs : List D} : foot H a (.rows rs) = a :: kids H a := rfl
theorem kids_at {a : Addr} {vs : List V} (h : H a = some (.lst vs)) : kids H a = vs.filterMap refOf := by unfold kids; rw [h]
theorem kids_same {a : Addr} (h : H' a = H a) : kids H' a = kids H a := by unfold kids; rw [h]
theorem mem_deep {a b : Addr} {d : D} (h : b ∈ rch H d (.ref a)) : b ∈ foot H a (.deep d) := by
  by_cases e : b = a
  · subst e; exact foot_head
  · refine List.mem_cons_of_mem _ (List.mem_filter.mpr ⟨mem_nub.mpr h, ?_⟩)
    simpa using e
theorem deep_mem {a b : Addr} {d : D} (h : b ∈ foot H a (.deep d)) : b = a ∨ b ∈ rch H d (.ref a) := by
  rcases List.mem_cons.mp h with h | h
  · exact .inl h
  · exact .inr (mem_nub.mp (List.mem_filter.mp h).1)
theorem deep_nodup {a : Addr} {d : D} : (foot H a (.deep d)).Nodup := by
  refine List.nodup_cons.mpr ⟨fun h => ?_, ?_⟩
  · have := (List.mem_filter.mp h).2
    simp at this
  · exact List.Pairwise.filter _ nub_nodup
theorem foot_same0 {a : Addr} {d : D} (hd : isDeep d = false) (h : H' a = H a) : foot H' a d = foot H a d := by
  cases d with
  | rows rs => show a :: kids H' a = a :: kids H a; rw [kids_same h]
  | deep d => exact nomatch hd
  | _ => rfl
theorem foot_same {a : Addr} {d : D} (o : Own K F H a d) (h : ∀ b ∈ foot H a d, H' b = H b) : foot H' a d = foot H a d := by
  cases d with
  | rows rs => exact foot_same0 rfl (h a foot_head)
  | deep d =>
    have := (OwD.at (Same.refl F) o.1 fun b hb => h b (mem_deep hb)).2
    show a :: (nub (rch H' d (.ref a))).filter _ = a :: (nub (rch H d (.ref a))).filter _
    rw [this]
  | _ => rfl
theorem kid_head {b : Addr} {vs : List V} : (V.ref b :: vs).filterMap refOf = b :: vs.filterMap refOf := by rw [List.filterMap_cons]; rfl
theorem RowsAt.mono (f : Same F F') : ∀ {rs : List D} {vs : List V}, RowsAt K F H rs vs → (∀ b ∈ vs.filterMap refOf, ∀ u, H b = some u → H' b = some u) → RowsAt K F' H' rs vs
  | _, _, .nil, _ => .nil
  | _, _, .cons q r t, e => .cons (e _ (by rw [kid_head]; exact List.mem_cons_self) _ q) (r.mono f) (RowsAt.mono f t fun c hc => e c (by rw [kid_head]; exact List.mem_cons_of_mem _ hc))
theorem RowsAt.there : ∀ {rs : List D} {vs : List V}, RowsAt K F H rs vs → ∀ b ∈ vs.filterMap refOf, ∃ u, H b = some u
  | _, _, .nil, _, h => nomatch h
  | _, _, .cons q r t, b, h => by
    rw [kid_head] at h
    rcases List.mem_cons.mp h with rfl | h
    · exact ⟨_, q⟩
    · exact RowsAt.there t b h
theorem RowsAt.length : ∀ {rs : List D} {vs : List V}, RowsAt K F H rs vs → vs.length = rs.length
  | _, _, .nil => rfl
  | _, _, .cons _ _ t => congrArg (· + 1) (RowsAt.length t)
theorem RowsAt.get : ∀ {rs : List D} {vs : List V} {i : Nat} {d : D}, RowsAt K F H rs vs → rs[i]? = some d → ∃ b us xs, vs[i]? = some (.ref b) ∧ d = .lst xs ∧ H b = some (.lst us) ∧ Reps K F xs us
  | _, _, _, _, .nil, e => by simp at e
  | _, _, 0, _, .cons q r _, e => by simp at e; subst e; exact ⟨_, _, _, rfl, rfl, q, r⟩
  | _, _, i + 1, d, .cons _ _ t, e => by
    obtain ⟨b, us, xs, h1, h2, h3, h4⟩ := RowsAt.get (i := i) (d := d) t (by simpa using e)
    exact ⟨b, us, xs, by simpa using h1, h2, h3, h4⟩
theorem RowsAt.append : ∀ {rs ts : List D} {us ws : List V}, RowsAt K F H rs us → RowsAt K F H ts ws → RowsAt K F H (rs ++ ts) (us ++ ws)
  | _, _, _, _, .nil, s => s
  | _, _, _, _, .cons q r t, s => .cons q r (RowsAt.append t s)
theorem filterMap_mem {vs : List V} {i : Nat} {b : Addr} (h : vs[i]? = some (.ref b)) : b ∈ vs.filterMap refOf := List.mem_filterMap.mpr ⟨.ref b, List.mem_of_getElem? h, rfl⟩
theorem RowsAt.settle : ∀ {rs : List D} {vs : List V} {F : Hp}, RowsAt K F H rs vs → Same F H → (∀ b ∈ vs.filterMap refOf, F b = none) → (vs.filterMap refOf).Nodup →
    ∃ F', Same F F' ∧ Same F' H ∧ Reps K F' rs vs ∧ ∀ c o, F' c = some o → F c = some o ∨ c ∈ vs.filterMap refOf
  | _, _, F, .nil, s, _, _ => ⟨F, Same.refl _, s, .nil, fun _ _ h => .inl h⟩
  | _, _, F, .cons (b := b) (us := us) (vs := vs) q r t, s, hn, nd => by
    have e : (V.ref b :: vs).filterMap refOf = b :: vs.filterMap refOf := by rw [List.filterMap_cons]; rfl
    rw [e] at hn nd
    have nd := List.nodup_cons.mp nd
    have hb := hn b List.mem_cons_self
    have s1 : Same F (upd F b (.lst us)) := same_upd hb
    obtain ⟨F', s2, s3, rr, hk⟩ := RowsAt.settle (RowsAt.mono s1 t fun _ _ _ h => h) (same_settle s q) (fun c hc => by
      rw [upd_ne (fun (z : c = b) => nd.1 (z ▸ hc))]
      exact hn c (List.mem_cons_of_mem _ hc)) nd.2
    refine ⟨F', s1.trans s2, s3, .cons (.lst (s2 _ _ upd_same) ((r.mono s1).mono s2)) rr, fun c o hc => ?_⟩
    rw [e]
    rcases hk c o hc with h | h
    · by_cases z : c = b
      · exact .inr (z ▸ List.mem_cons_self)
      · rw [upd_ne z] at h; exact .inl h
    · exact .inr (List.mem_cons_of_mem _ h)
theorem Rep.view (s : Same F H) {d : D} {v : V} (r : Rep K F d v) : View K F H d v := by
  cases r with
  | non => rfl
  | bl b => rfl
  | int b => rfl
  | str b => rfl
  | ref b => rfl
  | lst q r => exact ⟨_, _, rfl, s _ _ q, r⟩
  | scr q => exact ⟨_, rfl, s.seq q⟩
  | tup q r => exact ⟨_, _, rfl, s _ _ q, r⟩
  | dK q r => exact ⟨_, _, rfl, Same.rd s q, r⟩
  | dT q r => exact ⟨_, _, rfl, Same.rd s q, r⟩
  | rows q r => exact ⟨_, _, rfl, s _ _ q, .inl r⟩
  | exn n q => exact ⟨_, _, rfl, n, s _ _ q⟩
  | deep d a => exact ⟨a, rfl⟩
  | obj h => exact ⟨_, rfl, h⟩
theorem View.mono (f : Same F F') (h : Same H H') {d : D} {v : V} (r : View K F H d v) : View K F' H' d v := by
  cases d with
  | lst ds => obtain ⟨a, vs, e, q, r⟩ := r; exact ⟨a, vs, e, h _ _ q, r.mono f⟩
  | scr ns => obtain ⟨a, e, q⟩ := r; exact ⟨a, e, h.seq q⟩
  | tup ds => obtain ⟨a, vs, e, q, r⟩ := r; exact ⟨a, vs, e, h _ _ q, r.mono f⟩
  | dK ds => obtain ⟨a, vs, e, q, r⟩ := r; exact ⟨a, vs, e, Same.rd h q, r.mono f⟩
  | dT ds => obtain ⟨a, vs, e, q, r⟩ := r; exact ⟨a, vs, e, Same.rd h q, r.mono f⟩
  | exn c => obtain ⟨a, C, e, n, q⟩ := r; exact ⟨a, C, e, n, h _ _ q⟩
  | deep d => exact r
  | junk n => exact r.elim
  | rows ds =>
    obtain ⟨a, vs, e, q, r⟩ := r
    refine ⟨a, vs, e, h _ _ q, ?_⟩
    rcases r with r | r
    · exact .inl (r.mono f)
    · exact .inr (r.mono f fun _ _ _ e => h _ _ e)
  | _ => exact r
theorem Own.view {a : Addr} {d : D} (o : Own K F H a d) : View K F H d (.ref a) := by
  cases d with
  | lst ds => obtain ⟨vs, q, r⟩ := o; exact ⟨a, vs, rfl, q, r⟩
  | dK ds => obtain ⟨vs, q, r⟩ := o; exact ⟨a, vs, rfl, .inl q, r⟩
  | dT ds => obtain ⟨vs, q, r⟩ := o; exact ⟨a, vs, rfl, .inl q, r⟩
  | rows ds => obtain ⟨vs, q, r⟩ := o; exact ⟨a, vs, rfl, q, .inr r⟩
  | deep d => exact ⟨a, rfl⟩
  | _ => exact o.elim
theorem OwD.root {a : Addr} {d : D} (o : OwD K F H d (.ref a)) (h : tO1 d = false) : a ∈ rch H d (.ref a) := by
  cases o with
  | set z r => rw [z] at h; cases h
  | lst q t => simp only [rch]; exact List.mem_cons_self
  | tup z q t => simp only [rch, z, Bool.false_eq_true, if_false]; exact List.mem_cons_self
  | junk q l => simp only [rch]; exact List.mem_cons_self
theorem Own.there {a : Addr} {d : D} (o : Own K F H a d) : ∃ u, H a = some u := by
  cases d with
  | lst ds => obtain ⟨vs, q, r⟩ := o; exact ⟨_, q⟩
  | dK ds => obtain ⟨vs, q, r⟩ := o; exact ⟨_, q⟩
  | dT ds => obtain ⟨vs, q, r⟩ := o; exact ⟨_, q⟩
  | rows ds => obtain ⟨vs, q, r⟩ := o; exact ⟨_, q⟩
  | deep d => exact o.1.there a (o.1.root o.2)
  | _ => exact o.elim
theorem Own.foot {a : Addr} {d : D} (o : Own K F H a d) : ∀ b ∈ foot H a d, ∃ u, H b = some u := fun b hb => by
  rcases List.mem_cons.mp hb with rfl | hb
  · exact o.there
  · cases d with
    | rows ds =>
      obtain ⟨vs, q, r⟩ := o
      have hb : b ∈ kids H a := hb
      rw [kids_at q] at hb
      exact r.there b hb
    | deep d => exact o.1.there b (mem_nub.mp (List.mem_filter.mp hb).1)
    | _ => exact absurd hb List.not_mem_nil
theorem Own.isC {a : Addr} {d : D} (o : Own K F H a d) : isC d = true := by
  cases d <;> first | rfl | exact o.elim
theorem Own.at {a : Addr} {d : D} (f : Same F F') (e : ∀ b ∈ DL.foot H a d, ∀ u, H b = some u → H' b = some u) (o : Own K F H a d) : Own K F' H' a d := by
  have e0 := e a foot_head
  cases d with
  | lst ds => obtain ⟨vs, q, r⟩ := o; exact ⟨vs, e0 _ q, r.mono f⟩
  | dK ds => obtain ⟨vs, q, r⟩ := o; exact ⟨vs, e0 _ q, r.mono f⟩
  | dT ds => obtain ⟨vs, q, r⟩ := o; exact ⟨vs, e0 _ q, r.mono f⟩
  | rows ds =>
    obtain ⟨vs, q, r⟩ := o
    refine ⟨vs, e0 _ q, r.mono f fun b hb => e b (List.mem_cons_of_mem _ ?_)⟩
    show b ∈ kids H a
    rw [kids_at q]
    exact hb
  | deep d =>
    refine ⟨(OwD.at f o.1 fun b hb => ?_).1, o.2⟩
    obtain ⟨u, hu⟩ := o.1.there b hb
    exact (e b (mem_deep hb) u hu).trans hu.symm
  | _ => exact o.elim
theorem Own.mono {a : Addr} {d : D} (f : Same F F') (h : Same H H') (o : Own K F H a d) : Own K F' H' a d := o.at f fun b _ u e => h b u e
theorem Own.settle {a : Addr} {d : D} (o : Own K F H a d) (s : Same F H) (n : ∀ b ∈ DL.foot H a d, F b = none) (nd : (DL.foot H a d).Nodup) : ∃ F', Same F F' ∧ Same F' H ∧ Rep K F' d (.ref a) ∧ ∀ c o, F' c = some o → F c = some o ∨ c ∈ DL.foot H a d := by
  have one : ∀ u, H a = some u → Same F (upd F a u) ∧ Same (upd F a u) H ∧ ∀ c o, upd F a u c = some o → F c = some o ∨ c ∈ DL.foot H a d := fun u q => ⟨same_upd (n a foot_head), same_settle s q, fun c o h => by
    by_cases z : c = a
    · exact .inr (z ▸ foot_head)
    · rw [upd_ne z] at h; exact .inl h⟩
  cases d with
  | lst ds => obtain ⟨vs, q, r⟩ := o; obtain ⟨s1, s2, s3⟩ := one _ q; exact ⟨_, s1, s2, .lst upd_same (r.mono s1), s3⟩
  | dK ds => obtain ⟨vs, q, r⟩ := o; obtain ⟨s1, s2, s3⟩ := one _ q; exact ⟨_, s1, s2, .dK (.inl upd_same) (r.mono s1), s3⟩
  | dT ds => obtain ⟨vs, q, r⟩ := o; obtain ⟨s1, s2, s3⟩ := one _ q; exact ⟨_, s1, s2, .dT (.inl upd_same) (r.mono s1), s3⟩
  | rows ds =>
    obtain ⟨vs, q, r⟩ := o
    have ef : DL.foot H a (.rows ds) = a :: vs.filterMap refOf := by rw [foot_rows, kids_at q]
    rw [ef] at n nd ⊢
    have nd := List.nodup_cons.mp nd
    have n0 := n a List.mem_cons_self
    have s1 : Same F (upd F a (.lst vs)) := same_upd n0
    obtain ⟨F', s2, s3, rr, hk⟩ := (r.mono (H' := H) s1 fun _ _ _ h => h).settle (same_settle s q) (fun c hc => by
      rw [upd_ne (fun (z : c = a) => nd.1 (z ▸ hc))]
      exact n c (List.mem_cons_of_mem _ hc)) nd.2
    refine ⟨F', s1.trans s2, s3, .rows (s2 _ _ upd_same) rr, fun c o hc => ?_⟩
    rcases hk c o hc with h | h
    · by_cases z : c = a
      · exact .inr (z ▸ List.mem_cons_self)
      · rw [upd_ne z] at h; exact .inl h
    · exact .inr (List.mem_cons_of_mem _ h)
  | deep d =>
    obtain ⟨o1, o2⟩ := o
    let F' : Hp := fun b => if b ∈ DL.foot H a (.deep d) then H b else F b
    have s1 : Same F F' := fun b u h => by
      show (if _ then _ else _) = _
      rw [if_neg (fun z => by rw [n b z] at h; cases h)]
      exact h
    have s2 : Same F' H := fun b u h => by
      by_cases z : b ∈ DL.foot H a (.deep d)
      · have h : (if b ∈ DL.foot H a (.deep d) then H b else F b) = some u := h
        rwa [if_pos z] at h
      · have h : (if b ∈ DL.foot H a (.deep d) then H b else F b) = some u := h
        rw [if_neg z] at h
        exact s _ _ h
    refine ⟨F', s1, s2, .deep d a, fun c o h => ?_⟩
    by_cases z : c ∈ DL.foot H a (.deep d)
    · exact .inr z
    · have h : (if c ∈ DL.foot H a (.deep d) then H c else F c) = some o := h
      rw [if_neg z] at h
      exact .inl h
  | _ => exact o.elim
theorem New.own {H0 : Hp} {d : D} {v : V} (h : isC d = true) (r : New K H0 F H d v) : ∃ a, v = .ref a ∧ (∀ b ∈ DL.foot H a d, H0 b = none ∧ F b = none) ∧ (DL.foot H a d).Nodup ∧ Own K F H a d := by
  unfold New at r
  rw [if_pos h] at r
  split at r
  · exact r
  · rename_i hr
    obtain ⟨a, e, n, n', o⟩ := r
    rw [Bool.not_eq_true] at hr
    refine ⟨a, e, ?_, ?_, o⟩
    · rw [foot_one hr]
      intro b hb
      rw [List.mem_singleton.mp hb]
      exact ⟨n, n'⟩
    · rw [foot_one hr]
      simp
theorem New.mk {H0 : Hp} {d : D} {a : Addr} (n : ∀ b ∈ DL.foot H a d, H0 b = none ∧ F b = none) (nd : (DL.foot H a d).Nodup) (o : Own K F H a d) : New K H0 F H d (.ref a) := by
  unfold New
  rw [if_pos o.isC]
  split
  · exact ⟨a, rfl, n, nd, o⟩
  · exact ⟨a, rfl, (n a foot_head).1, (n a foot_head).2, o⟩
theorem New.isRep {H0 : Hp} {d : D} {v : V} (h : isC d = false) (r : New K H0 F H d v) : Rep K F d v := by
  unfold New at r
  rw [h] at r
  exact r
theorem New.view {H0 : Hp} {d : D} {v : V} (s : Same F H) (r : New K H0 F H d v) : View K F H d v := by
  cases h : isC d with
  | true => obtain ⟨a, rfl, _, _, o⟩ := r.own h; exact o.view
  | false => exact (r.isRep h).view s
theorem New.rep {H0 : Hp} {d : D} {v : V} (s : Same F' H') (x : Ext F H0 F' H') (r : New K H0 F' H' d v) : ∃ F'', Ext F H0 F'' H' ∧ Same F' F'' ∧ Same F'' H' ∧ Rep K F'' d v := by
  cases h : isC d with
  | true =>
    obtain ⟨a, rfl, n, nd, o⟩ := r.own h
    obtain ⟨F2, s1, s2, r, hk⟩ := o.settle s (fun b hb => (n b hb).2) nd
    exact ⟨F2, ⟨x.f.trans s1, x.h, fun c u e => by
      rcases hk c u e with z | z
      · exact x.n c u z
      · exact .inr (n c z).1⟩, s1, s2, r⟩
  | false => exact ⟨F', x, Same.refl _, s, r.isRep h⟩
theorem New.of_rep {H0 : Hp} {d : D} {v : V} (h : isC d = false) (r : Rep K F d v) : New K H0 F H d v := by
  unfold New; rw [h]; exact r
end
inductive Cell where
  | ins (c : Nat) (fs : List D) | lst (ds : List D) | dK (kvs : List (Key × D)) | dT (kvs : List (List Key × D))
abbrev Wd := List Cell
def clsT : Nat → Str × List Str
  | 0 => (Str.ofString "Staff", [Str.ofString "crew", Str.ofString "chain", Str.ofString "book", Str.ofString "tempo"])
  | 1 => (Str.ofString "Office", [Str.ofString "team", Str.ofString "forms", Str.ofString "cases"])
  | 2 => (Str.ofString "Case", [Str.ofString "parts", Str.ofString "rows", Str.ofString "bonds", Str.ofString "marks"])
  | _ => (Str.ofString "Desk", [Str.ofString "crew_kept", Str.ofString "hall"])
def CellAt (K : Kx) (F H : Hp) (a : Addr) : Cell → Prop
  | .ins c fs => ∃ (dx : Addr) (vs : List (Str × V)), H a = some (.ins (clsOf K.fr (clsT c).1) dx vs) ∧ H dx = some (.own a) ∧ vs.map (·.1) = (clsT c).2.take fs.length ∧ Reps K F fs (vs.map (·.2))
  | .lst ds => ∃ vs, H a = some (.lst vs) ∧ Reps K F ds vs
  | .dK kds => ∃ kvs, Rd H a (.dK kvs) ∧ RepK K F kds kvs
  | .dT kds => ∃ kvs, Rd H a (.dT kvs) ∧ RepT K F kds kvs
def WV (K : Kx) (F H : Hp) (W : Wd) : Prop := ∀ (k : Nat) (c : Cell), W[k]? = some c → ∃ a, K.as[k]? = some a ∧ CellAt K F H a c
theorem WV.nil {K : Kx} {F H : Hp} : WV K F H [] := fun k c h => by simp at h
theorem CellAt.mono {K : Kx} {F H F' H' : Hp} {a : Addr} {c : Cell} (f : Same F F') (h : Same H H') (w : CellAt K F H a c) : CellAt K F' H' a c := by
  cases c with
  | ins c fs => obtain ⟨dx, vs, h1, h2, h3, h4⟩ := w; exact ⟨dx, vs, h _ _ h1, h _ _ h2, h3, h4.mono f⟩
  | lst ds => obtain ⟨vs, h1, h2⟩ := w; exact ⟨vs, h _ _ h1, h2.mono f⟩
  | dK ds => obtain ⟨vs, h1, h2⟩ := w; exact ⟨vs, Same.rd h h1, h2.mono f⟩
  | dT ds => obtain ⟨vs, h1, h2⟩ := w; exact ⟨vs, Same.rd h h1, h2.mono f⟩
theorem WV.mono {K : Kx} {F H F' H' : Hp} {W : Wd} (f : Same F F') (h : Same H H') (w : WV K F H W) : WV K F' H' W := fun k c e => by
  obtain ⟨a, h1, h2⟩ := w k c e
  exact ⟨a, h1, h2.mono f h⟩
abbrev En := List (Option (Bool × D))
structure Cd where
  K : Kx
  F0 : Hp
  H0 : Hp
  XW : Str → L2.St → Hp → Prop
  ln : Nat → Option (D × V)
  io : List Addr
  wd : Wd
structure Rel (C : Cd) (ρ : En) (σ : L2.St) (F H : Hp) : Prop where
  ext : Ext C.F0 C.H0 F H
  sub : Same F H
  len : σ.length = ρ.length
  slot : ∀ (i : Nat) (d : D), ρ[i]? = some (some (false, d)) → ∃ v, σ[i]? = some (some v) ∧ Rep C.K F d v
  ownF : ∀ (i : Nat) (d : D), ρ[i]? = some (some (true, d)) → ∃ a, σ[i]? = some (some (.ref a)) ∧ (∀ b ∈ foot H a d, F b = none ∧ C.H0 b = none) ∧ (foot H a d).Nodup ∧ Own C.K F H a d
  apartF : ∀ (i j : Nat) (d e : D) (a b c : Addr), ρ[i]? = some (some (true, d)) → ρ[j]? = some (some (true, e)) → σ[i]? = some (some (.ref a)) → σ[j]? = some (some (.ref b)) → c ∈ foot H a d → c ∈ foot H b e → i = j
  lend : ∀ (i : Nat) (d : D) (v : V), C.ln i = some (d, v) → σ[i]? = some (some v) ∧ View C.K C.F0 C.H0 d v
  wok : WV C.K C.F0 C.H0 C.wd
section
variable {C : Cd} {ρ : En} {σ : L2.St} {F H F' H' : Hp}
theorem Rel.own (r : Rel C ρ σ F H) (i : Nat) (d : D) (h : ρ[i]? = some (some (true, d))) : ∃ a, σ[i]? = some (some (.ref a)) ∧ F a = none ∧ C.H0 a = none ∧ Own C.K F H a d := by
  obtain ⟨a, q, n, _, o⟩ := r.ownF i d h
  exact ⟨a, q, (n a foot_head).1, (n a foot_head).2, o⟩
theorem foot_grow {a : Addr} {d : D} (h : Same H H') (o : Own C.K F H a d) : foot H' a d = foot H a d := by
  refine foot_same o fun b hb => ?_
  obtain ⟨u, hu⟩ := o.foot b hb
  exact (h _ _ hu).trans hu.symm
theorem Rel.grow (r : Rel C ρ σ F H) (x : Ext F H F' H') (s : Same F' H') : Rel C ρ σ F' H' where
  ext := r.ext.trans x
  sub := s
  len := r.len
  slot := fun i d e => by obtain ⟨v, q, z⟩ := r.slot i d e; exact ⟨v, q, z.mono x.f⟩
  ownF := fun i d e => by
    obtain ⟨a, q, n, nd, o⟩ := r.ownF i d e
    rw [← foot_grow x.h o] at nd
    refine ⟨a, q, fun b hb => ?_, nd, o.mono x.f x.h⟩
    rw [foot_grow x.h o] at hb
    obtain ⟨u, hu⟩ := o.foot b hb
    exact ⟨x.keepN hu (n b hb).1, (n b hb).2⟩
  apartF := fun i j d e a b c h1 h2 h3 h4 h5 h6 => by
    obtain ⟨a', q, _, _, o⟩ := r.ownF i d h1
    rw [h3] at q
    cases q
    obtain ⟨b', q, _, _, o'⟩ := r.ownF j e h2
    rw [h4] at q
    cases q
    rw [foot_grow x.h o] at h5
    rw [foot_grow x.h o'] at h6
    exact r.apartF i j d e a b c h1 h2 h3 h4 h5 h6
  wok := r.wok
  lend := r.lend
theorem Rel.view (r : Rel C ρ σ F H) {i : Nat} {b : Bool} {d : D} (e : ρ[i]? = some (some (b, d))) : ∃ v, σ[i]? = some (some v) ∧ View C.K F H d v := by
  cases b with
  | false => obtain ⟨v, q, z⟩ := r.slot i d e; exact ⟨v, q, z.view r.sub⟩
  | true => obtain ⟨a, q, n, n0, o⟩ := r.own i d e; exact ⟨_, q, o.view⟩
theorem get_set {α : Type} {l : List α} {i j : Nat} {x y : α} (h : (l.set i x)[j]? = some y) : (i = j ∧ y = x) ∨ (i ≠ j ∧ l[j]? = some y) := by
  by_cases e : i = j
  · subst e
    rw [List.getElem?_set] at h
    simp at h
    exact .inl ⟨rfl, h.2.symm⟩
  · right; rw [List.getElem?_set_ne e] at h; exact ⟨e, h⟩
theorem Rel.lt (r : Rel C ρ σ F H) {i : Nat} {x : Option (Bool × D)} (h : ρ[i]? = some x) : i < σ.length := by
  rw [r.len]
  exact (List.getElem?_eq_some_iff.mp h).1
theorem Rel.set (r : Rel C ρ σ F H) {i : Nat} {d : D} {v : V} (q : Rep C.K F d v) (hl : C.ln i = none) : Rel C (ρ.set i (some (false, d))) (σ.set i (some v)) F H where
  ext := r.ext
  sub := r.sub
  len := by rw [List.length_set, List.length_set]; exact r.len
  slot := fun j e h => by
    rcases get_set h with ⟨rfl, z⟩ | ⟨n, z⟩
    · cases z
      refine ⟨v, ?_, q⟩
      rw [List.getElem?_set_self]
      rw [r.len]
      have := (List.getElem?_eq_some_iff.mp h).1
      simpa using this
    · obtain ⟨w, z1, z2⟩ := r.slot j e z
      exact ⟨w, by rw [List.getElem?_set_ne n]; exact z1, z2⟩
  ownF := fun j e h => by
    rcases get_set h with ⟨rfl, z⟩ | ⟨n, z⟩
    · cases z
    · obtain ⟨a, z1, z2⟩ := r.ownF j e z
      exact ⟨a, by rw [List.getElem?_set_ne n]; exact z1, z2⟩
  apartF := fun j k d' e a b c h1 h2 h3 h4 h5 h6 => by
    rcases get_set h1 with ⟨rfl, z⟩ | ⟨n, z⟩
    · cases z
    · rcases get_set h2 with ⟨rfl, z'⟩ | ⟨n', z'⟩
      · cases z'
      · rw [List.getElem?_set_ne n] at h3
        rw [List.getElem?_set_ne n'] at h4
        exact r.apartF j k _ _ a b c z z' h3 h4 h5 h6
  wok := r.wok
  lend := fun j d' w h => by
    obtain ⟨z1, z2⟩ := r.lend j d' w h
    exact ⟨by rw [List.getElem?_set_ne (fun e => by subst e; rw [hl] at h; cases h)]; exact z1, z2⟩
theorem Rel.setO (r : Rel C ρ σ F H) {i : Nat} {d : D} {a : Addr} (hl : C.ln i = none) (n : ∀ b ∈ foot H a d, F b = none ∧ C.H0 b = none) (nd : (foot H a d).Nodup) (o : Own C.K F H a d) (ap : ∀ (j : Nat) (e : D) (b c : Addr), ρ[j]? = some (some (true, e)) → σ[j]? = some (some (.ref b)) → c ∈ foot H a d → c ∈ foot H b e → False) :
    Rel C (ρ.set i (some (true, d))) (σ.set i (some (.ref a))) F H where
  ext := r.ext
  sub := r.sub
  len := by rw [List.length_set, List.length_set]; exact r.len
  slot := fun j e h => by
    rcases get_set h with ⟨rfl, z⟩ | ⟨n, z⟩
    · cases z
    · obtain ⟨w, z1, z2⟩ := r.slot j e z
      exact ⟨w, by rw [List.getElem?_set_ne n]; exact z1, z2⟩
  ownF := fun j e h => by
    rcases get_set h with ⟨rfl, z⟩ | ⟨nn, z⟩
    · cases z
      refine ⟨a, ?_, n, nd, o⟩
      rw [List.getElem?_set_self]
      rw [r.len]
      have := (List.getElem?_eq_some_iff.mp h).1
      simpa using this
    · obtain ⟨b, z1, z2⟩ := r.ownF j e z
      exact ⟨b, by rw [List.getElem?_set_ne nn]; exact z1, z2⟩
  apartF := fun j k d' e b b' c h1 h2 h3 h4 h5 h6 => by
    rcases get_set h1 with ⟨rfl, z⟩ | ⟨n, z⟩
    · rcases get_set h2 with ⟨rfl, z'⟩ | ⟨n', z'⟩
      · rfl
      · rw [List.getElem?_set_ne n'] at h4
        cases z
        rcases get_set h3 with ⟨_, q⟩ | ⟨q, _⟩
        · cases q
          exact (ap k _ _ c z' h4 h5 h6).elim
        · exact absurd rfl q
    · rcases get_set h2 with ⟨rfl, z'⟩ | ⟨n', z'⟩
      · rw [List.getElem?_set_ne n] at h3
        cases z'
        rcases get_set h4 with ⟨_, q⟩ | ⟨q, _⟩
        · cases q
          exact (ap j _ _ c z h3 h6 h5).elim
        · exact absurd rfl q
      · rw [List.getElem?_set_ne n] at h3
        rw [List.getElem?_set_ne n'] at h4
        exact r.apartF j k _ _ b b' c z z' h3 h4 h5 h6
  wok := r.wok
  lend := fun j d' w h => by
    obtain ⟨z1, z2⟩ := r.lend j d' w h
    exact ⟨by rw [List.getElem?_set_ne (fun e => by subst e; rw [hl] at h; cases h)]; exact z1, z2⟩
theorem Rel.forget (r : Rel C ρ σ F H) (i : Nat) (x : Option V) (hl : C.ln i = none) : Rel C (ρ.set i none) (σ.set i x) F H where
  ext := r.ext
  sub := r.sub
  len := by rw [List.length_set, List.length_set]; exact r.len
  slot := fun j e h => by
    rcases get_set h with ⟨rfl, z⟩ | ⟨n, z⟩
    · cases z
    · obtain ⟨w, z1, z2⟩ := r.slot j e z
      exact ⟨w, by rw [List.getElem?_set_ne n]; exact z1, z2⟩
  ownF := fun j e h => by
    rcases get_set h with ⟨rfl, z⟩ | ⟨n, z⟩
    · cases z
    · obtain ⟨a, z1, z2⟩ := r.ownF j e z
      exact ⟨a, by rw [List.getElem?_set_ne n]; exact z1, z2⟩
  apartF := fun j k d' e a b c h1 h2 h3 h4 h5 h6 => by
    rcases get_set h1 with ⟨rfl, z⟩ | ⟨n, z⟩
    · cases z
    · rcases get_set h2 with ⟨rfl, z'⟩ | ⟨n', z'⟩
      · cases z'
      · rw [List.getElem?_set_ne n] at h3
        rw [List.getElem?_set_ne n'] at h4
        exact r.apartF j k _ _ a b c z z' h3 h4 h5 h6
  wok := r.wok
  lend := fun j d' w h => by
    obtain ⟨z1, z2⟩ := r.lend j d' w h
    exact ⟨by rw [List.getElem?_set_ne (fun e => by subst e; rw [hl] at h; cases h)]; exact z1, z2⟩
theorem Rel.settleP (r : Rel C ρ σ F H) {i : Nat} {d : D} {a : Addr} {bs : List Addr} (e : ρ[i]? = some (some (true, d))) (q : σ[i]? = some (some (.ref a))) (hb : ∀ b ∈ bs, b ∈ foot H a d) (s1 : Same F F') (s2 : Same F' H) (hk : ∀ c o, F' c = some o → F c = some o ∨ c ∈ bs) : Rel C (ρ.set i none) σ F' H where
  ext := ⟨r.ext.f.trans s1, r.ext.h, fun b x h => by
    rcases hk b x h with z | z
    · exact r.ext.n b x z
    · obtain ⟨a', q', n, _, _⟩ := r.ownF i d e
      rw [q] at q'
      cases q'
      exact .inr (n b (hb b z)).2⟩
  sub := s2
  len := by rw [List.length_set]; exact r.len
  slot := fun j e' h => by
    rcases get_set h with ⟨rfl, z⟩ | ⟨nn, z⟩
    · cases z
    · obtain ⟨w, z1, z2⟩ := r.slot j e' z
      exact ⟨w, z1, z2.mono s1⟩
  ownF := fun j e' h => by
    rcases get_set h with ⟨rfl, z⟩ | ⟨nn, z⟩
    · cases z
    · obtain ⟨b, z1, z2, z3, z4⟩ := r.ownF j e' z
      refine ⟨b, z1, fun c hc => ⟨?_, (z2 c hc).2⟩, z3, z4.mono s1 (Same.refl _)⟩
      cases hF : F' c with
      | none => rfl
      | some o =>
        rcases hk c o hF with y | y
        · rw [(z2 c hc).1] at y; cases y
        · exact absurd (r.apartF i j _ _ a b c e z q z1 (hb c y) hc) nn
  apartF := fun j k d' e' b b' c h1 h2 h3 h4 h5 h6 => by
    rcases get_set h1 with ⟨rfl, z⟩ | ⟨n, z⟩
    · cases z
    · rcases get_set h2 with ⟨rfl, z'⟩ | ⟨n', z'⟩
      · cases z'
      · exact r.apartF j k _ _ b b' c z z' h3 h4 h5 h6
  wok := r.wok
  lend := r.lend
theorem Rel.settle1 (r : Rel C ρ σ F H) {i : Nat} {d : D} (e : ρ[i]? = some (some (true, d))) : ∃ F', Same F F' ∧ Rel C (ρ.set i (some (false, d))) σ F' H := by
  obtain ⟨a, q, n, nd, o⟩ := r.ownF i d e
  obtain ⟨F2, s1, s2, rp, hk⟩ := o.settle r.sub (fun b hb => (n b hb).1) nd
  have r2 := r.settleP e q (fun _ h => h) s1 s2 hk
  refine ⟨F2, s1, ⟨r2.ext, r2.sub, by rw [List.length_set]; exact r.len, fun j e' h => ?_, fun j e' h => ?_, fun j k d' e' b b' c h1 h2 h3 h4 h5 h6 => ?_, r.lend, r.wok⟩⟩
  · rcases get_set h with ⟨rfl, z⟩ | ⟨nn, z⟩
    · cases z
      exact ⟨_, q, rp⟩
    · exact r2.slot j e' (by rw [List.getElem?_set_ne nn]; exact z)
  · rcases get_set h with ⟨rfl, z⟩ | ⟨nn, z⟩
    · cases z
    · exact r2.ownF j e' (by rw [List.getElem?_set_ne nn]; exact z)
  · rcases get_set h1 with ⟨rfl, z⟩ | ⟨n1, z⟩
    · cases z
    · rcases get_set h2 with ⟨rfl, z'⟩ | ⟨n2, z'⟩
      · cases z'
      · exact r.apartF j k _ _ b b' c z z' h3 h4 h5 h6
def settle (ρ : En) : List Nat → En
  | [] => ρ
  | i :: is => match ρ[i]? with
    | some (some (true, d)) => settle (ρ.set i (some (false, d))) is
    | _ => settle ρ is
theorem Rel.settle : ∀ (is : List Nat) {ρ : En} {F : Hp}, Rel C ρ σ F H → ∃ F', Same F F' ∧ Rel C (settle ρ is) σ F' H
  | [], _, F, r => ⟨F, Same.refl _, r⟩
  | i :: is, ρ, F, r => by
    unfold DL.settle
    split
    · rename_i d e
      obtain ⟨F', sf, r'⟩ := r.settle1 e
      obtain ⟨F2, sf2, r2⟩ := Rel.settle is r'
      exact ⟨F2, sf.trans sf2, r2⟩
    · exact Rel.settle is r
theorem Rel.writeF (r : Rel C ρ σ F H) {i : Nat} {d d' : D} {a : Addr} (e : ρ[i]? = some (some (true, d))) (q : σ[i]? = some (some (.ref a)))
    (hH : ∀ c, H' c ≠ H c → (c ∈ foot H a d ∨ H c = none) ∧ F c = none ∧ C.H0 c = none) (o' : Own C.K F H' a d') (n' : ∀ b ∈ foot H' a d', F b = none ∧ C.H0 b = none) (nd' : (foot H' a d').Nodup) (hf : ∀ c ∈ foot H' a d', c ∈ foot H a d ∨ ∀ (k : Nat) (e1 : D) (b' : Addr), ρ[k]? = some (some (true, e1)) → σ[k]? = some (some (.ref b')) → c ∉ foot H b' e1) : Rel C (ρ.set i (some (true, d'))) σ F H' := by
  have keep : ∀ (j : Nat) (e' : D) (b c : Addr), i ≠ j → ρ[j]? = some (some (true, e')) → σ[j]? = some (some (.ref b)) → c ∈ foot H b e' → H' c = H c := fun j e' b c hij hj hq hc => by
    by_cases hh : H' c = H c
    · exact hh
    · obtain ⟨h1, _, _⟩ := hH c hh
      rcases h1 with h1 | h1
      · exact absurd (r.apartF i j _ _ a b c e hj q hq h1 hc) hij
      · obtain ⟨b', q', _, _, o⟩ := r.ownF j e' hj
        rw [hq] at q'
        cases q'
        obtain ⟨u, hu⟩ := o.foot c hc
        rw [h1] at hu; cases hu
  have keepf : ∀ (j : Nat) (e' : D) (b : Addr), i ≠ j → ρ[j]? = some (some (true, e')) → σ[j]? = some (some (.ref b)) → foot H' b e' = foot H b e' := fun j e' b hij hj hq => by
    obtain ⟨b', q', _, _, o⟩ := r.ownF j e' hj
    rw [hq] at q'
    cases q'
    exact foot_same o fun c hc => keep j e' b c hij hj hq hc
  refine ⟨⟨r.ext.f, fun b x h => ?_, r.ext.n⟩, fun b x h => ?_, by rw [List.length_set]; exact r.len, fun j e' h => ?_, fun j e' h => ?_, fun j k d1 e1 b b' c h1 h2 h3 h4 h5 h6 => ?_, r.lend, r.wok⟩
  · by_cases hh : H' b = H b
    · rw [hh]; exact r.ext.h b x h
    · rw [(hH b hh).2.2] at h; cases h
  · by_cases hh : H' b = H b
    · rw [hh]; exact r.sub b x h
    · rw [(hH b hh).2.1] at h; cases h
  · rcases get_set h with ⟨rfl, z⟩ | ⟨nn, z⟩
    · cases z
    · exact r.slot j e' z
  · rcases get_set h with ⟨rfl, z⟩ | ⟨nn, z⟩
    · cases z
      exact ⟨a, q, n', nd', o'⟩
    · obtain ⟨b, z1, z2, z3, z4⟩ := r.ownF j e' z
      have ef := keepf j e' b nn z z1
      refine ⟨b, z1, by rw [ef]; exact z2, by rw [ef]; exact z3, z4.at (Same.refl _) fun c hc u hu => ?_⟩
      rw [keep j e' b c nn z z1 hc]; exact hu
  · have cross : ∀ (k : Nat) (e1 : D) (b' c : Addr), i ≠ k → ρ[k]? = some (some (true, e1)) → σ[k]? = some (some (.ref b')) → c ∈ foot H' a d' → c ∈ foot H' b' e1 → False := fun k e1 b' c hik hk hq h5 h6 => by
      rw [keepf k e1 b' hik hk hq] at h6
      rcases hf c h5 with y | y
      · exact hik (r.apartF i k _ _ a b' c e hk q hq y h6)
      · exact y k e1 b' hk hq h6
    rcases get_set h1 with ⟨rfl, z⟩ | ⟨n1, z⟩
    · rcases get_set h2 with ⟨rfl, z'⟩ | ⟨n2, z'⟩
      · rfl
      · cases z
        rw [q] at h3
        cases h3
        exact (cross k e1 b' c n2 z' h4 h5 h6).elim
    · rcases get_set h2 with ⟨rfl, z'⟩ | ⟨n2, z'⟩
      · cases z'
        rw [q] at h4
        cases h4
        exact (cross j d1 b c n1 z h3 h6 h5).elim
      · rw [keepf j d1 b n1 z h3] at h5
        rw [keepf k e1 b' n2 z' h4] at h6
        exact r.apartF j k _ _ b b' c z z' h3 h4 h5 h6
theorem Rel.write (r : Rel C ρ σ F H) {i : Nat} {d d' : D} {a : Addr} {u : HO} (e : ρ[i]? = some (some (true, d))) (q : σ[i]? = some (some (.ref a))) (o' : Own C.K F (upd H a u) a d') (hr : isRows d' = false := by rfl) : Rel C (ρ.set i (some (true, d'))) σ F (upd H a u) := by
  obtain ⟨a', q', n, nd, o⟩ := r.ownF i d e
  rw [q] at q'
  cases q'
  refine r.writeF e q (fun c hc => ?_) o' (fun b hb => ?_) (by rw [foot_one hr]; simp) fun b hb => ?_
  · have : c = a := by
      by_cases z : c = a
      · exact z
      · exact absurd (upd_ne z) hc
    subst this
    exact ⟨.inl foot_head, n c foot_head⟩
  · rw [foot_one hr] at hb
    rw [List.mem_singleton.mp hb]
    exact n a foot_head
  · rw [foot_one hr] at hb
    rw [List.mem_singleton.mp hb]
    exact .inl foot_head
end
def Out (C : Cd) (σ : L2.St) (F H : Hp) (W : Hp → Hp → D → V → Prop) (x : R D) (Q : VK) : Prop := match x with
  | .ok d => ∀ v F' H', Ext F H F' H' → Same F' H' → W F' H' d v → Q v H'
  | .err c => ∀ F' H', Ext F H F' H' → Same F' H' → C.XW c σ H'
  | .bad => False
def OutA (C : Cd) (σ : L2.St) (F H : Hp) (x : R (List D)) (Q : List V → Hp → Prop) : Prop := match x with
  | .ok d => ∀ v F' H', Ext F H F' H' → Same F' H' → Reps C.K F' d v → Q v H'
  | .err c => ∀ F' H', Ext F H F' H' → Same F' H' → C.XW c σ H'
  | .bad => False
def OutT (C : Cd) (σ : L2.St) (F H : Hp) (x : R Bool) (Q : Bool → Hp → Prop) : Prop := match x with
  | .ok d => ∀ F' H', Ext F H F' H' → Same F' H' → Q d H'
  | .err c => ∀ F' H', Ext F H F' H' → Same F' H' → C.XW c σ H'
  | .bad => False
def tR (C : Cd) (f : En → R D) : TE := fun σ H Q => ∃ ρ F, Rel C ρ σ F H ∧ Out C σ F H (fun F' H' => View C.K F' H') (f ρ) Q
def tE (C : Cd) (f : En → R D) : TE := fun σ H Q => ∃ ρ F, Rel C ρ σ F H ∧ Out C σ F H (fun F' H' => Rep C.K F') (f ρ) Q
def tO (C : Cd) (f : En → R D) : TE := fun σ H Q => ∃ ρ F, Rel C ρ σ F H ∧ Out C σ F H (fun F' H' => New C.K H F' H') (f ρ) Q
def tA (C : Cd) (f : En → R (List D)) : TA := fun σ H Q => ∃ ρ F, Rel C ρ σ F H ∧ OutA C σ F H (f ρ) Q
def tT (C : Cd) (f : En → R Bool) : TT := fun σ H Q => ∃ ρ F, Rel C ρ σ F H ∧ OutT C σ F H (f ρ) Q
theorem _root_.L2.PE.mono {X : Cx} {e : Expr} {t t' : TE} (h : PE X e t) (m : ∀ σ H Q, t' σ H Q → t σ H Q) : PE X e t' := ⟨fun pins s σ H Q I q => h.run pins s σ H Q I (m σ H Q q)⟩
theorem _root_.L2.PA.mono {X : Cx} {e : List Expr} {t t' : TA} (h : PA X e t) (m : ∀ σ H Q, t' σ H Q → t σ H Q) : PA X e t' := ⟨fun pos pins s σ H Q I q => h.run pos pins s σ H Q I (m σ H Q q)⟩
theorem _root_.L2.PT.mono {X : Cx} {e : Expr} {t t' : TT} (h : PT X e t) (m : ∀ σ H Q, t' σ H Q → t σ H Q) : PT X e t' := ⟨fun pins s σ H Q I q => h.run pins s σ H Q I (m σ H Q q)⟩
theorem _root_.L2.PW.mono {X : Cx} {e : Expr} {t t' : TT} (h : PW X e t) (m : ∀ σ H Q, t' σ H Q → t σ H Q) : PW X e t' := ⟨fun whole pins s σ H Q I q => h.run whole pins s σ H Q I (m σ H Q q)⟩
theorem _root_.L2.PS.mono {X : Cx} {e : Stmt} {t t' : TS} (h : PS X e t) (m : ∀ D σ H, t' D σ H → t D σ H) : PS X e t' := ⟨fun pins s σ H D I q => h.run pins s σ H D I (m D σ H q)⟩
theorem _root_.L2.PSs.mono {X : Cx} {e : List Stmt} {t t' : TS} (h : PSs X e t) (m : ∀ D σ H, t' D σ H → t D σ H) : PSs X e t' := ⟨fun pins s σ H D I q => h.run pins s σ H D I (m D σ H q)⟩
section
variable {C : Cd} {σ : L2.St} {F H F1 H1 : Hp} {W W' : Hp → Hp → D → V → Prop} {Q Q' : VK} {x : R D}
theorem Out.imp (o : Out C σ F H W x Q) (h : ∀ d v F' H', x = .ok d → Ext F H F' H' → Same F' H' → W' F' H' d v → (∀ v F' H', Ext F H F' H' → Same F' H' → W F' H' d v → Q v H') → Q' v H') : Out C σ F H W' x Q' := by
  cases x with
  | ok d => exact fun v F' H' x s w => h d v F' H' rfl x s w o
  | err c => exact o
  | bad => exact o
theorem Out.fst {k : D → R D} (o : Out C σ F H W (bd x k) Q) (h : ∀ d v F' H', x = .ok d → Out C σ F H W (k d) Q → Ext F H F' H' → Same F' H' → W' F' H' d v → Q' v H') : Out C σ F H W' x Q' := by
  cases x with
  | ok d => exact fun v F' H' x s w => h d v F' H' rfl o x s w
  | err c => exact o
  | bad => exact o
theorem Out.later (o : Out C σ F H W x Q) (e : Ext F H F1 H1) : Out C σ F1 H1 W x Q := by
  cases x with
  | ok d => exact fun v F' H' x s w => o v F' H' (e.trans x) s w
  | err c => exact fun F' H' x s => o F' H' (e.trans x) s
  | bad => exact o
theorem New.later {K : Kx} {d : D} {v : V} (e : Same H H1) (n : New K H1 F1 F d v) : New K H F1 F d v := by
  cases h : isC d with
  | true =>
    obtain ⟨a, rfl, n1, nd, o⟩ := n.own h
    exact .mk (fun b hb => ⟨e.free (n1 b hb).1, (n1 b hb).2⟩) nd o
  | false => exact .of_rep h (n.isRep h)
end
section
variable {X : Cx} {C : Cd} {e a b : Expr} {f g : En → R D}
theorem _root_.L2.PE.or {X : Cx} {e : Expr} {t t' : TE} (h : PE X e t) (h' : PE X e t') : PE X e (fun σ H Q => t σ H Q ∨ t' σ H Q) := ⟨fun pins s σ H Q I q => by
  rcases q with q | q
  · exact h.run pins s σ H Q I q
  · exact h'.run pins s σ H Q I q⟩
theorem r_of_e (h : PE X e (tE C f)) : PE X e (tR C f) := h.mono fun σ H Q ⟨ρ, F, r, q⟩ => ⟨ρ, F, r, q.imp fun d v F' H' _ x s w k => k v F' H' x s (w.view s)⟩
theorem r_of_o (h : PE X e (tO C f)) : PE X e (tR C f) := h.mono fun σ H Q ⟨ρ, F, r, q⟩ => ⟨ρ, F, r, q.imp fun d v F' H' _ x s w k => k v F' H' x s (w.view s)⟩
theorem e_of_o (h : PE X e (tO C f)) : PE X e (tE C f) := h.mono fun σ H Q ⟨ρ, F, r, q⟩ => ⟨ρ, F, r, q.imp fun d v F' H' _ x s w k => by
      obtain ⟨F2, x2, s1, s2, p2⟩ := w.rep s x
      exact k v F2 H' x2 s2 p2⟩
def Op2 (C : Cd) (r : R2) (w : D → D → R D) : Prop :=
  ∀ σ F H Q d e x y, Out C σ F H (fun F' H' => New C.K H F' H') (w d e) Q → Same F H → View C.K F H d x → View C.K F H e y → r x y H Q
theorem two {r : R2} {w : D → D → R D} (hr : Op2 C r w) :
    ∀ σ H Q, tO C (fun ρ => bd (f ρ) fun d => bd (g ρ) fun e => w d e) σ H Q → tR C f σ H fun x H1 => tR C g σ H1 fun y H2 => r x y H2 Q := by
  rintro σ H Q ⟨ρ, F, rl, q⟩
  refine ⟨ρ, F, rl, q.fst fun d v F1 H1 _ q x1 s1 p1 => ?_⟩
  refine ⟨ρ, F1, rl.grow x1 s1, ?_⟩
  refine (q.later x1).fst fun e y F2 H2 _ q x2 s2 p2 => ?_
  refine hr σ F2 H2 Q d e v y ?_ s2 (p1.mono x2.f x2.h) p2
  exact (q.later x2).imp fun d v F' H' _ x s w k => k v F' H' x s (w.later (x1.h.trans x2.h))
theorem d_op {op : Operator} {r : R2} {w : D → D → R D} {pos : Pos} (ho : OpR X (binaryOp op) r) (hr : Op2 C r w) (ha : PE X a (tR C f)) (hb : PE X b (tR C g)) :
    PE X (.BinOp a op b pos) (tO C (fun ρ => bd (f ρ) fun d => bd (g ρ) fun e => w d e)) :=
  (pe_op ho ha hb).mono (two hr)
theorem d_cmp {op : CmpOp} {r : R2} {w : D → D → R D} {pos : Pos} (ho : OpR X (compareOp op) r) (hr : Op2 C r w) (hm : behindInMarks op b = false) (ha : PE X a (tR C f)) (hb : PE X b (tR C g)) :
    PE X (.Compare a [op] [b] pos) (tO C (fun ρ => bd (f ρ) fun d => bd (g ρ) fun e => w d e)) :=
  (pe_cmpR ho ha hb hm).mono (two hr)
end
end DL
namespace DL
open PySem PySem.Spec PyProof.Rows L2
def bop (f g : En → R D) (w : D → D → R D) : En → R D := fun ρ => bd (f ρ) fun d => bd (g ρ) fun e => w d e
def uop (f : En → R D) (w : D → R D) : En → R D := fun ρ => bd (f ρ) w
def nop (f : En → R (List D)) (w : List D → R D) : En → R D := fun ρ => bd (f ρ) w
section
variable {X : Cx} {C : Cd} {e a b c : Expr} {f g k : En → R D} {pos : Pos}
def rd (i : Nat) : En → R D := fun ρ => match ρ[i]? with
  | some (some (_, d)) => .ok d
  | _ => .bad
def rdE (i : Nat) : En → R D := fun ρ => match ρ[i]? with
  | some (some (false, d)) => .ok d
  | some (some (true, d)) => if isC d = true then .bad else .ok d
  | _ => .bad
theorem Rel.noC {ρ : En} {σ : L2.St} {F H : Hp} (r : Rel C ρ σ F H) {i : Nat} {d : D} (h : ρ[i]? = some (some (true, d))) : isC d = true := by
  obtain ⟨_, _, _, _, o⟩ := r.own i d h
  exact o.isC
theorem v_R {i : Nat} (h : PE X e (tVar i)) : PE X e (tR C (rd i)) := h.mono fun σ H Q ⟨ρ, F, r, q⟩ => by
  unfold rd at q
  split at q
  · rename_i bb d h
    obtain ⟨v, hv, w⟩ := r.view h
    exact ⟨v, hv, q v F H (Ext.refl _ _) r.sub w⟩
  · exact q.elim
theorem v_E {i : Nat} (h : PE X e (tVar i)) : PE X e (tE C (rdE i)) := h.mono fun σ H Q ⟨ρ, F, r, q⟩ => by
  unfold rdE at q
  split at q
  · rename_i d h
    obtain ⟨v, hv, w⟩ := r.slot i d h
    exact ⟨v, hv, q v F H (Ext.refl _ _) r.sub w⟩
  · rename_i d h
    rw [if_pos (r.noC h)] at q
    exact q.elim
  · exact q.elim
def flatD : D → Option V
  | .non => some .non
  | .bl b => some (.bl b)
  | .int i => some (.int i)
  | .str x => some (.str x)
  | _ => none
def cst (d : D) : En → R D := fun _ => .ok d
theorem c_of {d : D} {v : V} (h : PE X e (tC v)) (hd : flatD d = some v) : PE X e (tO C (cst d)) := h.mono fun σ H Q ⟨ρ, F, r, q⟩ => by
  refine q v F H (Ext.refl _ _) r.sub ?_
  cases d with
  | non => cases hd; exact .non
  | bl b => cases hd; exact .bl b
  | int b => cases hd; exact .int b
  | str b => cases hd; exact .str b
  | _ => exact nomatch hd
theorem c_int {i : Int} {j : Nat} : PE X (.Constant (.int i) j pos) (tO C (cst (.int i))) := c_of pe_int rfl
theorem c_bl {i : Bool} {j : Nat} : PE X (.Constant (.bool i) j pos) (tO C (cst (.bl i))) := c_of pe_bl rfl
theorem c_non {j : Nat} : PE X (.Constant .none j pos) (tO C (cst .non)) := c_of pe_non rfl
theorem c_str {i : Str} {j : Nat} : PE X (.Constant (.str i) j pos) (tO C (cst (.str i))) := c_of pe_str rfl
theorem c_glob {x : Str} {d : D} {v : V} {u : Value} (hm : X.mg x = some u) (r : RelV v u) (hd : flatD d = some v) (hg : Gl X x := by rfl) (hdb : (x == ("__debug__" : Str)) = false := by decide) : PE X (.Name x pos) (tO C (cst d)) := c_of (pe_glob hg hm r hdb) hd
def aNil : En → R (List D) := fun _ => .ok []
def aCons (f : En → R D) (g : En → R (List D)) : En → R (List D) := fun ρ => bd (f ρ) fun d => bd (g ρ) fun ds => .ok (d :: ds)
theorem a_nil : PA X [] (tA C aNil) := pa_nil.mono fun σ H Q ⟨ρ, F, r, q⟩ => q [] F H (Ext.refl _ _) r.sub .nil
theorem OutA.later {σ : L2.St} {F H F1 H1 : Hp} {x : R (List D)} {Q : List V → Hp → Prop} (o : OutA C σ F H x Q) (e : Ext F H F1 H1) : OutA C σ F1 H1 x Q := by
  cases x with
  | ok d => exact fun v F' H' x s w => o v F' H' (e.trans x) s w
  | err c => exact fun F' H' x s => o F' H' (e.trans x) s
  | bad => exact o
theorem a_cons {es : List Expr} {fs : En → R (List D)} (ha : PE X e (tE C f)) (hr : PA X es (tA C fs)) (hs : starEach (e :: es) X.env = (false, eval e X.env) :: starEach es X.env := by rfl) : PA X (e :: es) (tA C (aCons f fs)) :=
  (pa_cons ha hr hs).mono fun σ H Q ⟨ρ, F, r, q⟩ => by
    refine ⟨ρ, F, r, ?_⟩
    unfold aCons at q
    cases hf : f ρ with
    | bad => rw [hf] at q; exact q
    | err c => rw [hf] at q; exact q
    | ok d =>
      rw [hf] at q
      intro v F1 H1 x1 s1 w1
      refine ⟨ρ, F1, r.grow x1 s1, ?_⟩
      have q := OutA.later q x1
      rw [bd_ok] at q
      cases hg : fs ρ with
      | bad => rw [hg] at q; exact q
      | err c => rw [hg] at q; exact q
      | ok ds =>
        rw [hg] at q
        exact fun vs F2 H2 x2 s2 w2 => q (v :: vs) F2 H2 x2 s2 (.cons (w1.mono x2.f) w2)
theorem out_args {σ : L2.St} {ρ : En} {F H : Hp} {fs : En → R (List D)} {w : List D → R D} {W : Hp → Hp → D → V → Prop} {Q : VK} {Q' : List V → Hp → Prop} (r : Rel C ρ σ F H) (q : Out C σ F H W (bd (fs ρ) w) Q)
    (h : ∀ ds vs F' H', fs ρ = .ok ds → Out C σ F' H' W (w ds) Q → Ext F H F' H' → Same F' H' → Reps C.K F' ds vs → Q' vs H') : tA C fs σ H Q' := by
  refine ⟨ρ, F, r, ?_⟩
  cases hf : fs ρ with
  | bad => rw [hf] at q; exact q
  | err c => rw [hf] at q; exact q
  | ok ds =>
    rw [hf] at q
    exact fun vs F1 H1 x1 s1 w1 => h ds vs F1 H1 hf (Out.later q x1) x1 s1 w1
def small (n : Nat) : Bool := decide (n ≤ sizeLine)
def mkTup (ds : List D) : R D := grd (small ds.length) (.ok (.tup ds))
def mkLst (ds : List D) : R D := grd (small ds.length) (.ok (.lst ds))
theorem grd_out {σ : L2.St} {F H : Hp} {W : Hp → Hp → D → V → Prop} {Q : VK} {c : Bool} {x : R D} (o : Out C σ F H W (grd c x) Q) : c = true ∧ Out C σ F H W x Q := by
  cases c with
  | true => exact ⟨rfl, o⟩
  | false => exact o.elim
theorem Ext.new {F H : Hp} {p : Addr} (s : Same F H) (n : H p = none) (o : HO) : Ext F H (upd F p o) (upd H p o) :=
  ⟨same_upd (s.free n), same_upd n, fun b u h => by
    by_cases hb : b = p
    · subst hb; exact .inr n
    · rw [upd_ne hb] at h; exact .inl h⟩
theorem Ext.newH {F H : Hp} {p : Addr} (n : H p = none) (o : HO) : Ext F H F (upd H p o) := Ext.heap (same_upd n)
theorem fin_tup {σ : L2.St} {F H : Hp} {K' : Hp} {ds : List D} {vs : List V} {Q : VK} {p : Addr} (q : Out C σ F H (fun F' H' => New C.K K' F' H') (.ok (.tup ds)) Q) (s : Same F H) (r : Reps C.K F ds vs) (n : H p = none) : Q (.ref p) (upd H p (.tup vs)) :=
  q (.ref p) (upd F p (.tup vs)) _ (Ext.new s n _) (same_settle (same_upd2 s (s.free n)) upd_same) (.tup upd_same (r.mono (same_upd (s.free n))))
theorem fin_lst {σ : L2.St} {F H : Hp} {K' : Hp} {ds : List D} {vs : List V} {Q : VK} {p : Addr} (q : Out C σ F H (fun F' H' => New C.K K' F' H') (.ok (.lst ds)) Q) (s : Same F H) (k : Same K' H) (r : Reps C.K F ds vs) (n : H p = none) : Q (.ref p) (upd H p (.lst vs)) :=
  q (.ref p) F _ (Ext.newH n _) (same_upd2 s (s.free n)) ⟨p, rfl, k.free n, s.free n, vs, upd_same, r⟩
theorem fin_flat {σ : L2.St} {F H : Hp} {K' : Hp} {d : D} {v : V} {Q : VK} (q : Out C σ F H (fun F' H' => New C.K K' F' H') (.ok d) Q) (s : Same F H) (hd : flatD d = some v) : Q v H := by
  refine q v F H (Ext.refl _ _) s ?_
  cases d with
  | non => cases hd; exact .non
  | bl b => cases hd; exact .bl b
  | int b => cases hd; exact .int b
  | str b => cases hd; exact .str b
  | _ => exact nomatch hd
theorem d_tup {es : List Expr} {fs : En → R (List D)} {x1 : Nat} (ha : PA X es (tA C fs)) : PE X (.Tuple es x1 pos) (tO C (nop fs mkTup)) :=
  (pe_tup ha).mono fun σ H Q ⟨ρ, F, r, q⟩ => by
    refine out_args r q fun ds vs F' H' hd q x s rp => ?_
    obtain ⟨z, q⟩ := grd_out q
    exact ⟨by rw [rp.length]; exact of_decide_eq_true z, fun p hp => fin_tup q s rp hp⟩
theorem d_lst {es : List Expr} {fs : En → R (List D)} (ha : PA X es (tA C fs)) : PE X (.List es pos) (tO C (nop fs mkLst)) :=
  (pe_lst ha).mono fun σ H Q ⟨ρ, F, r, q⟩ => by
    refine out_args r q fun ds vs F' H' hd q x s rp => ?_
    obtain ⟨z, q⟩ := grd_out q
    exact ⟨by rw [rp.length]; exact of_decide_eq_true z, fun p hp => fin_lst q s x.h rp hp⟩
theorem OpR.or {f : Value → Value → Sem Value} {r r' : R2} (h : OpR X f r) (h' : OpR X f r') : OpR X f (fun x y H Q => r x y H Q ∨ r' x y H Q) := by
  intro pins s σ H x y v u Q I rx ry q
  rcases q with q | q
  · exact h pins s σ H x y v u Q I rx ry q
  · exact h' pins s σ H x y v u Q I rx ry q
def dAdd : D → D → R D
  | .int i, .int j => .ok (.int (i + j))
  | .str x, .str y => grd (small (x.length + y.length)) (.ok (.str (x ++ y)))
  | .lst xs, .lst ys => grd (small (xs.length + ys.length)) (.ok (.lst (xs ++ ys)))
  | .tup xs, .tup ys => grd (small (xs.length + ys.length) && !xs.isEmpty && !ys.isEmpty) (.ok (.tup (xs ++ ys)))
  | _, _ => .bad
theorem rAdd_ok : Op2 C (fun x y H Q => rI0 (fun i j => .int (i + j)) x y H Q ∨ (∃ i j, x = .str i ∧ y = .str j ∧ i.length + j.length ≤ sizeLine ∧ Q (.str (i ++ j)) H) ∨ rCat x y H Q ∨ rCatT C.K x y H Q) dAdd := by
  intro σ F H Q d e x y o s w1 w2
  unfold dAdd at o
  split at o
  · cases w1; cases w2
    exact .inl ⟨_, _, rfl, rfl, fin_flat o s rfl⟩
  · cases w1; cases w2
    obtain ⟨z, o⟩ := grd_out o
    exact .inr (.inl ⟨_, _, rfl, rfl, of_decide_eq_true z, fin_flat o s rfl⟩)
  · obtain ⟨z, o⟩ := grd_out o
    obtain ⟨a, vs, rfl, h1, r1⟩ := w1
    obtain ⟨a', vs', rfl, h2, r2⟩ := w2
    exact .inr (.inr (.inl ⟨a, a', vs, vs', rfl, rfl, h1, h2, by rw [r1.length, r2.length]; exact of_decide_eq_true z, fun p hp => fin_lst o s (Same.refl _) (r1.append r2) hp⟩))
  · obtain ⟨z, o⟩ := grd_out o
    obtain ⟨a, vs, rfl, h1, r1⟩ := w1
    obtain ⟨a', vs', rfl, h2, r2⟩ := w2
    rename_i xs ys
    simp only [Bool.and_eq_true, Bool.not_eq_true', List.isEmpty_eq_false_iff] at z
    obtain ⟨⟨z1, z2⟩, z3⟩ := z
    have e1 := r1.length
    have e2 := r2.length
    refine .inr (.inr (.inr ⟨a, a', vs, vs', rfl, rfl, SqT.of h1, SqT.of h2, ?_, by rw [r1.length, r2.length]; exact of_decide_eq_true z1, fun h => ?_, fun _ p hp => fin_tup o s (r1.append r2) hp⟩))
    · rintro rfl
      exact z2 (List.eq_nil_of_length_eq_zero e1.symm)
    · subst h
      exact absurd (List.eq_nil_of_length_eq_zero e2.symm) z3
  · exact o.elim
theorem d_add (hC : X.K = C.K.fr) (ha : PE X a (tR C f)) (hb : PE X b (tR C g)) : PE X (.BinOp a .Add b pos) (tO C (bop f g dAdd)) :=
  d_op (OpR.or op_add (OpR.or op_add_str (OpR.or op_cat (hC ▸ op_catT)))) rAdd_ok ha hb
def dSub : D → D → R D
  | .int i, .int j => .ok (.int (i - j))
  | _, _ => .bad
def dMod : D → D → R D
  | .int i, .int j => grd (decide (0 < j)) (.ok (.int (i % j)))
  | _, _ => .bad
def dDiv : D → D → R D
  | .int i, .int j => grd (decide (0 < j) && decide (j.natAbs.log2 < 9000)) (.ok (.int (i / j)))
  | _, _ => .bad
def dPow : D → D → R D
  | .int i, .int j => grd (decide (0 ≤ j) && decide (j ≤ 1000000) && decide (i.natAbs < 2 ^ 64)) (.ok (.int (i ^ j.toNat)))
  | _, _ => .bad
def dMul : D → D → R D
  | .int i, .int j => grd (decide (i.natAbs.log2 + j.natAbs.log2 < 1000000) || decide (i.natAbs < 2 ^ 64) || decide (j.natAbs < 2 ^ 64)) (.ok (.int (i * j)))
  | .lst xs, .int k => grd (decide (-(2 ^ 63) ≤ k) && decide (k < 2 ^ 63) && small (xs.length * k.toNat)) (.ok (.lst (List.replicate k.toNat xs).flatten))
  | _, _ => .bad
theorem d_sub (ha : PE X a (tR C f)) (hb : PE X b (tR C g)) : PE X (.BinOp a .Sub b pos) (tO C (bop f g dSub)) :=
  d_op op_sub (by
    intro σ F H Q d e x y o s w1 w2
    unfold dSub at o
    split at o
    · cases w1; cases w2; exact ⟨_, _, rfl, rfl, fin_flat o s rfl⟩
    · exact o.elim) ha hb
theorem d_mod (ha : PE X a (tR C f)) (hb : PE X b (tR C g)) : PE X (.BinOp a .Mod b pos) (tO C (bop f g dMod)) :=
  d_op op_mod (by
    intro σ F H Q d e x y o s w1 w2
    unfold dMod at o
    split at o
    · cases w1; cases w2
      obtain ⟨z, o⟩ := grd_out o
      exact ⟨_, _, rfl, rfl, of_decide_eq_true z, fin_flat o s rfl⟩
    · exact o.elim) ha hb
theorem d_div (ha : PE X a (tR C f)) (hb : PE X b (tR C g)) : PE X (.BinOp a .FloorDiv b pos) (tO C (bop f g dDiv)) :=
  d_op op_fdivW (by
    intro σ F H Q d e x y o s w1 w2
    unfold dDiv at o
    split at o
    · cases w1; cases w2
      obtain ⟨z, o⟩ := grd_out o
      rw [Bool.and_eq_true] at z
      exact ⟨_, _, rfl, rfl, ⟨of_decide_eq_true z.1, of_decide_eq_true z.2⟩, fin_flat o s rfl⟩
    · exact o.elim) ha hb
theorem d_pow (ha : PE X a (tR C f)) (hb : PE X b (tR C g)) : PE X (.BinOp a .Pow b pos) (tO C (bop f g dPow)) :=
  d_op op_pow (by
    intro σ F H Q d e x y o s w1 w2
    unfold dPow at o
    split at o
    · cases w1; cases w2
      obtain ⟨z, o⟩ := grd_out o
      rw [Bool.and_eq_true, Bool.and_eq_true] at z
      exact ⟨_, _, rfl, rfl, ⟨of_decide_eq_true z.1.1, of_decide_eq_true z.1.2, of_decide_eq_true z.2⟩, fin_flat o s rfl⟩
    · exact o.elim) ha hb
theorem Reps.flat {K : Kx} {F : Hp} {ds : List D} {vs : List V} (r : Reps K F ds vs) : ∀ n : Nat, Reps K F (List.replicate n ds).flatten (List.replicate n vs).flatten
  | 0 => .nil
  | n + 1 => by
    rw [List.replicate_succ, List.replicate_succ, List.flatten_cons, List.flatten_cons]
    exact r.append (Reps.flat r n)
theorem d_mul (ha : PE X a (tR C f)) (hb : PE X b (tR C g)) : PE X (.BinOp a .Mult b pos) (tO C (bop f g dMul)) :=
  d_op (OpR.or op_mulW (OpR.or op_mul op_rep)) (by
    intro σ F H Q d e x y o s w1 w2
    unfold dMul at o
    split at o
    · cases w1; cases w2
      obtain ⟨z, o⟩ := grd_out o
      rw [Bool.or_eq_true, Bool.or_eq_true] at z
      rcases z with (z | z) | z
      · exact .inl ⟨_, _, rfl, rfl, show _ < _ from of_decide_eq_true z, fin_flat o s rfl⟩
      · have z := of_decide_eq_true z
        exact .inr (.inl ⟨_, _, rfl, rfl, .inl ⟨by omega, by omega⟩, fin_flat o s rfl⟩)
      · have z := of_decide_eq_true z
        exact .inr (.inl ⟨_, _, rfl, rfl, .inr ⟨by omega, by omega⟩, fin_flat o s rfl⟩)
    · obtain ⟨z, o⟩ := grd_out o
      obtain ⟨a, vs, rfl, h1, r1⟩ := w1
      cases w2
      rw [Bool.and_eq_true, Bool.and_eq_true] at z
      exact .inr (.inr ⟨_, _, vs, rfl, rfl, h1, of_decide_eq_true z.1.1, of_decide_eq_true z.1.2, by rw [r1.length]; exact of_decide_eq_true z.2, fun p hp => fin_lst o s (Same.refl _) (r1.flat _) hp⟩)
    · exact o.elim) ha hb
def dNeg : D → R D
  | .int i => .ok (.int (-i))
  | _ => .bad
def Op1 (C : Cd) (r : V → Hp → VK → Prop) (w : D → R D) : Prop :=
  ∀ σ F H Q d x, Out C σ F H (fun F' H' => New C.K H F' H') (w d) Q → Same F H → View C.K F H d x → r x H Q
theorem one {r : V → Hp → VK → Prop} {w : D → R D} (hr : Op1 C r w) : ∀ σ H Q, tO C (fun ρ => bd (f ρ) w) σ H Q → tR C f σ H fun x H1 => r x H1 Q := by
  rintro σ H Q ⟨ρ, F, rl, q⟩
  refine ⟨ρ, F, rl, q.fst fun d v F1 H1 _ q x1 s1 p1 => ?_⟩
  exact hr σ F1 H1 Q d v ((q.later x1).imp fun d v F' H' _ x s w k => k v F' H' x s (w.later x1.h)) s1 p1
theorem d_neg (ha : PE X a (tR C f)) : PE X (.UnaryOp .USub a pos) (tO C (uop f dNeg)) :=
  (pe_un un_neg ha).mono (one (by
    intro σ F H Q d x o s w
    cases d with
    | int i => cases w; exact ⟨i, rfl, fin_flat o s rfl⟩
    | _ => exact o.elim))
mutual
def py : D → Option PyData
  | .non => some .none
  | .bl b => some (.bool b)
  | .int i => some (.int i)
  | .str x => some (.str x)
  | .lst ds => (pys ds).map .list
  | .tup ds => (pys ds).map .tuple
  | .scr ns => some (.list (ns.map .int))
  | .dK _ => none
  | .dT _ => none
  | .ref _ => none
  | .exn _ => none
  | .deep _ => none
  | .obj _ => none
  | .junk _ => none
  | .rows ds => (pys ds).map .list
def pys : List D → Option (List PyData)
  | [] => some []
  | d :: ds => (py d).bind fun p => (pys ds).map fun ps => p :: ps
end
theorem dp_ints {K : Kx} {H : Hp} : ∀ ns : List Int, DpAll K H (ns.map V.int) (ns.map PyData.int)
  | [] => .nil
  | n :: ns => .cons (.int n) (dp_ints ns)
mutual
theorem Rep.dp {K : Kx} {F H : Hp} (s : Same F H) : ∀ {d : D} {v : V} {p : PyData}, Rep K F d v → py d = some p → Dp K H v p
  | _, _, _, .non, e => by cases e; exact .non
  | _, _, _, .bl b, e => by cases e; exact .bl b
  | _, _, _, .int b, e => by cases e; exact .int b
  | _, _, _, .str b, e => by cases e; exact .str b
  | _, _, _, .lst (ds := ds) q r, e => by
    unfold py at e
    cases h : pys ds with
    | none => rw [h] at e; cases e
    | some ps => rw [h] at e; cases e; exact .lst (.inl (.inl (s _ _ q))) (Reps.dp s r h)
  | _, _, _, .tup (ds := ds) q r, e => by
    unfold py at e
    cases h : pys ds with
    | none => rw [h] at e; cases e
    | some ps => rw [h] at e; cases e; exact .tup (SqT.of (s _ _ q)) (Reps.dp s r h)
  | _, _, _, .scr (ns := ns) q, e => by cases e; exact .lst (s.seq q) (dp_ints ns)
  | _, _, _, .dK _ _, e => nomatch e
  | _, _, _, .dT _ _, e => nomatch e
  | _, _, _, .ref _, e => nomatch e
  | _, _, _, .deep _ _, e => nomatch e
  | _, _, _, .obj _, e => nomatch e
  | _, _, _, .rows (ds := ds) q r, e => by
    unfold py at e
    cases h : pys ds with
    | none => rw [h] at e; cases e
    | some ps => rw [h] at e; cases e; exact .lst (.inl (.inl (s _ _ q))) (Reps.dp s r h)
theorem Reps.dp {K : Kx} {F H : Hp} (s : Same F H) : ∀ {ds : List D} {vs : List V} {ps : List PyData}, Reps K F ds vs → pys ds = some ps → DpAll K H vs ps
  | _, _, _, .nil, e => by cases e; exact .nil
  | _, _, _, .cons (d := d) (ds := ds) r t, e => by
    unfold pys at e
    cases h : py d with
    | none => rw [h] at e; cases e
    | some p =>
      rw [h] at e
      cases h2 : pys ds with
      | none => rw [h2] at e; cases e
      | some ps => rw [h2] at e; cases e; exact .cons (Rep.dp s r h) (Reps.dp s t h2)
end
theorem RowsAt.dp {K : Kx} {F H : Hp} (s : Same F H) : ∀ {rs : List D} {vs : List V} {ps : List PyData}, RowsAt K F H rs vs → pys rs = some ps → DpAll K H vs ps
  | _, _, _, .nil, e => by cases e; exact .nil
  | _, _, _, .cons (xs := xs) (rs := rs) q r t, e => by
    unfold pys at e
    cases h : py (.lst xs) with
    | none => rw [h] at e; cases e
    | some p =>
      rw [h] at e
      cases h2 : pys rs with
      | none => rw [h2] at e; cases e
      | some ps =>
        rw [h2] at e; cases e
        refine .cons ?_ (RowsAt.dp s t h2)
        unfold py at h
        cases h3 : pys xs with
        | none => rw [h3] at h; cases h
        | some qs => rw [h3] at h; cases h; exact .lst (.inl (.inl q)) (Reps.dp s r h3)
theorem View.dp {K : Kx} {F H : Hp} (s : Same F H) {d : D} {v : V} {p : PyData} (w : View K F H d v) (e : py d = some p) : Dp K H v p := by
  cases d with
  | non => cases w; cases e; exact .non
  | bl b => cases w; cases e; exact .bl b
  | int b => cases w; cases e; exact .int b
  | str b => cases w; cases e; exact .str b
  | lst ds =>
    obtain ⟨a, vs, rfl, q, r⟩ := w
    unfold py at e
    cases h : pys ds with
    | none => rw [h] at e; cases e
    | some ps => rw [h] at e; cases e; exact .lst (.inl (.inl q)) (Reps.dp s r h)
  | tup ds =>
    obtain ⟨a, vs, rfl, q, r⟩ := w
    unfold py at e
    cases h : pys ds with
    | none => rw [h] at e; cases e
    | some ps => rw [h] at e; cases e; exact .tup (SqT.of q) (Reps.dp s r h)
  | scr ns => obtain ⟨a, rfl, q⟩ := w; cases e; exact .lst q (dp_ints ns)
  | rows ds =>
    obtain ⟨a, vs, rfl, q, r⟩ := w
    unfold py at e
    cases h : pys ds with
    | none => rw [h] at e; cases e
    | some ps =>
      rw [h] at e; cases e
      rcases r with r | r
      · exact .lst (.inl (.inl q)) (Reps.dp s r h)
      · exact .lst (.inl (.inl q)) (RowsAt.dp s r h)
  | _ => exact nomatch e
def deepEq (neg : Bool) (a b : D) : R D := match py a, py b with
  | some p, some q => grd (SeqAt.shaped p && SeqAt.shaped q) (.ok (.bl (if neg then !PyData.eqv p q else PyData.eqv p q)))
  | _, _ => .bad
def xorB (neg b : Bool) : Bool := if neg then !b else b
@[simp] theorem xorB_f (b : Bool) : xorB false b = b := rfl
@[simp] theorem xorB_t (b : Bool) : xorB true b = !b := rfl
def dEq (neg : Bool) : D → D → R D
  | .int i, .int j => .ok (.bl (xorB neg (decide (i = j))))
  | .str i, .str j => .ok (.bl (xorB neg (decide (i = j))))
  | .bl i, .bl j => .ok (.bl (xorB neg (decide (i = j))))
  | .int _, .str _ => .ok (.bl (xorB neg false))
  | .str _, .int _ => .ok (.bl (xorB neg false))
  | .non, .int _ => .ok (.bl (xorB neg false))
  | .int _, .non => .ok (.bl (xorB neg false))
  | .non, .str _ => .ok (.bl (xorB neg false))
  | .str _, .non => .ok (.bl (xorB neg false))
  | a, b => deepEq neg a b
theorem rEq_ok : Op2 C (fun x y H Q => rEq x y H Q ∨ rEqD C.K x y H Q) (dEq false) := by
  intro σ F H Q d e x y o s w1 w2
  unfold dEq at o
  split at o
  · cases w1; cases w2; exact .inl ⟨rfl, by have := fin_flat o s rfl; simpa using this⟩
  · cases w1; cases w2; exact .inl ⟨rfl, by have := fin_flat o s rfl; simpa using this⟩
  · cases w1; cases w2; exact .inl ⟨rfl, by have := fin_flat o s rfl; simpa using this⟩
  · cases w1; cases w2; exact .inl ⟨rfl, by have := fin_flat o s rfl; simpa using this⟩
  · cases w1; cases w2; exact .inl ⟨rfl, by have := fin_flat o s rfl; simpa using this⟩
  · cases w1; cases w2; exact .inl ⟨rfl, by have := fin_flat o s rfl; simpa using this⟩
  · cases w1; cases w2; exact .inl ⟨rfl, by have := fin_flat o s rfl; simpa using this⟩
  · cases w1; cases w2; exact .inl ⟨rfl, by have := fin_flat o s rfl; simpa using this⟩
  · cases w1; cases w2; exact .inl ⟨rfl, by have := fin_flat o s rfl; simpa using this⟩
  · unfold deepEq at o
    split at o
    · rename_i p q hp hq
      obtain ⟨z, o⟩ := grd_out o
      rw [Bool.and_eq_true] at z
      exact .inr ⟨p, q, w1.dp s hp, w2.dp s hq, z.1, z.2, fin_flat o s rfl⟩
    · exact o.elim
theorem rNe_ok : Op2 C (fun x y H Q => rNe x y H Q ∨ rNeD C.K x y H Q) (dEq true) := by
  intro σ F H Q d e x y o s w1 w2
  unfold dEq at o
  split at o
  · cases w1; cases w2; exact .inl ⟨rfl, by have := fin_flat o s rfl; simpa using this⟩
  · cases w1; cases w2; exact .inl ⟨rfl, by have := fin_flat o s rfl; simpa using this⟩
  · cases w1; cases w2; exact .inl ⟨rfl, by have := fin_flat o s rfl; simpa using this⟩
  · cases w1; cases w2; exact .inl ⟨rfl, by have := fin_flat o s rfl; simpa using this⟩
  · cases w1; cases w2; exact .inl ⟨rfl, by have := fin_flat o s rfl; simpa using this⟩
  · cases w1; cases w2; exact .inl ⟨rfl, by have := fin_flat o s rfl; simpa using this⟩
  · cases w1; cases w2; exact .inl ⟨rfl, by have := fin_flat o s rfl; simpa using this⟩
  · cases w1; cases w2; exact .inl ⟨rfl, by have := fin_flat o s rfl; simpa using this⟩
  · cases w1; cases w2; exact .inl ⟨rfl, by have := fin_flat o s rfl; simpa using this⟩
  · unfold deepEq at o
    split at o
    · rename_i p q hp hq
      obtain ⟨z, o⟩ := grd_out o
      rw [Bool.and_eq_true] at z
      exact .inr ⟨p, q, w1.dp s hp, w2.dp s hq, z.1, z.2, fin_flat o s rfl⟩
    · exact o.elim
def dLt : D → D → R D
  | .int i, .int j => .ok (.bl (decide (i < j)))
  | .str i, .str j => .ok (.bl (decide (i.cps.toList < j.cps.toList)))
  | _, _ => .bad
def dLe : D → D → R D
  | .int i, .int j => .ok (.bl (decide (i ≤ j)))
  | .str i, .str j => .ok (.bl (!decide (j.cps.toList < i.cps.toList)))
  | _, _ => .bad
def dGt : D → D → R D
  | .int i, .int j => .ok (.bl (decide (j < i)))
  | .str i, .str j => .ok (.bl (decide (j.cps.toList < i.cps.toList)))
  | _, _ => .bad
def dGe : D → D → R D
  | .int i, .int j => .ok (.bl (decide (j ≤ i)))
  | .str i, .str j => .ok (.bl (!decide (i.cps.toList < j.cps.toList)))
  | _, _ => .bad
theorem rLt_ok : Op2 C (fun x y H Q => rI0 (fun i j => .bl (decide (i < j))) x y H Q ∨ (∃ i j, x = .str i ∧ y = .str j ∧ Q (.bl (decide (i.cps.toList < j.cps.toList))) H)) dLt := by
  intro σ F H Q d e x y o s w1 w2
  unfold dLt at o
  split at o
  · cases w1; cases w2; exact .inl ⟨_, _, rfl, rfl, fin_flat o s rfl⟩
  · cases w1; cases w2; exact .inr ⟨_, _, rfl, rfl, fin_flat o s rfl⟩
  · exact o.elim
theorem rLe_ok : Op2 C (fun x y H Q => rI0 (fun i j => .bl (decide (i ≤ j))) x y H Q ∨ (∃ i j, x = .str i ∧ y = .str j ∧ Q (.bl (!decide (j.cps.toList < i.cps.toList))) H)) dLe := by
  intro σ F H Q d e x y o s w1 w2
  unfold dLe at o
  split at o
  · cases w1; cases w2; exact .inl ⟨_, _, rfl, rfl, fin_flat o s rfl⟩
  · cases w1; cases w2; exact .inr ⟨_, _, rfl, rfl, fin_flat o s rfl⟩
  · exact o.elim
theorem rGt_ok : Op2 C (fun x y H Q => rI0 (fun i j => .bl (decide (j < i))) x y H Q ∨ (∃ i j, x = .str i ∧ y = .str j ∧ Q (.bl (decide (j.cps.toList < i.cps.toList))) H)) dGt := by
  intro σ F H Q d e x y o s w1 w2
  unfold dGt at o
  split at o
  · cases w1; cases w2; exact .inl ⟨_, _, rfl, rfl, fin_flat o s rfl⟩
  · cases w1; cases w2; exact .inr ⟨_, _, rfl, rfl, fin_flat o s rfl⟩
  · exact o.elim
def isN : D → Bool
  | .non => true
  | _ => false
def dIsN (neg : Bool) : D → D → R D
  | d, .non => .ok (.bl (xorB neg (isN d)))
  | .bl a, .bl b => .ok (.bl (xorB neg (decide (a = b))))
  | _, _ => .bad
theorem View.non {K : Kx} {F H : Hp} {d : D} {v : V} (w : View K F H d v) : decide (v = .non) = isN d := by
  cases d with
  | non => cases w; rfl
  | bl b => cases w; rfl
  | int b => cases w; rfl
  | str b => cases w; rfl
  | ref b => cases w; rfl
  | exn c => obtain ⟨a, C, rfl, _⟩ := w; rfl
  | deep d => obtain ⟨a, rfl⟩ := w; rfl
  | obj d => obtain ⟨a, rfl, _⟩ := w; rfl
  | junk n => exact w.elim
  | lst ds => obtain ⟨a, vs, rfl, _⟩ := w; rfl
  | tup ds => obtain ⟨a, vs, rfl, _⟩ := w; rfl
  | dK ds => obtain ⟨a, vs, rfl, _⟩ := w; rfl
  | dT ds => obtain ⟨a, vs, rfl, _⟩ := w; rfl
  | scr ds => obtain ⟨a, rfl, _⟩ := w; rfl
  | rows ds => obtain ⟨a, vs, rfl, _⟩ := w; rfl
def asB : D → R Bool
  | .bl b => .ok b
  | _ => .bad
theorem t_to_o {σ : L2.St} {H : Hp} {Q : Bool → Hp → Prop} (h : tT C (fun ρ => bd (f ρ) asB) σ H Q) : tO C f σ H (fun x H' => ∃ k, x = .bl k ∧ Q k H') := by
  obtain ⟨ρ, F, r, q⟩ := h
  refine ⟨ρ, F, r, ?_⟩
  cases hf : f ρ with
  | bad => simp only [hf, bd_bad] at q; exact q
  | err c => simp only [hf, bd_err] at q; exact q
  | ok d =>
    simp only [hf, bd_ok] at q
    intro v F' H' x s w
    unfold asB at q
    split at q
    · cases w
      exact ⟨_, rfl, q F' H' x s⟩
    · exact q.elim
theorem dt_cmp {op : CmpOp} {r : R2} {w : D → D → R D} (ho : OpR X (compareOp op) r) (hr : Op2 C r w) (hm : behindInMarks op b = false) (ha : PE X a (tR C f)) (hb : PE X b (tR C g)) :
    PT X (.Compare a [op] [b] pos) (tT C (fun ρ => bd (bd (f ρ) fun d => bd (g ρ) fun e => w d e) asB)) :=
  (pt_cmpR ho ha hb hm).mono fun σ H Q h => two hr σ H _ (t_to_o h)
theorem dt_truth (ha : PE X a (tO C f)) (he : ∀ whole, isTrue a X.env whole = (do let v ← whole; standAt a.pos; holding [v] (truthy v)) := by intro _; rfl) : PT X a (tT C (fun ρ => bd (f ρ) asB)) :=
  (pt_val ha he).mono fun σ H Q h => t_to_o h
end
end DL
namespace DL
open PySem PySem.Spec PyProof.Rows L2
section
variable {X : Cx} {C : Cd} {e a b c : Expr} {f g k : En → R D} {pos : Pos} {ft gt : En → R Bool}
theorem OutT.later {σ : L2.St} {F H F1 H1 : Hp} {x : R Bool} {Q : Bool → Hp → Prop} (o : OutT C σ F H x Q) (e : Ext F H F1 H1) : OutT C σ F1 H1 x Q := by
  cases x with
  | ok d => exact fun F' H' x s => o F' H' (e.trans x) s
  | err c => exact fun F' H' x s => o F' H' (e.trans x) s
  | bad => exact o
theorem OutT.fst {α : Type} {σ : L2.St} {F H : Hp} {x : R Bool} {kk : Bool → R Bool} {Q Q' : Bool → Hp → Prop} (o : OutT C σ F H (bd x kk) Q) (h : ∀ d F' H', x = .ok d → OutT C σ F' H' (kk d) Q → Ext F H F' H' → Same F' H' → Q' d H') : OutT C σ F H x Q' := by
  cases x with
  | ok d => exact fun F' H' x s => h d F' H' rfl (OutT.later o x) x s
  | err c => exact o
  | bad => exact o
def bAnd (f g : En → R Bool) : En → R Bool := fun ρ => bd (f ρ) fun c => if c = true then g ρ else .ok false
def bOr (f g : En → R Bool) : En → R Bool := fun ρ => bd (f ρ) fun c => if c = true then .ok true else g ρ
def bNot (f : En → R Bool) : En → R Bool := fun ρ => bd (f ρ) fun c => .ok (!c)
theorem t_not (h : PT X a (tT C ft)) : PT X (.UnaryOp .Not a pos) (tT C (bNot ft)) := (pt_not h).mono fun σ H Q ⟨ρ, F, r, q⟩ =>
  ⟨ρ, F, r, OutT.fst (α := Unit) q fun d F' H' _ o x s => o F' H' (Ext.refl _ _) s⟩
theorem w_and1 (h : PT X a (tT C ft)) : PW X (.BoolOp .And [a] pos) (tT C ft) := pw_and1 h
theorem w_or1 (h : PT X a (tT C ft)) : PW X (.BoolOp .Or [a] pos) (tT C ft) := pw_or1 h
theorem w_and {rest : List Expr} (ha : PT X a (tT C ft)) (hb : PW X (.BoolOp .And (b :: rest) pos) (tT C gt)) : PW X (.BoolOp .And (a :: b :: rest) pos) (tT C (bAnd ft gt)) :=
  (pw_and ha hb).mono fun σ H Q ⟨ρ, F, r, q⟩ => ⟨ρ, F, r, OutT.fst (α := Unit) q fun d F' H' _ o x s => by
    cases d with
    | true => rw [if_pos rfl]; exact ⟨ρ, F', r.grow x s, o⟩
    | false => rw [if_neg Bool.false_ne_true]; exact o F' H' (Ext.refl _ _) s⟩
theorem w_or {rest : List Expr} (ha : PT X a (tT C ft)) (hb : PW X (.BoolOp .Or (b :: rest) pos) (tT C gt)) : PW X (.BoolOp .Or (a :: b :: rest) pos) (tT C (bOr ft gt)) :=
  (pw_or ha hb).mono fun σ H Q ⟨ρ, F, r, q⟩ => ⟨ρ, F, r, OutT.fst (α := Unit) q fun d F' H' _ o x s => by
    cases d with
    | true => rw [if_pos rfl]; exact o F' H' (Ext.refl _ _) s
    | false => rw [if_neg Bool.false_ne_true]; exact ⟨ρ, F', r.grow x s, o⟩⟩
theorem t_w (h : PW X a (tT C ft)) : PT X a (tT C ft) := h.pt
def eAnd (f g : En → R D) : En → R D := fun ρ => bd (f ρ) fun c => match c with | .bl true => g ρ | .bl false => .ok (.bl false) | _ => .bad
def eOr (f g : En → R D) : En → R D := fun ρ => bd (f ρ) fun c => match c with | .bl true => .ok (.bl true) | .bl false => g ρ | _ => .bad
def eNot : D → R D
  | .bl b => .ok (.bl (!b))
  | _ => .bad
theorem Out.newer {σ : L2.St} {H F1 H1 : Hp} {x : R D} {Q : VK} (o : Out C σ F1 H1 (fun F' H' => New C.K H F' H') x Q) (s : Same H H1) : Out C σ F1 H1 (fun F' H' => New C.K H1 F' H') x Q :=
  o.imp fun d v F' H' _ x s' w k => k v F' H' x s' (w.later s)
theorem d_not (ha : PE X a (tO C f)) : PE X (.UnaryOp .Not a pos) (tO C (uop f eNot)) := (pe_not ha).mono fun σ H Q ⟨ρ, F, r, q⟩ => ⟨ρ, F, r, q.fst fun d v F' H' _ o x s w => by
    have o := o.later x
    cases d with
    | bl b => cases w; exact ⟨b, rfl, fin_flat o s rfl⟩
    | _ => exact o.elim⟩
theorem d_and {rest : List Expr} (ha : PE X a (tO C f)) (hb : PE X (.BoolOp .And (b :: rest) pos) (tO C g)) : PE X (.BoolOp .And (a :: b :: rest) pos) (tO C (eAnd f g)) :=
  (pe_and ha hb).mono fun σ H Q ⟨ρ, F, r, q⟩ => ⟨ρ, F, r, q.fst fun d v F' H' _ o x s w => by
    have o := o.later x
    cases d with
    | bl b =>
      cases w
      refine ⟨b, rfl, ?_⟩
      cases b with
      | true => rw [if_pos rfl]; exact ⟨ρ, F', r.grow x s, o.newer x.h⟩
      | false => rw [if_neg Bool.false_ne_true]; exact fin_flat o s rfl
    | _ => exact o.elim⟩
theorem d_one {op : BoolOp} (h : PE X a (tO C f)) : PE X (.BoolOp op [a] pos) (tO C f) := pe_one h
def eIf (t : En → R Bool) (f g : En → R D) : En → R D := fun ρ => bd (t ρ) fun c => if c = true then f ρ else g ρ
def eChain (w w' : D → D → R D) (f g k : En → R D) : En → R D := fun ρ => bd (f ρ) fun x => bd (g ρ) fun y => bd (w x y) fun z => match z with
  | .bl true => bd (k ρ) fun u => w' y u
  | .bl false => .ok (.bl false)
  | _ => .bad
theorem chain_ok {r r' : R2} {w w' : D → D → R D} (hr : Op2 C r w) (hr' : Op2 C r' w') : ∀ σ H Q, tO C (eChain w w' f g k) σ H Q → tChain r r' (tR C f) (tR C g) (tR C k) σ H Q := by
  rintro σ H Q ⟨ρ, F, rl, q⟩
  refine ⟨ρ, F, rl, q.fst fun d v F1 H1 _ q x1 s1 p1 => ?_⟩
  refine ⟨ρ, F1, rl.grow x1 s1, ?_⟩
  refine (q.later x1).fst fun e y F2 H2 _ q x2 s2 p2 => ?_
  have q2 := q.later x2
  have x12 := x1.trans x2
  refine hr σ F2 H2 _ d e v y ?_ s2 (p1.mono x2.f x2.h) p2
  refine q2.fst fun z vz F3 H3 _ q x3 s3 p3 => ?_
  have q3 := q.later x3
  cases z with
  | bl b =>
    cases p3
    refine ⟨b, rfl, ?_⟩
    cases b with
    | true =>
      rw [if_pos rfl]
      refine ⟨ρ, F3, (rl.grow x12 s2).grow x3 s3, ?_⟩
      refine q3.fst fun u vu F4 H4 _ q x4 s4 p4 => ?_
      exact hr' σ F4 H4 Q e u y vu ((q.later x4).newer ((x12.h.trans x3.h).trans x4.h)) s4 (p2.mono (x3.f.trans x4.f) (x3.h.trans x4.h)) p4
    | false => rw [if_neg Bool.false_ne_true]; exact fin_flat q3 s3 rfl
  | _ => exact q3.elim
def dIx : D → D → R D
  | .lst ds, .int i => match atI ds i with | some d => .ok d | none => .bad
  | .tup ds, .int i => match atI ds i with | some d => .ok d | none => .bad
  | .scr ds, .int i => match atI ds i with | some d => .ok (.int d) | none => .bad
  | .str z, .int i => grd (small z.length) (match atI z.cps.toList i with | some c => .ok (.str ⟨#[c]⟩) | none => .bad)
  | _, _ => .bad
theorem Reps.atI {K : Kx} {F : Hp} {ds : List D} {vs : List V} (r : Reps K F ds vs) {i : Int} {d : D} (h : L2.atI ds i = some d) : ∃ v, L2.atI vs i = some v ∧ Rep K F d v := by
  unfold L2.atI at h ⊢
  rw [r.length]
  cases hh : ixN ds.length i with
  | none => rw [hh] at h; cases h
  | some j => rw [hh] at h; exact r.get h
theorem atI_map {α β : Type} (f : α → β) (xs : List α) (i : Int) : L2.atI (xs.map f) i = (L2.atI xs i).map f := by
  unfold L2.atI
  rw [List.length_map]
  cases ixN xs.length i with
  | none => rfl
  | some j => simp
theorem ix_ok {σ : L2.St} {F H : Hp} {Q : VK} {d e : D} {x y : V} (o : Out C σ F H (fun F' H' => Rep C.K F') (dIx d e) Q) (s : Same F H) (w1 : View C.K F H d x) (w2 : View C.K F H e y) : rIx C.K x y H Q := by
  unfold dIx at o
  split at o
  · rename_i ds i
    obtain ⟨p, vs, rfl, h, r⟩ := w1
    cases w2
    split at o
    · rename_i z hz
      obtain ⟨v, h1, h2⟩ := r.atI hz
      exact .inl ⟨p, vs, i, v, rfl, rfl, SqL.of h, h1, o v F H (Ext.refl _ _) s h2⟩
    · exact o.elim
  · rename_i ds i
    obtain ⟨p, vs, rfl, h, r⟩ := w1
    cases w2
    split at o
    · rename_i z hz
      obtain ⟨v, h1, h2⟩ := r.atI hz
      exact .inr (.inl ⟨p, vs, i, v, rfl, rfl, SqT.of h, h1, o v F H (Ext.refl _ _) s h2⟩)
    · exact o.elim
  · rename_i ds i
    obtain ⟨p, rfl, h⟩ := w1
    cases w2
    split at o
    · rename_i z hz
      refine .inl ⟨p, _, i, .int z, rfl, rfl, h, ?_, o _ F H (Ext.refl _ _) s (.int z)⟩
      rw [atI_map, hz]; rfl
    · exact o.elim
  · rename_i z i
    obtain ⟨hz, o⟩ := grd_out o
    cases w1
    cases w2
    split at o
    · rename_i c hc
      exact .inr (.inr ⟨z, i, c, rfl, rfl, of_decide_eq_true hz, hc, o _ F H (Ext.refl _ _) s (.str _)⟩)
    · exact o.elim
  · exact o.elim
def cutD {α : Type} (xs : List α) (lo hi : Option Int) : List α := (xs.drop (HT.sIx xs.length 0 lo)).take (HT.sIx xs.length xs.length hi - HT.sIx xs.length 0 lo)
theorem Reps.cut {K : Kx} {F : Hp} {ds : List D} {vs : List V} (r : Reps K F ds vs) (lo hi : Option Int) : Reps K F (cutD ds lo hi) (cutV vs lo hi) := by
  unfold cutD cutV
  rw [r.length]
  exact (r.drop _).take _
theorem cutD_map {α β : Type} (f : α → β) (xs : List α) (lo hi : Option Int) : cutD (xs.map f) lo hi = (cutD xs lo hi).map f := by
  unfold cutD
  rw [List.length_map, List.map_take, List.map_drop]
def PartOk (C : Cd) (X : Cx) (e : Option Expr) (f : En → R (Option Int)) : Prop := ∃ t : TO, PO X e t ∧ ∀ (σ : L2.St) (ρ : En) (F H : Hp) (W : Hp → Hp → D → V → Prop) (w : Option Int → R D) (Q : VK) (Q' : Option Int → Hp → Prop), Rel C ρ σ F H → Out C σ F H W (bd (f ρ) w) Q →
  (∀ o F' H', f ρ = .ok o → Out C σ F' H' W (w o) Q → Ext F H F' H' → Same F' H' → Q' o H') → t σ H Q'
def asI : D → R (Option Int)
  | .int i => .ok (some i)
  | _ => .bad
theorem part_none : PartOk C X none (fun _ => .ok none) := ⟨tNoPart, po_none, fun σ ρ F H W w Q Q' r o h => h none F H rfl o (Ext.refl _ _) r.sub⟩
theorem part_some (ha : PE X a (tO C f)) : PartOk C X (some a) (fun ρ => bd (f ρ) asI) := ⟨_, po_some ha, fun σ ρ F H W w Q Q' r o h => by
  refine ⟨ρ, F, r, ?_⟩
  cases hf : f ρ with
  | bad => simp only [hf, bd_bad, bd_err] at o; exact o
  | err c => simp only [hf, bd_bad, bd_err] at o; exact o
  | ok d =>
    simp only [hf, bd_ok] at o
    intro v F' H' x s w
    have o := o.later x
    cases d with
    | int i => cases w; exact ⟨i, rfl, h (some i) F' H' (by simp only [hf, bd_ok]; rfl) o x s⟩
    | _ => exact o.elim⟩
def pNone : En → R (Option Int) := fun _ => .ok none
def pSome (f : En → R D) : En → R (Option Int) := fun ρ => bd (f ρ) asI
def dCut : D → Option Int → Option Int → R D
  | .lst ds, lo, hi => .ok (.lst (cutD ds lo hi))
  | .scr ds, lo, hi => .ok (.lst ((cutD ds lo hi).map .int))
  | .tup ds, lo, hi => grd (!(decide (HT.sIx ds.length 0 lo = 0) && decide (HT.sIx ds.length ds.length hi = ds.length))) (.ok (.tup (cutD ds lo hi)))
  | .str z, lo, hi => grd (small z.length) (.ok (.str (cutS z lo hi)))
  | _, _, _ => .bad
def slc (f : En → R D) (fl fh : En → R (Option Int)) : En → R D := fun ρ => bd (f ρ) fun d => bd (fl ρ) fun l => bd (fh ρ) fun h => dCut d l h
theorem p_none : PartOk C X none pNone := part_none
theorem p_some (ha : PE X a (tO C f)) : PartOk C X (some a) (pSome f) := part_some ha
theorem SlR.or {r r' : V → Option Int → Option Int → Hp → VK → Prop} (h : SlR X r) (h' : SlR X r') : SlR X (fun x lo hi H Q => r x lo hi H Q ∨ r' x lo hi H Q) := by
  intro pins s σ H x v vl vu lo hi sl Q I rx hs pl pu q
  rcases q with q | q
  · exact h pins s σ H x v vl vu lo hi sl Q I rx hs pl pu q
  · exact h' pins s σ H x v vl vu lo hi sl Q I rx hs pl pu q
theorem d_slice {lo hi : Option Expr} {fl fh : En → R (Option Int)} {p2 : Pos} (hC : X.K = C.K.fr) (ha : PE X a (tR C f)) (hl : PartOk C X lo fl) (hh : PartOk C X hi fh) :
    PE X (.Subscript a (.Slice lo hi none p2) pos) (tO C (slc f fl fh)) := by
  obtain ⟨tl, pl, hl⟩ := hl
  obtain ⟨th, ph, hh⟩ := hh
  refine (pe_slice (hC ▸ SlR.or sl_list (SlR.or sl_tup sl_str)) ha pl ph).mono ?_
  rintro σ H Q ⟨ρ, F, rl, q⟩
  refine ⟨ρ, F, rl, q.fst fun d v F1 H1 _ q x1 s1 p1 => ?_⟩
  refine hl σ ρ F1 H1 _ _ Q _ (rl.grow x1 s1) (q.later x1) fun l F2 H2 _ q x2 s2 => ?_
  refine hh σ ρ F2 H2 _ _ Q _ ((rl.grow x1 s1).grow x2 s2) q fun h F3 H3 _ q x3 s3 => ?_
  have x13 := (x1.trans x2).trans x3
  have p3 := p1.mono (x2.f.trans x3.f) (x2.h.trans x3.h)
  unfold dCut at q
  split at q
  · obtain ⟨p, vs, rfl, h1, r⟩ := p3
    exact .inl ⟨p, vs, rfl, SqL.of h1, fun z hz => fin_lst q s3 x13.h (r.cut _ _) hz⟩
  · obtain ⟨p, rfl, h1⟩ := p3
    refine .inl ⟨p, _, rfl, h1, fun z hz => fin_lst q s3 x13.h ?_ hz⟩
    rw [show cutV (List.map V.int _) _ _ = _ from cutD_map V.int _ _ _]
    exact Reps.of_ints _
  · obtain ⟨p, vs, rfl, h1, r⟩ := p3
    obtain ⟨z, q⟩ := grd_out q
    refine .inr (.inl ⟨p, vs, rfl, SqT.of h1, fun y => ?_, fun z hz => fin_tup q s3 (r.cut _ _) hz⟩)
    rw [r.length] at y
    rw [decide_eq_true y.1, decide_eq_true y.2] at z
    cases z
  · cases p3
    obtain ⟨z, q⟩ := grd_out q
    exact .inr (.inr ⟨_, rfl, of_decide_eq_true z, fin_flat q s3 rfl⟩)
  · exact q.elim
end
end DL
namespace DL
open PySem PySem.Spec PyProof.Rows L2
section
variable {X : Cx} {C : Cd} {e a b c : Expr} {f g k : En → R D} {pos p : Pos}
abbrev Views (K : Kx) (F H : Hp) : List D → List V → Prop := Paired (View K F H)
theorem Views.mono {K : Kx} {F F' H H' : Hp} (f : Same F F') (h : Same H H') {ds : List D} {vs : List V} (w : Views K F H ds vs) : Views K F' H' ds vs := Paired.mapP w fun _ _ r => r.mono f h
theorem Views.one {K : Kx} {F H : Hp} {d : D} {vs : List V} (w : Views K F H [d] vs) : ∃ v, vs = [v] ∧ View K F H d v := by
  cases w with
  | cons r t => cases t; exact ⟨_, rfl, r⟩
theorem Views.two {K : Kx} {F H : Hp} {d e : D} {vs : List V} (w : Views K F H [d, e] vs) : ∃ v u, vs = [v, u] ∧ View K F H d v ∧ View K F H e u := by
  cases w with
  | cons r t =>
    obtain ⟨u, rfl, q⟩ := Views.one t
    exact ⟨_, u, rfl, r, q⟩
def OutV (C : Cd) (σ : L2.St) (F H : Hp) (x : R (List D)) (Q : List V → Hp → Prop) : Prop := match x with
  | .ok d => ∀ v F' H', Ext F H F' H' → Same F' H' → Views C.K F' H' d v → Q v H'
  | .err c => ∀ F' H', Ext F H F' H' → Same F' H' → C.XW c σ H'
  | .bad => False
def tV (C : Cd) (f : En → R (List D)) : TA := fun σ H Q => ∃ ρ F, Rel C ρ σ F H ∧ OutV C σ F H (f ρ) Q
theorem OutV.later {σ : L2.St} {F H F1 H1 : Hp} {x : R (List D)} {Q : List V → Hp → Prop} (o : OutV C σ F H x Q) (e : Ext F H F1 H1) : OutV C σ F1 H1 x Q := by
  cases x with
  | ok d => exact fun v F' H' x s w => o v F' H' (e.trans x) s w
  | err c => exact fun F' H' x s => o F' H' (e.trans x) s
  | bad => exact o
theorem w_nil : PA X [] (tV C aNil) := pa_nil.mono fun σ H Q ⟨ρ, F, r, q⟩ => q [] F H (Ext.refl _ _) r.sub .nil
theorem w_cons {es : List Expr} {fs : En → R (List D)} (ha : PE X e (tR C f)) (hr : PA X es (tV C fs)) (hs : starEach (e :: es) X.env = (false, eval e X.env) :: starEach es X.env := by rfl) : PA X (e :: es) (tV C (aCons f fs)) :=
  (pa_cons ha hr hs).mono fun σ H Q ⟨ρ, F, r, q⟩ => by
    refine ⟨ρ, F, r, ?_⟩
    unfold aCons at q
    cases hf : f ρ with
    | bad => rw [hf] at q; exact q
    | err c => rw [hf] at q; exact q
    | ok d =>
      rw [hf] at q
      intro v F1 H1 x1 s1 w1
      refine ⟨ρ, F1, r.grow x1 s1, ?_⟩
      have q := OutV.later q x1
      rw [bd_ok] at q
      cases hg : fs ρ with
      | bad => rw [hg] at q; exact q
      | err c => rw [hg] at q; exact q
      | ok ds =>
        rw [hg] at q
        exact fun vs F2 H2 x2 s2 w2 => q (v :: vs) F2 H2 x2 s2 (.cons (w1.mono x2.f x2.h) w2)
def OpL (C : Cd) (r : List V → Hp → VK → Prop) (w : List D → R D) : Prop :=
  ∀ σ F H Q ds vs, Out C σ F H (fun F' H' => New C.K H F' H') (w ds) Q → Same F H → Views C.K F H ds vs → r vs H Q
theorem many {fs : En → R (List D)} {r : List V → Hp → VK → Prop} {w : List D → R D} (hr : OpL C r w) : ∀ σ H Q, tO C (fun ρ => bd (fs ρ) w) σ H Q → tV C fs σ H fun xs H1 => r xs H1 Q := by
  rintro σ H Q ⟨ρ, F, rl, q⟩
  refine ⟨ρ, F, rl, ?_⟩
  cases hf : fs ρ with
  | bad => simp only [hf, bd_bad] at q; exact q
  | err c => simp only [hf, bd_err] at q; exact q
  | ok ds =>
    simp only [hf, bd_ok] at q
    intro v F1 H1 x1 s1 p1
    exact hr σ F1 H1 Q ds v ((Out.later q x1).newer x1.h) s1 p1
theorem d_callB {id : String} {x : Str} {es : List Expr} {fs : En → R (List D)} {r : List V → Hp → VK → Prop} {w : List D → R D} (hc : CallR X (.builtin id) r) (hr : OpL C r w) (hm : X.mg x = none) (hv : bootBuiltins x = some (.builtin id)) (ha : PA X (e :: es) (tV C fs))
    (hg : Gl X x := by rfl) (hn : x ≠ "__name__" := by decide) (hdb : (x == ("__debug__" : Str)) = false := by decide) (he : starEach (e :: es) X.env = (false, eval e X.env) :: starEach es X.env := by rfl) (hpl : (backTo pos (starEach es X.env)).any (·.1) = false := by rfl) :
    PE X (.Call (.Name x p) (e :: es) [] pos) (tO C (nop fs w)) := (pe_callB hc hg hm hv ha hn hdb he hpl).mono (many hr)
theorem d_callTy {T : String} {x : Str} {es : List Expr} {fs : En → R (List D)} {r : List V → Hp → VK → Prop} {w : List D → R D} (hc : CallR X (.type T) r) (hr : OpL C r w) (hm : X.mg x = none) (hv : bootBuiltins x = some (.type T)) (ha : PA X (e :: es) (tV C fs))
    (hg : Gl X x := by rfl) (hn : x ≠ "__name__" := by decide) (hdb : (x == ("__debug__" : Str)) = false := by decide) (he : starEach (e :: es) X.env = (false, eval e X.env) :: starEach es X.env := by rfl) (hpl : (backTo pos (starEach es X.env)).any (·.1) = false := by rfl) :
    PE X (.Call (.Name x p) (e :: es) [] pos) (tO C (nop fs w)) := (pe_callTy hc hg hm hv ha hn hdb he hpl).mono (many hr)
theorem CallR.or {u : Value} {r r' : List V → Hp → VK → Prop} (h : CallR X u r) (h' : CallR X u r') : CallR X u (fun xs H Q => r xs H Q ∨ r' xs H Q) := by
  intro pins s σ H xs us Q I rx q
  rcases q with q | q
  · exact h pins s σ H xs us Q I rx q
  · exact h' pins s σ H xs us Q I rx q
def dLen : List D → R D
  | [.lst ds] => .ok (.int ds.length)
  | [.tup ds] => .ok (.int ds.length)
  | [.scr ds] => .ok (.int ds.length)
  | [.str z] => grd (small z.length) (.ok (.int z.length))
  | [.dK kvs] => .ok (.int kvs.length)
  | [.rows ds] => .ok (.int ds.length)
  | _ => .bad
theorem RepK.length {K : Kx} {F : Hp} : ∀ {ds : List (Key × D)} {vs : List (Key × V)}, RepK K F ds vs → vs.length = ds.length
  | _, _, .nil => rfl
  | _, _, .cons _ t => congrArg (· + 1) (RepK.length t)
theorem len_ok : OpL C (fun xs H Q => (∃ x n, xs = [x] ∧ LenV C.K x H n ∧ Q (.int n) H) ∨ ∃ p kvs, xs = [.ref p] ∧ Rd H p (.dK kvs) ∧ Q (.int (kvs.length : Nat)) H) dLen := by
  intro σ F H Q ds vs o s w
  unfold dLen at o
  split at o
  · obtain ⟨v, rfl, p, vs, rfl, h, r⟩ := w.one
    exact .inl ⟨_, _, rfl, .inl ⟨vs, SqL.of h, r.length.symm⟩, fin_flat o s rfl⟩
  · obtain ⟨v, rfl, p, vs, rfl, h, r⟩ := w.one
    exact .inl ⟨_, _, rfl, .inr ⟨vs, SqT.of h, r.length.symm⟩, fin_flat o s rfl⟩
  · obtain ⟨v, rfl, p, rfl, h⟩ := w.one
    exact .inl ⟨_, _, rfl, .inl ⟨_, h, (List.length_map _).symm⟩, fin_flat o s rfl⟩
  · obtain ⟨z, o⟩ := grd_out o
    obtain ⟨v, rfl, h⟩ := w.one
    cases h
    exact .inl ⟨_, _, rfl, ⟨of_decide_eq_true z, rfl⟩, fin_flat o s rfl⟩
  · obtain ⟨v, rfl, p, vs, rfl, h, r⟩ := w.one
    refine .inr ⟨p, vs, rfl, h, ?_⟩
    rw [r.length]
    exact fin_flat o s rfl
  · obtain ⟨v, rfl, p, vs, rfl, h, r⟩ := w.one
    exact .inl ⟨_, _, rfl, .inl ⟨vs, SqL.of h, by rcases r with r | r <;> exact r.length.symm⟩, fin_flat o s rfl⟩
  · exact o.elim
end
end DL
namespace DL
open PySem PySem.Spec PyProof.Rows L2
inductive Fl where
  | next (ρ : En) | ret (o : Bool) (d : D) | brk (ρ : En) | cont (ρ : En)
def RetP (C : Cd) (F H : Hp) (o : Bool) (d : D) (v : V) : Prop := if o = true then New C.K C.H0 F H d v else Rep C.K F d v
def feet (H : Hp) : List Addr → List D → List Addr
  | a :: as, d :: ds => foot H a d ++ feet H as ds
  | _, _ => []
def OwnAll (K : Kx) (F H H0 : Hp) (as : List Addr) (es : List D) : Prop :=
  as.length = es.length ∧ (feet H as es).Nodup ∧ (∀ b ∈ feet H as es, F b = none ∧ H0 b = none) ∧ ∀ (k : Nat) (a : Addr) (e : D), as[k]? = some a → es[k]? = some e → Own K F H a e
def RetV (C : Cd) (F H : Hp) (o : Bool) (d : D) (v : V) : Prop := match C.io with
  | [] => RetP C F H o d v
  | as => o = false ∧ ∃ d0 es, d = .tup (d0 :: es) ∧ Rep C.K F d0 v ∧ OwnAll C.K F H C.H0 as es
theorem RetV.of {C : Cd} {F H : Hp} {o : Bool} {d : D} {v : V} (h : C.io = []) (w : RetP C F H o d v) : RetV C F H o d v := by
  unfold RetV; rw [h]; exact w
theorem RetV.ofE {C : Cd} {F H : Hp} {d : D} {v : V} (h : C.io = []) (w : Rep C.K F d v) : RetV C F H false d v := .of h (by unfold RetP; rw [if_neg Bool.false_ne_true]; exact w)
theorem RetV.ofO {C : Cd} {F H : Hp} {d : D} {v : V} (h : C.io = []) (w : New C.K C.H0 F H d v) : RetV C F H true d v := .of h (by unfold RetP; rw [if_pos rfl]; exact w)
def Post (C : Cd) (T : Ends) (B : Hp) : R Fl → Prop
  | .ok (.next ρ) => ∀ σ F H, Same B F → Rel C ρ σ F H → T.nx σ H
  | .ok (.brk ρ) => ∀ σ F H, Same B F → Rel C ρ σ F H → T.bk σ H
  | .ok (.cont ρ) => ∀ σ F H, Same B F → Rel C ρ σ F H → T.ct σ H
  | .ok (.ret o d) => ∀ v F H, Ext C.F0 C.H0 F H → Same F H → RetV C F H o d v → T.rt v H
  | .err c => ∀ ρ σ F H, Rel C ρ σ F H → C.XW c σ H
  | .bad => False
theorem Post.up {C : Cd} {T : Ends} {B B' : Hp} {x : R Fl} (q : Post C T B x) (s : Same B B') : Post C T B' x := by
  cases x with
  | bad => exact q
  | err c => exact q
  | ok r =>
    cases r with
    | next ρ => exact fun σ F H z => q σ F H (s.trans z)
    | brk ρ => exact fun σ F H z => q σ F H (s.trans z)
    | cont ρ => exact fun σ F H z => q σ F H (s.trans z)
    | ret o d => exact q
def tS (C : Cd) (g : En → R Fl) : TS := fun T σ H => ∃ ρ F, Rel C ρ σ F H ∧ Post C T F (g ρ)
section
variable {X : Cx} {C : Cd} {e a b c : Expr} {f g k : En → R D} {pos p : Pos} {st : Stmt} {rest : List Stmt} {s1 s2 : En → R Fl}
theorem Rel.err {ρ : En} {σ : L2.St} {F H F' H' : Hp} {T : Ends} {c : Str} {B : Hp} (r : Rel C ρ σ F H) (q : Post C T B (.err c)) (x : Ext F H F' H') (s : Same F' H') : C.XW c σ H' := q ρ σ F' H' (r.grow x s)
theorem out_of {σ : L2.St} {ρ : En} {F H : Hp} {W : Hp → Hp → D → V → Prop} {x : R D} {w : D → R Fl} {T : Ends} {Q : VK} (r : Rel C ρ σ F H) (q : Post C T F (bd x w))
    (h : ∀ d v F' H', x = .ok d → Post C T F' (w d) → Ext F H F' H' → Same F' H' → Rel C ρ σ F' H' → W F' H' d v → Q v H') : Out C σ F H W x Q := by
  cases x with
  | bad => exact q
  | err c => exact fun F' H' x s => r.err q x s
  | ok d => exact fun v F' H' x s w => h d v F' H' rfl (Post.up q x.f) x s (r.grow x s) w
theorem outT_of {σ : L2.St} {ρ : En} {F H : Hp} {x : R Bool} {w : Bool → R Fl} {T : Ends} {Q : Bool → Hp → Prop} (r : Rel C ρ σ F H) (q : Post C T F (bd x w))
    (h : ∀ d F' H', x = .ok d → Post C T F' (w d) → Same F F' → Rel C ρ σ F' H' → Q d H') : OutT C σ F H x Q := by
  cases x with
  | bad => exact q
  | err c => exact fun F' H' x s => r.err q x s
  | ok d => exact fun F' H' x s => h d F' H' rfl (Post.up q x.f) x.f (r.grow x s)
def sSkip : En → R Fl := fun ρ => .ok (.next ρ)
def sSeq (s t : En → R Fl) : En → R Fl := fun ρ => bd (s ρ) fun r => match r with
  | .next ρ' => t ρ'
  | r => .ok r
theorem ss_nil : PSs X [] (tS C sSkip) := pss_nil.mono fun T σ H ⟨ρ, F, r, q⟩ => q σ F H (Same.refl _) r
theorem post_seq {T : Ends} {B : Hp} {x : R Fl} {t : En → R Fl} (q : Post C T B (bd x fun r => match r with | .next ρ' => t ρ' | r => .ok r)) : Post C { T with nx := tS C t T } B x := by
  cases x with
  | bad => exact q
  | err c => exact q
  | ok r =>
    cases r with
    | next ρ => exact fun σ F H s r => ⟨ρ, F, r, Post.up q s⟩
    | ret o d => exact q
    | brk ρ => exact q
    | cont ρ => exact q
theorem ss_cons (h1 : PS X st (tS C s1)) (h2 : PSs X rest (tS C s2)) : PSs X (st :: rest) (tS C (sSeq s1 s2)) := (pss_cons h1 h2).mono fun T σ H ⟨ρ, F, r, q⟩ => ⟨ρ, F, r, post_seq q⟩
theorem ss_one (h1 : PS X st (tS C s1)) : PSs X [st] (tS C s1) := pss_one h1
def sStl (is : List Nat) (s : En → R Fl) : En → R Fl := fun ρ => s (settle ρ is)
theorem s_settle (is : List Nat) (h : PS X st (tS C s1)) : PS X st (tS C (sStl is s1)) := h.mono fun T σ H ⟨ρ, F, r, q⟩ => by
  obtain ⟨F', sf, r'⟩ := r.settle is
  exact ⟨_, F', r', Post.up q sf⟩
def sBrk : En → R Fl := fun ρ => .ok (.brk ρ)
def sCont : En → R Fl := fun ρ => .ok (.cont ρ)
def sIf (t : En → R Bool) (s1 s2 : En → R Fl) : En → R Fl := fun ρ => bd (t ρ) fun c => if c = true then s1 ρ else s2 ρ
theorem s_if {t : En → R Bool} {bs cs : List Stmt} (hc : PT X c (tT C t)) (ha : PSs X bs (tS C s1)) (hb : PSs X cs (tS C s2)) : PS X (.If c bs cs pos) (tS C (sIf t s1 s2)) :=
  (ps_if hc ha hb).mono fun T σ H ⟨ρ, F, r, q⟩ => ⟨ρ, F, r, outT_of r q fun d F' H' _ q _ r => by
    cases d with
    | true => rw [if_pos rfl] at q ⊢; exact ⟨ρ, F', r, q⟩
    | false => rw [if_neg Bool.false_ne_true] at q ⊢; exact ⟨ρ, F', r, q⟩⟩
def sRet (f : En → R D) : En → R Fl := fun ρ => bd (f ρ) fun d => .ok (.ret false d)
def sRetO (f : En → R D) : En → R Fl := fun ρ => bd (f ρ) fun d => .ok (.ret true d)
theorem Rel.new {ρ : En} {σ : L2.St} {F H : Hp} {H1 F' H' : Hp} {d : D} {v : V} (r : Rel C ρ σ F H) (s : Same H H1) (w : New C.K H F' H' d v) : New C.K C.H0 F' H' d v := w.later r.ext.h
theorem s_ret (he : PE X e (tE C f)) (hio : C.io = [] := by rfl) : PS X (.Return (some e) pos) (tS C (sRet f)) := (ps_ret he).mono fun T σ H ⟨ρ, F, r, q⟩ => ⟨ρ, F, r, out_of r q fun d v F' H' _ q x s r w => q v F' H' r.ext s (.ofE hio w)⟩
theorem s_retO (he : PE X e (tO C f)) (hio : C.io = [] := by rfl) : PS X (.Return (some e) pos) (tS C (sRetO f)) := (ps_ret he).mono fun T σ H ⟨ρ, F, r, q⟩ => ⟨ρ, F, r, out_of r q fun d v F' H' _ q x s r' w => q v F' H' r'.ext s (.ofO hio (w.later r.ext.h))⟩
def rdO (i : Nat) : En → R D := fun ρ => match ρ[i]? with
  | some (some (true, d)) => .ok d
  | some (some (false, d)) => if isC d = true then .bad else .ok d
  | _ => .bad
theorem s_retN {i : Nat} (he : PE X e (tVar i)) (hio : C.io = [] := by rfl) : PS X (.Return (some e) pos) (tS C (sRetO (rdO i))) := (ps_ret he).mono fun T σ H ⟨ρ, F, r, q⟩ => by
  unfold sRetO rdO at q
  split at q
  · rename_i d h
    obtain ⟨v, hv, n, nd, o⟩ := r.ownF i d h
    refine ⟨_, hv, q _ F H r.ext r.sub ?_⟩
    refine .ofO hio ?_
    exact .mk (fun b hb => ⟨(n b hb).2, (n b hb).1⟩) nd o
  · rename_i d h
    obtain ⟨v, hv, w⟩ := r.slot i d h
    split at q
    · exact q.elim
    · rename_i hd
      refine ⟨_, hv, q _ F H r.ext r.sub ?_⟩
      refine .ofO hio ?_
      exact New.of_rep (by simpa using hd) w
  · exact q.elim
def sRetNone : En → R Fl := fun _ => .ok (.ret false .non)
def stE (i : Nat) (d : D) (ρ : En) : R Fl := .ok (.next (ρ.set i (some (false, d))))
def stO (i : Nat) (d : D) (ρ : En) : R Fl := .ok (.next (ρ.set i (some (isC d, d))))
def sSet (i : Nat) (f : En → R D) : En → R Fl := fun ρ => bd (f ρ) fun d => stE i d ρ
def sSetO (i : Nat) (f : En → R D) : En → R Fl := fun ρ => bd (f ρ) fun d => stO i d ρ
theorem Rel.setN {ρ : En} {σ : L2.St} {F H H1 : Hp} {i : Nat} {d : D} {v : V} (r : Rel C ρ σ F H) (h1 : ∀ (j : Nat) (e : D) (b c : Addr), ρ[j]? = some (some (true, e)) → σ[j]? = some (some (V.ref b)) → c ∈ foot H b e → ∃ u, H1 c = some u) (h0 : ∀ a, H1 a = none → C.H0 a = none) (w : New C.K H1 F H d v) (hl : C.ln i = none) :
    Rel C (ρ.set i (some (isC d, d))) (σ.set i (some v)) F H := by
  cases hc : isC d with
  | true =>
    obtain ⟨a, rfl, n, nd, o⟩ := w.own hc
    exact r.setO hl (fun b hb => ⟨(n b hb).2, h0 b (n b hb).1⟩) nd o fun j e b c hj hs h5 h6 => by
      obtain ⟨u, hu⟩ := h1 j e b c hj hs h6
      rw [(n c h5).1] at hu
      cases hu
  | false => exact r.set (w.isRep hc) hl
theorem Rel.old {ρ : En} {σ : L2.St} {F H H' : Hp} (r : Rel C ρ σ F H) (s : Same H H') : ∀ (j : Nat) (e : D) (b c : Addr), ρ[j]? = some (some (true, e)) → σ[j]? = some (some (V.ref b)) → c ∈ foot H' b e → ∃ u, H c = some u := fun j e b c hj hs hc => by
  obtain ⟨a', q, _, _, o⟩ := r.ownF j e hj
  rw [hs] at q
  cases q
  rw [foot_grow s o] at hc
  exact o.foot c hc
theorem s_set {i : Nat} {x : Str} {pos' : Pos} (he : PE X e (tE C f)) (hN : X.N.Nodup) (hi : X.N[i]? = some x := by rfl) (hx : Loc X.env.scope x := by first | exact .inl rfl | exact .inr rfl) (hs : swapsWith e (some (.Name x pos')) pos.line X.env = pure false := by rfl)
    (hf : X.fn x = true ∨ X.env.scope.names.lookup x = some .local := by first | exact .inl rfl | exact .inr rfl | assumption) (hl : C.ln i = none := by rfl) : PS X (.Assign [.Name x pos'] e pos) (tS C (sSet i f)) :=
  (ps_set hN hi hx he hs hf).mono fun T σ H ⟨ρ, F, r, q⟩ => ⟨ρ, F, r, out_of r q fun d v F' H' _ q x s r w => q _ F' H' (Same.refl _) (r.set w hl)⟩
theorem s_setO {i : Nat} {x : Str} {pos' : Pos} (he : PE X e (tO C f)) (hN : X.N.Nodup) (hi : X.N[i]? = some x := by rfl) (hx : Loc X.env.scope x := by first | exact .inl rfl | exact .inr rfl) (hs : swapsWith e (some (.Name x pos')) pos.line X.env = pure false := by rfl)
    (hf : X.fn x = true ∨ X.env.scope.names.lookup x = some .local := by first | exact .inl rfl | exact .inr rfl | assumption) (hl : C.ln i = none := by rfl) : PS X (.Assign [.Name x pos'] e pos) (tS C (sSetO i f)) :=
  (ps_set hN hi hx he hs hf).mono fun T σ H ⟨ρ, F, r, q⟩ => ⟨ρ, F, r, out_of r q fun d v F' H' _ q x s r' w => q _ F' H' (Same.refl _) (r'.setN (r.old x.h) (fun a h => r.ext.h.free h) w hl)⟩
theorem wipe_set {i : Nat} {x : Option V} : ∀ {σ : L2.St} {own : List Nat}, i ∈ own → wipe (σ.set i x) own = wipe σ own
  | σ, v :: own, h => by
    unfold wipe
    by_cases e : i = v
    · subst e
      by_cases h2 : i ∈ own
      · rw [wipe_set h2]
      · have aux : ∀ (own : List Nat) (σ : L2.St), i ∉ own → wipe (σ.set i x) own = (wipe σ own).set i x := by
          intro own
          induction own with
          | nil => intro σ _; rfl
          | cons w own ih =>
            intro σ hn
            unfold wipe
            rw [ih σ fun z => hn (List.mem_cons_of_mem _ z), List.set_comm _ _ (fun z => hn (by rw [z]; exact List.mem_cons_self))]
        rw [aux own σ h2, List.set_set]
    · have h2 : i ∈ own := by
        rcases List.mem_cons.mp h with z | z
        · exact absurd z e
        · exact z
      rw [wipe_set h2]
theorem wipe_wipe : ∀ (own more : List Nat) (σ : L2.St), (∀ i ∈ more, i ∈ own) → wipe (wipe σ more) own = wipe σ own
  | own, [], σ, _ => rfl
  | own, i :: more, σ, h => by
    show wipe ((wipe σ more).set i none) own = _
    rw [wipe_set (h i List.mem_cons_self), wipe_wipe own more σ fun j hj => h j (List.mem_cons_of_mem _ hj)]
def tG (C : Cd) (vs : List Nat) (g : D → En → Option En) : TG := fun v σ H Q => ∃ ρ F d, Rel C ρ σ F H ∧ Rep C.K F d v ∧ match g d ρ with
  | some ρ' => ∀ σ', wipe σ' vs = wipe σ vs → Rel C ρ' σ' F H → Q σ' H
  | none => False
def tGs (C : Cd) (vs : List Nat) (g : List D → En → Option En) : TGs := fun ws σ H Q => ∃ ρ F ds, Rel C ρ σ F H ∧ Reps C.K F ds ws ∧ match g ds ρ with
  | some ρ' => ∀ σ', wipe σ' vs = wipe σ vs → Rel C ρ' σ' F H → Q σ' H
  | none => False
theorem _root_.L2.PG.mono {X : Cx} {e : Expr} {t t' : TG} (h : PG X e t) (m : ∀ v σ H Q, t' v σ H Q → t v σ H Q) : PG X e t' := ⟨fun pins s σ H v u Q I r q => h.run pins s σ H v u Q I r (m v σ H Q q)⟩
theorem _root_.L2.PGs.mono {X : Cx} {e : List Expr} {t t' : TGs} (h : PGs X e t) (m : ∀ v σ H Q, t' v σ H Q → t v σ H Q) : PGs X e t' := ⟨fun pins s σ H v u Q I r q => h.run pins s σ H v u Q I r (m v σ H Q q)⟩
def gSet (i : Nat) : D → En → Option En := fun d ρ => some (ρ.set i (some (false, d)))
theorem g_name {i : Nat} {x : Str} {own : List Nat} (hN : X.N.Nodup) (hi : X.N[i]? = some x := by rfl) (ho : i ∈ own := by decide) (hx : Loc X.env.scope x := by first | exact .inl rfl | exact .inr rfl) (hf : X.fn x = true ∨ X.env.scope.names.lookup x = some .local := by first | exact .inl rfl | exact .inr rfl | assumption) (hl : C.ln i = none := by rfl) :
    PG X (.Name x pos) (tG C own (gSet i)) := (pg_name hN hi hx hf).mono fun v σ H Q ⟨ρ, F, d, r, w, q⟩ => q _ (wipe_set ho) (r.set w hl)
def gsNil : List D → En → Option En := fun ds ρ => match ds with | [] => some ρ | _ => none
def gsCons (g : D → En → Option En) (gs : List D → En → Option En) : List D → En → Option En := fun ds ρ => match ds with | d :: ds => (g d ρ).bind (gs ds) | [] => none
theorem gs_nil {own : List Nat} : PGs X [] (tGs C own gsNil) := pgs_nil.mono fun v σ H Q ⟨ρ, F, ds, r, w, q⟩ => by
  cases ds with
  | nil => cases w; exact ⟨rfl, q σ rfl r⟩
  | cons d ds => exact q.elim
theorem gs_cons {own : List Nat} {es : List Expr} {gg : D → En → Option En} {gs : List D → En → Option En} (h1 : PG X e (tG C own gg)) (h2 : PGs X es (tGs C own gs)) (hs : (assignEach (e :: es) X.env).map (·.2) = assign e X.env :: (assignEach es X.env).map (·.2) := by rfl) :
    PGs X (e :: es) (tGs C own (gsCons gg gs)) := (pgs_cons h1 h2 hs).mono fun v σ H Q ⟨ρ, F, ds, r, w, q⟩ => by
  cases w with
  | nil => exact q.elim
  | @cons d v ds vs w ws =>
    refine ⟨v, vs, rfl, ρ, F, d, r, w, ?_⟩
    have q' : match (gg d ρ).bind (gs ds) with | some ρ' => ∀ σ', wipe σ' own = wipe σ own → Rel C ρ' σ' F H → Q σ' H | none => False := q
    cases hg : gg d ρ with
    | none => rw [hg] at q'; exact q'
    | some ρ1 =>
      rw [hg] at q'
      refine fun σ1 e1 r1 => ⟨ρ1, F, ds, r1, ws, ?_⟩
      have q2 : match gs ds ρ1 with | some ρ' => ∀ σ', wipe σ' own = wipe σ own → Rel C ρ' σ' F H → Q σ' H | none => False := q'
      cases hh : gs ds ρ1 with
      | none => rw [hh] at q2; exact q2
      | some ρ2 => rw [hh] at q2; exact fun σ2 e2 r2 => q2 σ2 (e2.trans e1) r2
def gTupD (n : Nat) (gs : List D → En → Option En) : D → En → Option En := fun d ρ => match d with
  | .tup ds => if ds.length = n then gs ds ρ else none
  | _ => none
theorem g_tup {own : List Nat} {es : List Expr} {kk n : Nat} {gs : List D → En → Option En} (hc : X.calm = true) (h : PGs X es (tGs C own gs)) (hn : (assignEach es X.env).length = n := by rfl) (hst : (assignEach es X.env).findIdx? (·.1) = none := by rfl) :
    PG X (.Tuple es kk pos) (tG C own (gTupD n gs)) := (pg_tup hc h hn hst).mono fun v σ H Q ⟨ρ, F, d, r, w, q⟩ => by
  unfold gTupD at q
  cases w with
  | @tup a vs ds ha ws =>
    by_cases hd : ds.length = n
    · simp only [hd, if_true] at q
      exact ⟨a, vs, rfl, SqT.of (r.sub _ _ ha), by rw [ws.length]; exact hd, ρ, F, ds, r, ws, q⟩
    · simp only [hd, if_false] at q
  | _ => exact q.elim
def gLstD (n : Nat) (gs : List D → En → Option En) : D → En → Option En := fun d ρ => match d with
  | .lst ds => if ds.length = n then gs ds ρ else none
  | _ => none
theorem g_lst {own : List Nat} {es : List Expr} {kk n : Nat} {gs : List D → En → Option En} (hc : X.calm = true) (h : PGs X es (tGs C own gs)) (hn : (assignEach es X.env).length = n := by rfl) (hst : (assignEach es X.env).findIdx? (·.1) = none := by rfl) :
    PG X (.Tuple es kk pos) (tG C own (gLstD n gs)) := (pg_unl hc h hn hst).mono fun v σ H Q ⟨ρ, F, d, r, w, q⟩ => by
  unfold gLstD at q
  cases w with
  | @lst a vs ds ha ws =>
    by_cases hd : ds.length = n
    · simp only [hd, if_true] at q
      exact ⟨a, vs, rfl, SqL.of (r.sub _ _ ha), by rw [ws.length]; exact hd, ρ, F, ds, r, ws, q⟩
    · simp only [hd, if_false] at q
  | _ => exact q.elim
def sUnp (f : En → R D) (g : D → En → Option En) : En → R Fl := fun ρ => bd (f ρ) fun d => match g d ρ with
  | some ρ' => .ok (.next ρ')
  | none => .bad
theorem s_unp {gg : D → En → Option En} (he : PE X e (tE C f)) {own : List Nat} (hg : PG X a (tG C own gg)) (hs : swapsWithSole [a] e pos.line X.env = pure false := by rfl) (hw : swappedStores [a] e X.env = pure none := by rfl)
    (h1 : (assignEach [a] X.env).map (·.2) = [assign a X.env] := by rfl) : PS X (.Assign [a] e pos) (tS C (sUnp f gg)) :=
  (ps_asg he hg hs hw h1).mono fun T σ H ⟨ρ, F, r, q⟩ => ⟨ρ, F, r, out_of r q fun d v F' H' _ q x s r w => by
    refine ⟨ρ, F', d, r, w, ?_⟩
    cases hg : gg d ρ with
    | none => rw [hg] at q; exact q.elim
    | some ρ1 => rw [hg] at q; exact fun σ1 _ r1 => q σ1 F' H' (Same.refl _) r1⟩
end
end DL
namespace DL
open PySem PySem.Spec PyProof.Rows L2
def IterOk (K : Kx) (J : It) (B F : Hp) (ds : List D) : Prop := ∀ i F2 H2, Same B H2 → Same F F2 → Same F2 H2 →
  (i < ds.length → J.go i H2 ∧ ∀ x H3, J.yld i H2 x H3 → ∃ F3 d, ds[i]? = some d ∧ Ext F2 H2 F3 H3 ∧ Same F3 H3 ∧ Rep K F3 d x) ∧ (i = ds.length → J.stop i H2)
theorem IterOk.base {K : Kx} {J : It} {B B' F : Hp} {ds : List D} (h : IterOk K J B F ds) (s : Same B B') : IterOk K J B' F ds := fun i F2 H2 b => h i F2 H2 (s.trans b)
def jn (A B : Hp) : Hp := fun a => match A a with
  | some o => some o
  | none => B a
theorem jn_l {A B : Hp} : Same A (jn A B) := fun a o h => by unfold jn; rw [h]
theorem jn_in {A B H : Hp} (h1 : Same A H) (h2 : Same B H) : Same (jn A B) H := fun a o h => by
  unfold jn at h
  cases e : A a with
  | none => rw [e] at h; exact h2 _ _ h
  | some u => rw [e] at h; cases h; exact h1 _ _ e
def OutI (C : Cd) (st : Bool) (σ : L2.St) (F H : Hp) (x : R (List D)) (Q : It → Hp → Prop) : Prop := match x with
  | .ok ds => ∀ J F' H', Ext F H F' H' → Same F' H' → IterOk C.K J (if st = true then jn F' C.H0 else H') F' ds → Q J H'
  | .err c => ∀ F' H', Ext F H F' H' → Same F' H' → C.XW c σ H'
  | .bad => False
def tI (C : Cd) (st : Bool) (f : En → R (List D)) : TI := fun σ H Q => ∃ ρ F, Rel C ρ σ F H ∧ OutI C st σ F H (f ρ) Q
theorem _root_.L2.PI.mono {X : Cx} {tg e : Expr} {t t' : TI} (h : PI X tg e t) (m : ∀ σ H Q, t' σ H Q → t σ H Q) : PI X tg e t' := ⟨fun pins s σ H Q I q => h.run pins s σ H Q I (m σ H Q q)⟩
theorem _root_.L2.PI.or {X : Cx} {tg e : Expr} {t t' : TI} (h : PI X tg e t) (h' : PI X tg e t') : PI X tg e (fun σ H Q => t σ H Q ∨ t' σ H Q) := ⟨fun pins s σ H Q I q => by
  rcases q with q | q
  · exact h.run pins s σ H Q I q
  · exact h'.run pins s σ H Q I q⟩
section
variable {X : Cx} {C : Cd} {e a b c tg : Expr} {f g k : En → R D} {pos p : Pos} {st : Stmt} {rest : List Stmt} {s1 s2 : En → R Fl} {K : Kx}
theorem OutI.later {st : Bool} {σ : L2.St} {F H F1 H1 : Hp} {x : R (List D)} {Q : It → Hp → Prop} (o : OutI C st σ F H x Q) (e : Ext F H F1 H1) : OutI C st σ F1 H1 x Q := by
  cases x with
  | ok d => exact fun J F' H' x s w => o J F' H' (e.trans x) s w
  | err c => exact fun F' H' x s => o F' H' (e.trans x) s
  | bad => exact o
theorem iter_list {B F : Hp} {l : Addr} {vs : List V} {ds : List D} (h : SqL K B l vs) (r : Reps K F ds vs) : IterOk K (Itl K l) B F ds := fun i F2 H2 b f s => by
  have q := b.seq h
  refine ⟨fun hi => ?_, fun hi => ⟨vs, q, by rw [r.length]; omega⟩⟩
  obtain ⟨v, hv, w⟩ := r.get (List.getElem?_eq_getElem hi)
  refine ⟨⟨vs, v, q, hv⟩, fun x H3 y => ?_⟩
  obtain ⟨rfl, y⟩ := y
  have e := (y vs q).symm.trans hv
  cases e
  exact ⟨F2, _, List.getElem?_eq_getElem hi, Ext.refl _ _, s, w.mono f⟩
theorem iter_tup {B F : Hp} {l : Addr} {vs : List V} {ds : List D} (h : SqT K B l vs) (r : Reps K F ds vs) : IterOk K (Itt K l) B F ds := fun i F2 H2 b f s => by
  have q := Same.seqT b h
  refine ⟨fun hi => ?_, fun hi => ⟨vs, q, by rw [r.length]; omega⟩⟩
  obtain ⟨v, hv, w⟩ := r.get (List.getElem?_eq_getElem hi)
  refine ⟨⟨vs, v, q, hv⟩, fun x H3 y => ?_⟩
  obtain ⟨rfl, y⟩ := y
  have e := (y vs q).symm.trans hv
  cases e
  exact ⟨F2, _, List.getElem?_eq_getElem hi, Ext.refl _ _, s, w.mono f⟩
theorem iter_range {B F : Hp} {lo : Int} {n : Nat} : IterOk K (Itr lo n) B F ((List.range n).map fun i => D.int (lo + (i : Nat))) := fun i F2 H2 b f s => by
  refine ⟨fun hi => ?_, fun hi => ?_⟩
  · rw [List.length_map, List.length_range] at hi
    refine ⟨hi, fun x H3 y => ?_⟩
    obtain ⟨rfl, rfl⟩ := y
    refine ⟨F2, .int (lo + i), ?_, Ext.refl _ _, s, .int _⟩
    rw [List.getElem?_map, List.getElem?_range hi]
    rfl
  · rw [List.length_map, List.length_range] at hi
    exact Nat.le_of_eq hi.symm
def signs (z : Str) : List D := z.cps.toList.map fun c => D.str ⟨#[c]⟩
theorem iter_str {B F : Hp} {z : Str} : IterOk K (Its z) B F (signs z) := fun i F2 H2 b f s => by
  have hl : (signs z).length = z.cps.size := by unfold signs; rw [List.length_map, Array.length_toList]
  refine ⟨fun hi => ?_, fun hi => ?_⟩
  · rw [hl] at hi
    refine ⟨hi, fun x H3 y => ?_⟩
    obtain ⟨rfl, c, hc, rfl⟩ := y
    refine ⟨F2, .str ⟨#[c]⟩, ?_, Ext.refl _ _, s, .str _⟩
    unfold signs
    rw [List.getElem?_map, Array.getElem?_toList, hc]
    rfl
  · rw [hl] at hi
    exact Nat.le_of_eq hi.symm
def itD : D → R (List D)
  | .lst ds => .ok ds
  | .tup ds => .ok ds
  | .scr ns => .ok (ns.map .int)
  | .str z => .ok (signs z)
  | _ => .bad
def itr (f : En → R D) : En → R (List D) := fun ρ => bd (f ρ) itD
def irg (f : En → R (List D)) (w : List D → R (List D)) : En → R (List D) := fun ρ => bd (f ρ) w
theorem i_seqE (hC : X.K = C.K.fr) (ha : PE X e (tE C f)) : PI X tg e (tI C true (itr f)) :=
  (PI.or (pi_list ha) (PI.or (pi_tup ha) (pi_str ha))).mono fun σ H Q ⟨ρ, F, r, q⟩ => by
    unfold itr at q
    rw [hC]
    cases hf : f ρ with
    | bad => simp only [hf, bd_bad] at q; exact q.elim
    | err c => simp only [hf, bd_err] at q; exact .inl ⟨ρ, F, r, by rw [hf]; exact q⟩
    | ok d =>
      simp only [hf, bd_ok] at q
      cases d with
      | lst ds =>
        refine .inl ⟨ρ, F, r, ?_⟩
        rw [hf]
        intro v F' H' x s w
        cases w with
        | lst ha rr => exact ⟨_, rfl, ⟨_, SqL.of (s _ _ ha)⟩, q _ F' H' x s (iter_list (SqL.of (by rw [if_pos rfl]; exact jn_l _ _ ha)) rr)⟩
      | scr ds =>
        refine .inl ⟨ρ, F, r, ?_⟩
        rw [hf]
        intro v F' H' x s w
        cases w with
        | scr ha => exact ⟨_, rfl, ⟨_, s.seq ha⟩, q _ F' H' x s (iter_list (by rw [if_pos rfl]; exact jn_l.seq ha) (Reps.of_ints _))⟩
      | tup ds =>
        refine .inr (.inl ⟨ρ, F, r, ?_⟩)
        rw [hf]
        intro v F' H' x s w
        cases w with
        | tup ha rr => exact ⟨_, rfl, ⟨_, SqT.of (s _ _ ha)⟩, q _ F' H' x s (iter_tup (SqT.of (by rw [if_pos rfl]; exact jn_l _ _ ha)) rr)⟩
      | str z =>
        refine .inr (.inr ⟨ρ, F, r, ?_⟩)
        rw [hf]
        intro v F' H' x s w
        cases w
        exact ⟨z, rfl, q _ F' H' x s iter_str⟩
      | _ => exact q.elim
theorem i_seqR (hC : X.K = C.K.fr) (ha : PE X e (tR C f)) : PI X tg e (tI C false (itr f)) :=
  (PI.or (pi_list ha) (PI.or (pi_tup ha) (pi_str ha))).mono fun σ H Q ⟨ρ, F, r, q⟩ => by
    unfold itr at q
    rw [hC]
    cases hf : f ρ with
    | bad => simp only [hf, bd_bad] at q; exact q.elim
    | err c => simp only [hf, bd_err] at q; exact .inl ⟨ρ, F, r, by rw [hf]; exact q⟩
    | ok d =>
      simp only [hf, bd_ok] at q
      cases d with
      | lst ds =>
        refine .inl ⟨ρ, F, r, ?_⟩
        rw [hf]
        intro v F' H' x s w
        obtain ⟨l, vs, rfl, ha, rr⟩ := w
        exact ⟨_, rfl, ⟨_, SqL.of ha⟩, q _ F' H' x s (iter_list (SqL.of (by simpa using ha)) rr)⟩
      | scr ds =>
        refine .inl ⟨ρ, F, r, ?_⟩
        rw [hf]
        intro v F' H' x s w
        obtain ⟨l, rfl, ha⟩ := w
        exact ⟨_, rfl, ⟨_, ha⟩, q _ F' H' x s (iter_list (by simpa using ha) (Reps.of_ints _))⟩
      | tup ds =>
        refine .inr (.inl ⟨ρ, F, r, ?_⟩)
        rw [hf]
        intro v F' H' x s w
        obtain ⟨l, vs, rfl, ha, rr⟩ := w
        exact ⟨_, rfl, ⟨_, SqT.of ha⟩, q _ F' H' x s (iter_tup (SqT.of (by simpa using ha)) rr)⟩
      | str z =>
        refine .inr (.inr ⟨ρ, F, r, ?_⟩)
        rw [hf]
        intro v F' H' x s w
        cases w
        exact ⟨z, rfl, q _ F' H' x s iter_str⟩
      | _ => exact q.elim
def inR (i : Int) : Bool := decide (-(2 ^ 62) ≤ i) && decide (i < 2 ^ 62)
theorem inR_of {i : Int} (h : inR i = true) : -(2 ^ 62) ≤ i ∧ i < 2 ^ 62 := by
  unfold inR at h
  rw [Bool.and_eq_true] at h
  exact ⟨of_decide_eq_true h.1, of_decide_eq_true h.2⟩
def rng1 : List D → R (List D)
  | [.int j] => grd (inR j) (.ok ((List.range j.toNat).map fun (i : Nat) => D.int (0 + (i : Int))))
  | _ => .bad
def rng2 : List D → R (List D)
  | [.int i, .int j] => grd (inR i && inR j) (.ok ((List.range (j - i).toNat).map fun (k : Nat) => D.int (i + (k : Int))))
  | _ => .bad
theorem outV_of {st : Bool} {σ : L2.St} {F H : Hp} {x : R (List D)} {w : List D → R (List D)} {Q : It → Hp → Prop} {Q' : List V → Hp → Prop} (q : OutI C st σ F H (bd x w) Q)
    (h : ∀ ds vs F' H', OutI C st σ F' H' (w ds) Q → Ext F H F' H' → Same F' H' → Views C.K F' H' ds vs → Q' vs H') : OutV C σ F H x Q' := by
  cases x with
  | bad => exact q
  | err c => exact q
  | ok ds => exact fun vs F' H' x s w => h ds vs F' H' (OutI.later q x) x s w
theorem grdI {st : Bool} {σ : L2.St} {F H : Hp} {Q : It → Hp → Prop} {c : Bool} {x : R (List D)} (o : OutI C st σ F H (grd c x) Q) : c = true ∧ OutI C st σ F H x Q := by
  cases c with
  | true => exact ⟨rfl, o⟩
  | false => exact o.elim
theorem i_range1 {fs : En → R (List D)} (hm : X.mg "range" = none) (ha : PA X [a] (tV C fs)) (hg : Gl X "range" := by rfl) (hs : starEach [a] X.env = [(false, eval a X.env)] := by rfl) :
    PI X tg (.Call (.Name "range" p) [a] [] pos) (tI C true (irg fs rng1)) := (pi_range1 hg hm ha hs).mono fun σ H Q ⟨ρ, F, r, q⟩ => ⟨ρ, F, r, outV_of q fun ds vs F' H' o x s w => by
      unfold rng1 at o
      split at o
      · obtain ⟨z, o⟩ := grdI o
        obtain ⟨v, rfl, w1⟩ := Views.one w
        obtain rfl : v = V.int _ := w1
        obtain ⟨h1, h2⟩ := inR_of z
        exact ⟨_, rfl, h1, h2, o _ F' H' (Ext.refl _ _) s iter_range⟩
      · exact o.elim⟩
theorem i_range2 {fs : En → R (List D)} (hm : X.mg "range" = none) (ha : PA X [a, b] (tV C fs)) (hg : Gl X "range" := by rfl) (hs : starEach [a, b] X.env = [(false, eval a X.env), (false, eval b X.env)] := by rfl) (hs2 : starEach [b] X.env = [(false, eval b X.env)] := by rfl) :
    PI X tg (.Call (.Name "range" p) [a, b] [] pos) (tI C true (irg fs rng2)) := (pi_range2 hg hm ha hs hs2).mono fun σ H Q ⟨ρ, F, r, q⟩ => ⟨ρ, F, r, outV_of q fun ds vs F' H' o x s w => by
      unfold rng2 at o
      split at o
      · obtain ⟨z, o⟩ := grdI o
        rw [Bool.and_eq_true] at z
        obtain ⟨v, u, rfl, w1, w2⟩ := Views.two w
        obtain rfl : v = V.int _ := w1
        obtain rfl : u = V.int _ := w2
        obtain ⟨h1, h2⟩ := inR_of z.1
        obtain ⟨h3, h4⟩ := inR_of z.2
        exact ⟨_, _, rfl, ⟨h1, h2, h3, h4⟩, o _ F' H' (Ext.refl _ _) s iter_range⟩
      · exact o.elim⟩
def loopD (g : D → En → Option En) (gb : En → R Fl) : List D → En → R Fl
  | [], ρ => .ok (.next ρ)
  | d :: ds, ρ => match g d ρ with
    | none => .bad
    | some ρ1 => bd (gb ρ1) fun r => match r with
      | .next ρ' => loopD g gb ds ρ'
      | .cont ρ' => loopD g gb ds ρ'
      | .brk ρ' => .ok (.next ρ')
      | .ret o d => .ok (.ret o d)
def sFor (f : En → R (List D)) (g : D → En → Option En) (gb : En → R Fl) : En → R Fl := fun ρ => bd (f ρ) fun ds => loopD g gb ds ρ
theorem s_for {iter : Expr} {body : List Stmt} {fs : En → R (List D)} {gg : D → En → Option En} {gb : En → R Fl} {own : List Nat} (hc : X.calm = true) (hi : PI X tg iter (tI C true fs)) (hg : PG X tg (tG C own gg)) (hb : PSs X body (tS C gb))
    (hp : PassesOwn (model X.prog X.w) X.A X.env X.xe) (hs : ∀ x, foldedSetIterable iter X.env x = pure x := by intro _; rfl) : PS X (.For tg iter body [] pos) (tS C (sFor fs gg gb)) :=
  (ps_for hp hc hi hg hb hs).mono fun T σ H ⟨ρ, F, r, q⟩ => by
    refine ⟨ρ, F, r, ?_⟩
    have q' : Post C T F (bd (fs ρ) fun ds => loopD gg gb ds ρ) := q
    cases hf : fs ρ with
    | bad => rw [hf] at q'; exact q'
    | err c => rw [hf] at q'; exact fun F' H' x s => r.err q' x s
    | ok ds =>
      rw [hf, bd_ok] at q'
      intro J F1 H1 x1 s1 it
      rw [if_pos rfl] at it
      refine ⟨fun i m σ H => m = ds.length - i ∧ i ≤ ds.length ∧ ∃ ρ F, Rel C ρ σ F H ∧ Same F1 F ∧ Post C T F1 (loopD gg gb (ds.drop i) ρ), ⟨_, rfl, Nat.zero_le _, ρ, F1, r.grow x1 s1, Same.refl _, Post.up q' x1.f⟩, ?_⟩
      rintro i m σ H ⟨rfl, hi, ρ, F, r, sf, q⟩
      obtain ⟨it1, it2⟩ := it i F H (jn_in (sf.trans r.sub) r.ext.h) sf r.sub
      by_cases hlt : i < ds.length
      · obtain ⟨go, y⟩ := it1 hlt
        have e : ds.drop i = ds[i] :: ds.drop (i + 1) := List.drop_eq_getElem_cons hlt
        rw [e] at q
        refine .inr ⟨go, fun σ' H' => ∃ ρ F, Rel C ρ σ' F H' ∧ Same F1 F ∧ Post C T F1 (loopD gg gb (ds.drop (i + 1)) ρ), fun σ' H' p2 => ⟨_, by omega, rfl, hlt, p2⟩, fun v H' yy => ?_⟩
        obtain ⟨F3, d, hd, x3, s3, w3⟩ := y v H' yy
        rw [List.getElem?_eq_getElem hlt] at hd
        cases hd
        refine ⟨ρ, F3, ds[i], r.grow x3 s3, w3, ?_⟩
        unfold loopD at q
        cases hgg : gg ds[i] ρ with
        | none => rw [hgg] at q; exact q
        | some ρ1 =>
          rw [hgg] at q
          have q2 : Post C T F1 (bd (gb ρ1) fun r => match r with
            | .next ρ' => loopD gg gb (ds.drop (i + 1)) ρ'
            | .cont ρ' => loopD gg gb (ds.drop (i + 1)) ρ'
            | .brk ρ' => .ok (.next ρ')
            | .ret o d => .ok (.ret o d)) := q
          intro σ2 _ r2
          refine ⟨ρ1, F3, r2, ?_⟩
          have s13 : Same F1 F3 := sf.trans x3.f
          cases hb : gb ρ1 with
          | bad => rw [hb] at q2; exact q2
          | err c => rw [hb] at q2; exact q2
          | ok fl =>
            rw [hb] at q2
            cases fl with
            | next ρ' => exact fun σ' F' H' s' r' => ⟨ρ', F', r', s13.trans s', q2⟩
            | cont ρ' => exact fun σ' F' H' s' r' => ⟨ρ', F', r', s13.trans s', q2⟩
            | brk ρ' => exact fun σ' F' H' s' r' => q2 σ' F' H' (s13.trans s') r'
            | ret o d => exact q2
      · have e : i = ds.length := by omega
        subst e
        rw [List.drop_length] at q
        exact .inl ⟨it2 rfl, q σ F H sf r⟩
def Cd.nox (C : Cd) : Cd := { C with XW := fun _ _ _ => False }
theorem Rel.nox {ρ : En} {σ : L2.St} {F H : Hp} (r : Rel C ρ σ F H) : Rel C.nox ρ σ F H := ⟨r.ext, r.sub, r.len, r.slot, r.ownF, r.apartF, r.lend, r.wok⟩
def wipeR (ρ : En) : List Nat → En
  | [] => ρ
  | v :: vs => (wipeR ρ vs).set v none
theorem Rel.wipe {ρ : En} {σ : L2.St} {F H : Hp} (r : Rel C ρ σ F H) : ∀ own : List Nat, (own.all fun v => (C.ln v).isNone) = true → Rel C (wipeR ρ own) (L2.wipe σ own) F H
  | [], _ => r
  | v :: own, h => by
    rw [List.all_cons, Bool.and_eq_true] at h
    exact (Rel.wipe r own h.2).forget v none (by simpa using h.1)
def lcStep (g : D → En → Option En) (t : En → R Bool) (f : En → R D) (ρ : En) (d : D) : R (Option D) := match g d ρ with
  | none => .bad
  | some ρ1 => match t ρ1 with
    | .ok true => match f ρ1 with
      | .ok z => .ok (some z)
      | _ => .bad
    | .ok false => .ok none
    | _ => .bad
def lcGo (g : D → En → Option En) (t : En → R Bool) (f : En → R D) (ρ : En) : List D → R (List D)
  | [] => .ok []
  | d :: ds => bd (lcStep g t f ρ d) fun o => bd (lcGo g t f ρ ds) fun zs => .ok (match o with | some z => z :: zs | none => zs)
def lcD (own : List Nat) (fi : En → R (List D)) (g : D → En → Option En) (t : En → R Bool) (f : En → R D) : En → R D := fun ρ => bd (fi ρ) fun ds =>
  grd (decide (ds.length < sizeLine)) (bd (lcGo g t f (wipeR ρ own) ds) fun zs => .ok (.lst zs))
theorem Rel.other {ρ : En} {σ : L2.St} {F H : Hp} {p : Addr} {o : HO} (r : Rel C ρ σ F H) (nf : F p = none) (n0 : C.H0 p = none) (ap : ∀ (j : Nat) (e : D) (b : Addr), ρ[j]? = some (some (true, e)) → σ[j]? = some (some (.ref b)) → p ∉ foot H b e) : Rel C ρ σ F (upd H p o) where
  ext := ⟨r.ext.f, fun b x h => by rw [upd_ne (ne_of_none h n0)]; exact r.ext.h b x h, r.ext.n⟩
  sub := same_upd2 r.sub nf
  len := r.len
  slot := r.slot
  ownF := fun i d e => by
    obtain ⟨a, q, n, nd, ow⟩ := r.ownF i d e
    have hp := ap i d a e q
    have hf : foot (upd H p o) a d = foot H a d := foot_same ow fun b hb => upd_ne fun (z : b = p) => hp (z ▸ hb)
    rw [← hf] at n nd
    refine ⟨a, q, n, nd, ow.at (Same.refl _) fun b hb u hu => ?_⟩
    rw [upd_ne (fun (z : b = p) => hp (z ▸ hb))]
    exact hu
  apartF := fun i j d e a b c h1 h2 h3 h4 h5 h6 => by
    have hp := ap i d a h1 h3
    have hp' := ap j e b h2 h4
    obtain ⟨a1, q1, _, _, w1⟩ := r.ownF i d h1
    rw [h3] at q1; cases q1
    obtain ⟨b1, q2, _, _, w2⟩ := r.ownF j e h2
    rw [h4] at q2; cases q2
    rw [foot_same w1 fun c hc => upd_ne fun (z : c = p) => hp (z ▸ hc)] at h5
    rw [foot_same w2 fun c hc => upd_ne fun (z : c = p) => hp' (z ▸ hc)] at h6
    exact r.apartF i j d e a b c h1 h2 h3 h4 h5 h6
  wok := r.wok
  lend := r.lend
theorem lcStep_err {gg : D → En → Option En} {t : En → R Bool} {ρ : En} {d : D} {c : Str} : lcStep gg t f ρ d ≠ .err c := by
  unfold lcStep
  intro h
  split at h
  · cases h
  · split at h
    · split at h <;> cases h
    · cases h
    · cases h
theorem lcGo_err {gg : D → En → Option En} {t : En → R Bool} {ρ : En} {c : Str} : ∀ {ds : List D}, lcGo gg t f ρ ds ≠ .err c
  | [], h => by cases h
  | d :: ds, h => by
    unfold lcGo at h
    cases h1 : lcStep gg t f ρ d with
    | bad => rw [h1] at h; cases h
    | err c => exact lcStep_err h1
    | ok o =>
      rw [h1, bd_ok] at h
      cases h2 : lcGo gg t f ρ ds with
      | bad => rw [h2] at h; cases h
      | err c => exact lcGo_err h2
      | ok zs => rw [h2] at h; cases h
theorem lcGo_cons {gg : D → En → Option En} {t : En → R Bool} {ρ : En} {d : D} {ds zs : List D} (h : lcGo gg t f ρ (d :: ds) = .ok zs) : ∃ o ws, lcStep gg t f ρ d = .ok o ∧ lcGo gg t f ρ ds = .ok ws ∧ zs = (match o with | some z => z :: ws | none => ws) := by
  unfold lcGo at h
  cases h1 : lcStep gg t f ρ d with
  | bad => rw [h1] at h; cases h
  | err c => rw [h1] at h; cases h
  | ok o =>
    rw [h1, bd_ok] at h
    cases h2 : lcGo gg t f ρ ds with
    | bad => rw [h2] at h; cases h
    | err c => rw [h2] at h; cases h
    | ok ws => rw [h2] at h; cases h; exact ⟨o, ws, rfl, rfl, rfl⟩
theorem lc_ok {st : Bool} {fi : En → R (List D)} {gg : D → En → Option En} {t : En → R Bool} {own : List Nat} (hln : (own.all fun v => (C.ln v).isNone) = true) : ∀ σ H Q, tO C (lcD own fi gg t f) σ H Q → tLc (tI C st fi) (tG C.nox own gg) (tT C.nox t) (tE C.nox f) own σ H Q := by
  rintro σ H Q ⟨ρ, F, r, q⟩
  refine ⟨ρ, F, r, ?_⟩
  unfold lcD at q
  cases hfi : fi ρ with
  | bad => rw [hfi] at q; exact q
  | err c => rw [hfi] at q; exact q
  | ok ds =>
    rw [hfi, bd_ok] at q
    intro J F1 H1 x1 s1 it
    replace it : IterOk C.K J H1 F1 ds := by
      cases st with
      | true => rw [if_pos rfl] at it; exact it.base (jn_in s1 (r.ext.h.trans x1.h))
      | false => rw [if_neg Bool.false_ne_true] at it; exact it
    obtain ⟨z, q⟩ := grd_out q
    have z := of_decide_eq_true z
    intro D hD
    cases hgo : lcGo gg t f (wipeR ρ own) ds with
    | bad => rw [hgo] at q; exact q.elim
    | err c => exact absurd hgo lcGo_err
    | ok all =>
      rw [hgo, bd_ok] at q
      have q := Out.later q x1
      have r1 := r.grow x1 s1
      have d0 : C.H0 D = none := r1.ext.h.free hD
      have fd : F1 D = none := s1.free hD
      have ap : ∀ H', Same H1 H' → ∀ (j : Nat) (e : DL.D) (b : Addr), ρ[j]? = some (some (true, e)) → σ[j]? = some (some (.ref b)) → D ∉ foot H' b e := fun H' s' j e b h1 h2 h3 => by
        obtain ⟨a, q1, _, _, o⟩ := r1.ownF j e h1
        rw [h2] at q1
        cases q1
        rw [foot_grow s' o] at h3
        obtain ⟨u, hu⟩ := o.foot D h3
        rw [hD] at hu
        cases hu
      refine ⟨fun i m H => m = ds.length - i ∧ i ≤ ds.length ∧ ∃ F2 acc zs ws, Rel C ρ σ F2 H ∧ Ext F1 H1 F2 H ∧ F2 D = none ∧ H D = some (.lst acc) ∧ Reps C.K F2 zs acc ∧ zs.length ≤ i ∧ lcGo gg t f (wipeR ρ own) (ds.drop i) = .ok ws ∧ all = zs ++ ws,
        ⟨_, rfl, Nat.zero_le _, F1, [], [], all, r1.other fd d0 (ap H1 (Same.refl _)), Ext.heap (same_upd hD), fd, upd_same, .nil, Nat.zero_le _, hgo, rfl⟩, ?_⟩
      rintro i m H2 ⟨rfl, hi, F2, acc, zs, ws, r2, x2, f2, h2, rz, lz, hw, ha⟩
      obtain ⟨it1, it2⟩ := it i F2 H2 x2.h x2.f r2.sub
      by_cases hlt : i < ds.length
      · obtain ⟨go, y⟩ := it1 hlt
        have e : ds.drop i = ds[i] :: ds.drop (i + 1) := List.drop_eq_getElem_cons hlt
        rw [e] at hw
        obtain ⟨o, ws', hs, hw', hz⟩ := lcGo_cons hw
        refine .inr ⟨go, fun H => ∃ F2 acc zs ws, Rel C ρ σ F2 H ∧ Ext F1 H1 F2 H ∧ F2 D = none ∧ H D = some (.lst acc) ∧ Reps C.K F2 zs acc ∧ zs.length ≤ i + 1 ∧ lcGo gg t f (wipeR ρ own) (ds.drop (i + 1)) = .ok ws ∧ all = zs ++ ws,
          fun H' p => ⟨_, by omega, rfl, hlt, p⟩, fun v H3 yy => ?_⟩
        obtain ⟨F3, d, hd, x3, s3, w3⟩ := y v H3 yy
        rw [List.getElem?_eq_getElem hlt] at hd
        cases hd
        have r3 := r2.grow x3 s3
        refine ⟨wipeR ρ own, F3, ds[i], (r3.nox).wipe own hln, w3, ?_⟩
        unfold lcStep at hs
        cases hgg : gg ds[i] (wipeR ρ own) with
        | none => rw [hgg] at hs; cases hs
        | some ρ1 =>
          rw [hgg] at hs
          intro σ4 e4 r4
          refine ⟨e4.trans (wipe_wipe own own σ fun _ h => h), ρ1, F3, r4, ?_⟩
          dsimp only at hs
          cases ht : t ρ1 with
          | bad => rw [ht] at hs; cases hs
          | err c => rw [ht] at hs; cases hs
          | ok b =>
            rw [ht] at hs
            intro F5 H5 x5 s5
            have x35 := x3.trans x5
            have hD5 : H5 D = some (.lst acc) := x35.h _ _ h2
            have fD5 : F5 D = none := x35.keepN h2 f2
            cases b with
            | false =>
              rw [if_neg Bool.false_ne_true]
              cases hs
              exact ⟨F5, acc, zs, ws', (r3.grow x5 s5), x2.trans x35, fD5, hD5, rz.mono x35.f, by omega, hw', by rw [ha, hz]⟩
            | true =>
              rw [if_pos rfl]
              refine ⟨ρ1, F5, r4.grow x5 s5, ?_⟩
              dsimp only at hs
              cases hf : f ρ1 with
              | bad => rw [hf] at hs; cases hs
              | err c => rw [hf] at hs; cases hs
              | ok zz =>
                rw [hf] at hs
                cases hs
                intro yv F6 H6 x6 s6 w6
                have x26 := x35.trans x6
                have hD6 : H6 D = some (.lst acc) := x26.h _ _ h2
                have fD6 : F6 D = none := x26.keepN h2 f2
                refine ⟨acc, hD6, by rw [rz.length]; omega, F6, acc ++ [yv], zs ++ [zz], ws', ((r3.grow x5 s5).grow x6 s6).other fD6 d0 (ap H6 (x2.trans x26).h), ?_, fD6, upd_same, (rz.mono x26.f).append (.cons w6 .nil), by rw [List.length_append]; exact Nat.succ_le_succ lz, hw', ?_⟩
                · have x16 := x2.trans x26
                  exact ⟨x16.f, fun b u h => by rw [upd_ne (ne_of_none h hD)]; exact x16.h b u h, x16.n⟩
                · rw [ha, hz, List.append_assoc]; rfl
      · have e : i = ds.length := by omega
        subst e
        rw [List.drop_length] at hw
        cases hw
        rw [List.append_nil] at ha
        subst ha
        refine .inl ⟨it2 rfl, q (.ref D) F2 H2 x2 r2.sub ⟨D, rfl, x1.h.free hD, f2, acc, h2, rz⟩⟩
theorem d_lc {st : Bool} {elt iter : Expr} {ifs : List Expr} {scope : Scope} {own : List (Str × Nat)} {fi : En → R (List D)} {gg : D → En → Option En} {t : En → R Bool} (hc : X.calm = true) (hN : X.N.Nodup) (hi : PI X tg iter (tI C st fi)) (ok : BlkOk X.N X.env.scope scope own)
    (hg : ∀ (s : Shared) (H : Hp) (A : Addr) (cl : List (Str × Addr)) (fp : List Addr), PG (X.blk s H scope (compEnvC scope cl A X.env) fp) tg (tG C.nox (own.map (·.2)) gg)) (ht : ∀ (s : Shared) (H : Hp) (A : Addr) (cl : List (Str × Addr)) (fp : List Addr), PTs (X.blk s H scope (compEnvC scope cl A X.env) fp) ifs (tT C.nox t))
    (he : ∀ (s : Shared) (H : Hp) (A : Addr) (cl : List (Str × Addr)) (fp : List Addr), PE (X.blk s H scope (compEnvC scope cl A X.env) fp) elt (tE C.nox f)) (hs : ∀ x, foldedSetIterable iter X.env x = pure x := by intro _; rfl) (hw : ((own.map (·.2)).all fun v => (C.ln v).isNone) = true := by rfl) :
    PE X (.ListComp elt [⟨tg, iter, ifs, 0⟩] scope pos) (tO C (lcD (own.map (·.2)) fi gg t f)) := (pe_lc hc hN hi ok hg ht he hs).mono (lc_ok hw)
theorem s_setLc {i : Nat} {y : Str} {py : Pos} {spos : Pos} {st : Bool} {elt iter : Expr} {ifs : List Expr} {scope : Scope} {own : List (Str × Nat)} {fi : En → R (List D)} {gg : D → En → Option En} {t : En → R Bool} (hc : X.calm = true) (hN : X.N.Nodup) (hi : PI X tg iter (tI C st fi)) (ok : BlkOk X.N X.env.scope scope own)
    (hg : ∀ (s : Shared) (H : Hp) (A : Addr) (cl : List (Str × Addr)) (fp : List Addr), PG (X.blk s H scope (compEnvC scope cl A X.env) fp) tg (tG C.nox (own.map (·.2)) gg)) (ht : ∀ (s : Shared) (H : Hp) (A : Addr) (cl : List (Str × Addr)) (fp : List Addr), PTs (X.blk s H scope (compEnvC scope cl A X.env) fp) ifs (tT C.nox t))
    (he : ∀ (s : Shared) (H : Hp) (A : Addr) (cl : List (Str × Addr)) (fp : List Addr), PE (X.blk s H scope (compEnvC scope cl A X.env) fp) elt (tE C.nox f))
    (hsw : swapsWith (.ListComp elt [⟨tg, iter, ifs, 0⟩] scope pos) (some (.Name y py)) spos.line X.env = pure true) (hy : X.N[i]? = some y := by rfl) (hyl : X.env.scope.names.lookup y = some .local := by rfl) (hs : ∀ x, foldedSetIterable iter X.env x = pure x := by intro _; rfl) (hw : ((own.map (·.2)).all fun v => (C.ln v).isNone) = true := by rfl) (hl : C.ln i = none := by rfl) :
    PS X (.Assign [.Name y py] (.ListComp elt [⟨tg, iter, ifs, 0⟩] scope pos) spos) (tS C (sSetO i (lcD (own.map (·.2)) fi gg t f))) :=
  (ps_setLc hc hN hy hyl hsw hi ok hg ht he hs).mono fun T σ H ⟨ρ, F, r, q⟩ => lc_ok hw σ H _ ⟨ρ, F, r, out_of r q fun d v F' H' _ q x s r' w => q _ F' H' (Same.refl _) (r'.setN (r.old x.h) (fun a h => r.ext.h.free h) w hl)⟩
def tYesD : En → R Bool := fun _ => .ok true
theorem ts_nil {C : Cd} : PTs X [] (tT C tYesD) := ⟨fun pins s σ H Q I h => pts_nil.run pins s σ H Q I (by
  obtain ⟨ρ, F, r, q⟩ := h
  exact q F H (Ext.refl _ _) r.sub)⟩
theorem ts_one {C : Cd} {t : En → R Bool} (h : PT X c (tT C t)) : PTs X [c] (tT C t) := pts_one h
end
end DL
namespace DL
open PySem PySem.Spec PyProof.Rows L2
section
variable {X : Cx} {C : Cd} {e a b c tg : Expr} {f g k : En → R D} {pos p : Pos} {st : Stmt} {rest : List Stmt} {s1 s2 : En → R Fl} {K : Kx} {F H : Hp}
def lkD {κ : Type} [DecidableEq κ] (kds : List (κ × D)) (q : κ) : Option D := (kds.find? fun kv => decide (kv.1 = q)).map (·.2)
def putD {κ : Type} [DecidableEq κ] (kds : List (κ × D)) (q : κ) (v : D) : List (κ × D) :=
  if (kds.any fun kv => decide (kv.1 = q)) = true then kds.map (fun kv => if kv.1 = q then (kv.1, v) else kv) else kds ++ [(q, v)]
theorem RepK.look {q : Key} : ∀ {kds : List (Key × D)} {kvs : List (Key × V)}, RepK K F kds kvs → (∃ d v, lkD kds q = some d ∧ valV kvs q = some v ∧ Rep K F d v) ∨ (lkD kds q = none ∧ valV kvs q = none)
  | _, _, .nil => .inr ⟨rfl, rfl⟩
  | _, _, .cons (k := k) (d := d) (v := v) (ds := ds) (vs := vs) r t => by
    by_cases h : k = q
    · refine .inl ⟨d, v, ?_, ?_, r⟩
      · unfold lkD; rw [List.find?_cons_of_pos (by simpa using h)]; rfl
      · unfold valV; rw [List.find?_cons_of_pos (by simpa using h)]; rfl
    · have e1 : lkD ((k, d) :: ds) q = lkD ds q := by unfold lkD; rw [List.find?_cons_of_neg (by simpa using h)]
      have e2 : valV ((k, v) :: vs) q = valV vs q := by unfold valV; rw [List.find?_cons_of_neg (by simpa using h)]
      rw [e1, e2]
      exact RepK.look t
theorem RepT.look {q : List Key} : ∀ {kds : List (List Key × D)} {kvs : List (List Key × V)}, RepT K F kds kvs → (∃ d v, lkD kds q = some d ∧ valV kvs q = some v ∧ Rep K F d v) ∨ (lkD kds q = none ∧ valV kvs q = none)
  | _, _, .nil => .inr ⟨rfl, rfl⟩
  | _, _, .cons (k := k) (d := d) (v := v) (ds := ds) (vs := vs) r t => by
    by_cases h : k = q
    · refine .inl ⟨d, v, ?_, ?_, r⟩
      · unfold lkD; rw [List.find?_cons_of_pos (by simpa using h)]; rfl
      · unfold valV; rw [List.find?_cons_of_pos (by simpa using h)]; rfl
    · have e1 : lkD ((k, d) :: ds) q = lkD ds q := by unfold lkD; rw [List.find?_cons_of_neg (by simpa using h)]
      have e2 : valV ((k, v) :: vs) q = valV vs q := by unfold valV; rw [List.find?_cons_of_neg (by simpa using h)]
      rw [e1, e2]
      exact RepT.look t
theorem RepK.any {q : Key} : ∀ {kds : List (Key × D)} {kvs : List (Key × V)}, RepK K F kds kvs → (kds.any fun kv => decide (kv.1 = q)) = (kvs.any fun kv => decide (kv.1 = q))
  | _, _, .nil => rfl
  | _, _, .cons r t => by rw [List.any_cons, List.any_cons, RepK.any t]
theorem RepT.any {q : List Key} : ∀ {kds : List (List Key × D)} {kvs : List (List Key × V)}, RepT K F kds kvs → (kds.any fun kv => decide (kv.1 = q)) = (kvs.any fun kv => decide (kv.1 = q))
  | _, _, .nil => rfl
  | _, _, .cons r t => by rw [List.any_cons, List.any_cons, RepT.any t]
theorem RepK.app : ∀ {kds kes : List (Key × D)} {kvs kws : List (Key × V)}, RepK K F kds kvs → RepK K F kes kws → RepK K F (kds ++ kes) (kvs ++ kws)
  | _, _, _, _, .nil, s => s
  | _, _, _, _, .cons r t, s => .cons r (RepK.app t s)
theorem RepT.app : ∀ {kds kes : List (List Key × D)} {kvs kws : List (List Key × V)}, RepT K F kds kvs → RepT K F kes kws → RepT K F (kds ++ kes) (kvs ++ kws)
  | _, _, _, _, .nil, s => s
  | _, _, _, _, .cons r t, s => .cons r (RepT.app t s)
theorem RepK.map {q : Key} {d : D} {v : V} (w : Rep K F d v) : ∀ {kds : List (Key × D)} {kvs : List (Key × V)}, RepK K F kds kvs → RepK K F (kds.map fun kv => if kv.1 = q then (kv.1, d) else kv) (kvs.map fun kv => if kv.1 = q then (kv.1, v) else kv)
  | _, _, .nil => .nil
  | _, _, .cons (k := k) r t => by
    rw [List.map_cons, List.map_cons]
    by_cases h : k = q
    · simp only [h, if_true]; exact .cons w (RepK.map w t)
    · simp only [h, if_false]; exact .cons r (RepK.map w t)
theorem RepT.map {q : List Key} {d : D} {v : V} (w : Rep K F d v) : ∀ {kds : List (List Key × D)} {kvs : List (List Key × V)}, RepT K F kds kvs → RepT K F (kds.map fun kv => if kv.1 = q then (kv.1, d) else kv) (kvs.map fun kv => if kv.1 = q then (kv.1, v) else kv)
  | _, _, .nil => .nil
  | _, _, .cons (k := k) r t => by
    rw [List.map_cons, List.map_cons]
    by_cases h : k = q
    · simp only [h, if_true]; exact .cons w (RepT.map w t)
    · simp only [h, if_false]; exact .cons r (RepT.map w t)
theorem RepK.put {q : Key} {d : D} {v : V} (w : Rep K F d v) {kds : List (Key × D)} {kvs : List (Key × V)} (r : RepK K F kds kvs) : RepK K F (putD kds q d) (putK kvs q v) := by
  unfold putD putK
  rw [r.any]
  split
  · exact RepK.map w r
  · exact r.app (.cons w .nil)
theorem RepT.put {q : List Key} {d : D} {v : V} (w : Rep K F d v) {kds : List (List Key × D)} {kvs : List (List Key × V)} (r : RepT K F kds kvs) : RepT K F (putD kds q d) (putK kvs q v) := by
  unfold putD putK
  rw [r.any]
  split
  · exact RepT.map w r
  · exact r.app (.cons w .nil)
theorem RepT.length : ∀ {ds : List (List Key × D)} {vs : List (List Key × V)}, RepT K F ds vs → vs.length = ds.length
  | _, _, .nil => rfl
  | _, _, .cons _ t => congrArg (· + 1) (RepT.length t)
def keyD : D → Option Key
  | .int i => some (.inl i)
  | .str x => some (.inr x)
  | _ => none
theorem View.key {d : D} {v : V} {q : Key} (w : View K F H d v) (h : keyD d = some q) : v = kV q := by
  cases d with
  | int i => cases h; exact w
  | str i => cases h; exact w
  | _ => cases h
theorem Rep.key {d : D} {v : V} {q : Key} (w : Rep K F d v) (h : keyD d = some q) : v = kV q := by
  cases w with
  | int i => cases h; rfl
  | str i => cases h; rfl
  | _ => cases h
def keysD : List D → Option (List Key)
  | [] => some []
  | d :: ds => (keyD d).bind fun q => (keysD ds).map (q :: ·)
theorem Reps.keys : ∀ {ds : List D} {vs : List V} {qs : List Key}, Reps K F ds vs → keysD ds = some qs → vs = qs.map kV
  | _, _, _, .nil, h => by cases h; rfl
  | _, _, _, .cons (d := d) (ds := ds) r t, h => by
    unfold keysD at h
    cases h1 : keyD d with
    | none => rw [h1] at h; cases h
    | some q =>
      rw [h1] at h
      cases h2 : keysD ds with
      | none => rw [h2] at h; cases h
      | some qs => rw [h2] at h; cases h; rw [r.key h1, Reps.keys t h2]; rfl
def keyT : D → Option (List Key)
  | .tup ds => keysD ds
  | _ => none
theorem View.keyT {d : D} {v : V} {q : List Key} (w : View K F H d v) (h : DL.keyT d = some q) : ∃ b, v = .ref b ∧ H b = some (.tup (q.map kV)) := by
  cases d with
  | tup ds =>
    obtain ⟨b, vs, rfl, h1, r⟩ := w
    refine ⟨b, rfl, ?_⟩
    rw [h1, Reps.keys r h]
  | _ => cases h
def dGet? : D → D → Option (Option D)
  | .dK kds, q => (keyD q).map (lkD kds)
  | .dT kds, q => (keyT q).map (lkD kds)
  | _, _ => none
theorem get_ok {d q : D} {x y : V} {o : Option D} (h : dGet? d q = some o) (w1 : View K F H d x) (w2 : View K F H q y) : ∃ a ov, x = .ref a ∧ DGet H a y ov ∧ ((∃ z v, o = some z ∧ ov = some v ∧ Rep K F z v) ∨ (o = none ∧ ov = none)) := by
  cases d with
  | dK kds =>
    obtain ⟨a, kvs, rfl, hr, r⟩ := w1
    have h' : (keyD q).map (lkD kds) = some o := h
    cases hk : keyD q with
    | none => rw [hk] at h'; cases h'
    | some kk =>
      rw [hk] at h'
      cases h'
      refine ⟨a, valV kvs kk, rfl, .inl ⟨kvs, kk, hr, w2.key hk, rfl⟩, ?_⟩
      rcases RepK.look (q := kk) r with ⟨z, v, e1, e2, rr⟩ | ⟨e1, e2⟩
      · exact .inl ⟨z, v, e1, e2, rr⟩
      · exact .inr ⟨e1, e2⟩
  | dT kds =>
    obtain ⟨a, kvs, rfl, hr, r⟩ := w1
    have h' : (keyT q).map (lkD kds) = some o := h
    cases hk : keyT q with
    | none => rw [hk] at h'; cases h'
    | some kk =>
      rw [hk] at h'
      cases h'
      obtain ⟨bb, e, hb⟩ := w2.keyT hk
      refine ⟨a, valV kvs kk, rfl, .inr ⟨kvs, kk, bb, hr, e, hb, rfl⟩, ?_⟩
      rcases RepT.look (q := kk) r with ⟨z, v, e1, e2, rr⟩ | ⟨e1, e2⟩
      · exact .inl ⟨z, v, e1, e2, rr⟩
      · exact .inr ⟨e1, e2⟩
  | _ => cases h
def isFlat : D → Bool
  | .non => true
  | .bl _ => true
  | .int _ => true
  | .str _ => true
  | _ => false
def eqF : D → D → Bool
  | .non, .non => true
  | .bl a, .bl b => a == b
  | .bl a, .int b => (if a then 1 else 0) == b
  | .int a, .bl b => a == (if b then 1 else 0)
  | .int a, .int b => a == b
  | .str a, .str b => a == b
  | _, _ => false
theorem Rep.flatV {d : D} {v : V} (w : Rep K F d v) (h : isFlat d = true) : L2.flatV v = true := by
  cases w <;> first | rfl | cases h
theorem View.rep {d : D} {v : V} (w : View K F H d v) (h : isFlat d = true) : Rep K F d v := by
  cases d with
  | non => cases w; exact .non
  | bl b => cases w; exact .bl b
  | int b => cases w; exact .int b
  | str b => cases w; exact .str b
  | _ => cases h
theorem Rep.eqF {d e : D} {v u : V} (w : Rep K F d v) (w' : Rep K F e u) (h : isFlat d = true) (h' : isFlat e = true) : DL.eqF d e = eqV v u := by
  cases w <;> first | (cases h; done) | (cases w' <;> first | (cases h'; done) | rfl)
theorem Reps.flats : ∀ {ds : List D} {vs : List V}, Reps K F ds vs → ds.all isFlat = true → vs.all L2.flatV = true
  | _, _, .nil, _ => rfl
  | _, _, .cons r t, h => by
    rw [List.all_cons, Bool.and_eq_true] at h ⊢
    exact ⟨r.flatV h.1, Reps.flats t h.2⟩
theorem Reps.inF {x : D} {v : V} (w : Rep K F x v) (hx : isFlat x = true) : ∀ {ds : List D} {vs : List V}, Reps K F ds vs → ds.all isFlat = true → (ds.any fun y => DL.eqF y x) = inV v vs
  | _, _, .nil, _ => rfl
  | _, _, .cons r t, h => by
    rw [List.all_cons, Bool.and_eq_true] at h
    unfold inV
    rw [List.any_cons, List.any_cons, r.eqF w h.1 hx, Reps.inF w hx t h.2]
    rfl
def inSeq (neg : Bool) (x : D) (ds : List D) : R D := if (isFlat x && ds.all isFlat) = true then .ok (.bl (xorB neg (ds.any fun y => eqF y x))) else match py x, pys ds with
  | some p, some ps => grd (SeqAt.shaped p && SeqAt.shaped (.list ps)) (.ok (.bl (xorB neg (ps.any fun z => PyData.eqv z p))))
  | _, _ => .bad
def inTup (neg : Bool) (x : D) (ds : List D) : R D := grd (isFlat x && ds.all isFlat) (.ok (.bl (xorB neg (ds.any fun y => eqF y x))))
def inStr (neg : Bool) (x z : Str) : R D := match x.cps.toList with
  | [c] => .ok (.bl (xorB neg (decide (c ∈ z.cps.toList))))
  | _ => .ok (.bl (xorB neg (!(Builtin.Str.occurrences z x 0 z.length 1).isEmpty)))
def dIn (neg : Bool) (x : D) : D → R D
  | .lst ds => inSeq neg x ds
  | .scr ns => inSeq neg x (ns.map .int)
  | .tup ds => inTup neg x ds
  | .str z => match x with | .str y => inStr neg y z | _ => .bad
  | .dK kds => match dGet? (.dK kds) x with | some o => .ok (.bl (xorB neg o.isSome)) | none => .bad
  | .dT kds => match dGet? (.dT kds) x with | some o => .ok (.bl (xorB neg o.isSome)) | none => .bad
  | _ => .bad
def rInAll (K : PySem.W.Frag) (neg : Bool) : R2 := fun x y H Q => rIn K neg x y H Q ∨ (∃ d ds, Dp K H x d ∧ Dp K H y (.list ds) ∧ SeqAt.shaped d = true ∧ SeqAt.shaped (.list ds) = true ∧ Q (.bl (xorB neg (ds.any fun z => PyData.eqv z d))) H) ∨
  (∃ (c : Nat) (z : Str), x = .str ⟨#[c]⟩ ∧ y = .str z ∧ Q (.bl (xorB neg (decide (c ∈ z.cps.toList)))) H) ∨ (∃ i j, x = .str i ∧ y = .str j ∧ Q (.bl (xorB neg (!(Builtin.Str.occurrences j i 0 j.length 1).isEmpty))) H) ∨
  (∃ a o, y = .ref a ∧ DGet H a x o ∧ Q (.bl (xorB neg o.isSome)) H)
theorem op_inAll (hu : X.A.units + 65 < cLine) : OpR X (compareOp .In) (rInAll X.K false) := by
  refine OpR.or op_in_seq (OpR.or (op_inD hu) (OpR.or op_in_sign (OpR.or op_in_str ?_)))
  intro pins s σ H x y v u Q I rx ry h
  obtain ⟨a, o, rfl, g, q⟩ := h
  cases ry
  exact d_in (by omega) I g rx fun s' I' => ⟨.bl _, H, I', rfl, q⟩
theorem op_notInAll (hu : X.A.units + 65 < cLine) : OpR X (compareOp .NotIn) (rInAll X.K true) := by
  refine OpR.or op_notIn_seq (OpR.or (op_notInD hu) (OpR.or op_notIn_sign (OpR.or op_notin_str ?_)))
  intro pins s σ H x y v u Q I rx ry h
  obtain ⟨a, o, rfl, g, q⟩ := h
  cases ry
  exact d_notIn (by omega) I g rx fun s' I' => ⟨.bl _, H, I', rfl, q⟩
theorem xor_if (neg b : Bool) : (if neg = true then !b else b) = xorB neg b := by cases neg <;> rfl
theorem in_ok (neg : Bool) : Op2 C (rInAll C.K neg) (dIn neg) := by
  intro σ F H Q d e x y o s w1 w2
  have seq : ∀ (p : Addr) (ds : List D) (vs : List V), y = .ref p → SqL C.K H p vs → Reps C.K F ds vs → Out C σ F H (fun F' H' => New C.K H F' H') (inSeq neg d ds) Q → (∀ ps, pys ds = some ps → Dp C.K H y (.list ps)) → rInAll C.K neg x y H Q := by
    intro p ds vs ey hq r o hdp
    unfold inSeq at o
    split at o
    · rename_i hf
      rw [Bool.and_eq_true] at hf
      refine .inl ⟨p, vs, ey, .inl hq, (w1.rep hf.1).flatV hf.1, r.flats hf.2, ?_⟩
      rw [xor_if, ← Reps.inF (w1.rep hf.1) hf.1 r hf.2]
      exact fin_flat o s rfl
    · split at o
      · rename_i pp ps hp hps
        obtain ⟨z, o⟩ := grd_out o
        rw [Bool.and_eq_true] at z
        exact .inr (.inl ⟨pp, ps, w1.dp s hp, hdp ps hps, z.1, z.2, fin_flat o s rfl⟩)
      · exact o.elim
  cases e with
  | lst ds =>
    obtain ⟨p, vs, ey, hq, r⟩ := w2
    exact seq p ds vs ey (SqL.of hq) r o fun ps hps => by rw [ey]; exact .lst (SqL.of hq) (Reps.dp s r hps)
  | scr ns =>
    obtain ⟨p, ey, hq⟩ := w2
    refine seq p _ _ ey hq (Reps.of_ints ns) o fun ps hps => ?_
    have : ∀ ns : List Int, pys (ns.map D.int) = some (ns.map PyData.int) := fun ns => by
      induction ns with
      | nil => rfl
      | cons n ns ih => simp only [List.map_cons]; unfold pys; rw [ih]; rfl
    rw [this] at hps
    cases hps
    rw [ey]
    exact .lst hq (dp_ints ns)
  | tup ds =>
    obtain ⟨p, vs, ey, hq, r⟩ := w2
    obtain ⟨hf, o⟩ := grd_out o
    rw [Bool.and_eq_true] at hf
    refine .inl ⟨p, vs, ey, .inr (SqT.of hq), (w1.rep hf.1).flatV hf.1, r.flats hf.2, ?_⟩
    rw [xor_if, ← Reps.inF (w1.rep hf.1) hf.1 r hf.2]
    exact fin_flat o s rfl
  | str z =>
    cases d with
    | str i =>
      obtain rfl : x = .str i := w1
      obtain rfl : y = .str z := w2
      have o' : Out C σ F H (fun F' H' => New C.K H F' H') (inStr neg i z) Q := o
      unfold inStr at o'
      split at o'
      · rename_i c hc
        refine .inr (.inr (.inl ⟨c, z, ?_, rfl, fin_flat o' s rfl⟩))
        rw [show i = ⟨#[c]⟩ by
          cases i with
          | mk cps =>
            congr 1
            exact Array.ext' hc]
      · exact .inr (.inr (.inr (.inl ⟨i, z, rfl, rfl, fin_flat o' s rfl⟩)))
    | _ => exact o.elim
  | dK kds =>
    have o' : Out C σ F H (fun F' H' => New C.K H F' H') (match dGet? (.dK kds) d with | some o => .ok (.bl (xorB neg o.isSome)) | none => .bad) Q := o
    cases hg : dGet? (.dK kds) d with
    | none => rw [hg] at o'; exact o'.elim
    | some oo =>
      rw [hg] at o'
      obtain ⟨a, ov, ey, g, hh⟩ := get_ok hg w2 w1
      refine .inr (.inr (.inr (.inr ⟨a, ov, ey, g, ?_⟩)))
      have e : ov.isSome = oo.isSome := by
        rcases hh with ⟨_, _, rfl, rfl, _⟩ | ⟨rfl, rfl⟩ <;> rfl
      rw [e]
      exact fin_flat o' s rfl
  | dT kds =>
    have o' : Out C σ F H (fun F' H' => New C.K H F' H') (match dGet? (.dT kds) d with | some o => .ok (.bl (xorB neg o.isSome)) | none => .bad) Q := o
    cases hg : dGet? (.dT kds) d with
    | none => rw [hg] at o'; exact o'.elim
    | some oo =>
      rw [hg] at o'
      obtain ⟨a, ov, ey, g, hh⟩ := get_ok hg w2 w1
      refine .inr (.inr (.inr (.inr ⟨a, ov, ey, g, ?_⟩)))
      have e : ov.isSome = oo.isSome := by
        rcases hh with ⟨_, _, rfl, rfl, _⟩ | ⟨rfl, rfl⟩ <;> rfl
      rw [e]
      exact fin_flat o' s rfl
  | _ => exact o.elim
def dIxA (d q : D) : R D := match dGet? d q with
  | some (some z) => .ok z
  | some none => .bad
  | none => dIx d q
theorem d_ixA (hC : X.K = C.K.fr) (hu : X.A.units + 1 < cLine) (ha : PE X a (tR C f)) (hb : PE X b (tR C g)) (hs : PlainIx b := by exact fun _ _ => rfl) : PE X (.Subscript a b pos) (tE C (bop f g dIxA)) :=
  (PE.or (pe_ix (hC ▸ ix_seq) ha hb hs) (pe_dget hu ha hb hs)).mono (by
    rintro σ H Q ⟨ρ, F, rl, q⟩
    unfold bop at q
    cases hf : f ρ with
    | bad => simp only [hf, bd_bad] at q; exact q.elim
    | err c => simp only [hf, bd_err] at q; exact .inl ⟨ρ, F, rl, by rw [hf]; exact q⟩
    | ok d =>
      simp only [hf, bd_ok] at q
      cases hg : g ρ with
      | bad => simp only [hg, bd_bad] at q; exact q.elim
      | err c =>
        simp only [hg, bd_err] at q
        refine .inl ⟨ρ, F, rl, ?_⟩
        rw [hf]
        exact fun v F1 H1 x1 s1 w1 => ⟨ρ, F1, rl.grow x1 s1, by rw [hg]; exact Out.later q x1⟩
      | ok z =>
        simp only [hg, bd_ok] at q
        cases hq : dGet? d z with
        | none =>
          unfold dIxA at q
          rw [hq] at q
          refine .inl ⟨ρ, F, rl, ?_⟩
          rw [hf]
          intro v F1 H1 x1 s1 w1
          refine ⟨ρ, F1, rl.grow x1 s1, ?_⟩
          rw [hg]
          intro y F2 H2 x2 s2 w2
          exact ix_ok (Out.later (Out.later q x1) x2) s2 (w1.mono x2.f x2.h) w2
        | some oo =>
          unfold dIxA at q
          rw [hq] at q
          cases oo with
          | none => exact q.elim
          | some zz =>
            refine .inr ⟨ρ, F, rl, ?_⟩
            rw [hf]
            intro v F1 H1 x1 s1 w1
            refine ⟨ρ, F1, rl.grow x1 s1, ?_⟩
            rw [hg]
            intro y F2 H2 x2 s2 w2
            obtain ⟨aa, ov, e1, gg, hh⟩ := get_ok hq (w1.mono x2.f x2.h) w2
            rcases hh with ⟨z', v', e2, rfl, rr⟩ | ⟨e2, _⟩
            · cases e2
              exact ⟨aa, v', e1, gg, q v' F2 H2 (x1.trans x2) s2 rr⟩
            · cases e2)
end
end DL
namespace DL
open PySem PySem.Spec PyProof.Rows L2
section
variable {X : Cx} {C : Cd} {e a b c tg : Expr} {f g k : En → R D} {pos p apos cpos : Pos} {st : Stmt} {rest : List Stmt} {s1 s2 : En → R Fl} {K : Kx} {F H : Hp}
def dGet2 (d q x : D) : R D := match dGet? d q with
  | some o => .ok (o.getD x)
  | none => .bad
def isDD : D → Bool
  | .dK _ => true
  | .dT _ => true
  | _ => false
def sDrop (f : En → R D) : En → R Fl := fun ρ => bd (f ρ) fun _ => .ok (.next ρ)
def sAppend (i : Nat) (f : En → R D) : En → R Fl := fun ρ => match ρ[i]? with
  | some (some (true, .lst ds)) => bd (f ρ) fun z => grd (decide (ds.length < sizeLine)) (.ok (.next (ρ.set i (some (true, .lst (ds ++ [z]))))))
  | _ => .bad
theorem grd_post {T : Ends} {B : Hp} {c : Bool} {x : R Fl} (q : Post C T B (grd c x)) : c = true ∧ Post C T B x := by
  cases c with
  | true => exact ⟨rfl, q⟩
  | false => exact q.elim
theorem s_append {i : Nat} (ho : PE X a (tVar i)) (he : PE X e (tE C f))
    (hbase : attributeBase a "append" X.env (eval a X.env) = eval a X.env := by rfl)
    (hfew : ((backTo cpos (starEach [e] X.env)).all (fun x => !x.1) && (backToKw cpos (keywordEach [] X.env)).all (fun x => x.1.isSome)
      && decide (([e] : List Expr).length + ([] : List Keyword).length + (if ([] : List Keyword).isEmpty then 0 else 1) < 30)) = true := by rfl)
    (hline : (apos.endLine == cpos.line) = true := by rfl) (hs : starEach [e] X.env = (false, eval e X.env) :: starEach [] X.env := by rfl) (hplain : (backTo cpos (starEach [] X.env)).any (·.1) = false := by rfl)
    (hsw : swapsWith (.Call (.Attribute a "append" apos) [e] [] cpos) none pos.line X.env = pure false := by rfl) : PS X (.Expr (.Call (.Attribute a "append" apos) [e] [] cpos) pos) (tS C (sAppend i f)) :=
  (ps_expr (pe_bm PySem.F.plainAttrs_list PySem.F.slot_list_append PySem.F.type_list_append mt_append ho (pa_cons he pa_nil hs) hbase hfew hline hs hplain) hsw).mono fun T σ H ⟨ρ, F, r, q⟩ => by
    unfold sAppend at q
    split at q
    · rename_i ds hd
      obtain ⟨l, hl, n, n0, vs, h1, r1⟩ := r.own i _ hd
      refine ⟨_, hl, .inl ⟨rfl, _, SqL.of h1⟩, ρ, F, r, out_of r q fun z v F' H' _ q x s r' w => ?_⟩
      obtain ⟨hlen, q⟩ := grd_post q
      refine ⟨l, vs, v, rfl, rfl, x.h _ _ h1, by rw [r1.length]; exact of_decide_eq_true hlen, ?_⟩
      exact q σ F' _ (Same.refl _) (r'.write hd hl ⟨_, upd_same, (r1.mono x.f).append (.cons w .nil)⟩)
    · exact q.elim
def sExtend (i : Nat) (f : En → R D) : En → R Fl := fun ρ => match ρ[i]? with
  | some (some (true, .lst ds)) => bd (f ρ) fun z => match z with | .lst es => grd (small (ds.length + es.length)) (.ok (.next (ρ.set i (some (true, .lst (ds ++ es)))))) | _ => .bad
  | _ => .bad
def sOwn0 (i : Nat) (w : List D → List D) : En → R Fl := fun ρ => match ρ[i]? with
  | some (some (true, .lst ds)) => .ok (.next (ρ.set i (some (true, .lst (w ds)))))
  | _ => .bad
def putA (d q v : D) : R D := match d with
  | .lst ds => match q with
    | .int j => match ixN ds.length j with | some n => .ok (.lst (ds.set n v)) | none => .bad
    | _ => .bad
  | .dK kds => match keyD q with | some kk => grd (decide (kds.length < sizeLine)) (.ok (.dK (putD kds kk v))) | none => .bad
  | .dT kds => match keyT q with | some kk => grd (decide (kds.length < sizeLine)) (.ok (.dT (putD kds kk v))) | none => .bad
  | _ => .bad
def sPut (i : Nat) (f g : En → R D) : En → R Fl := fun ρ => match ρ[i]? with
  | some (some (true, d)) => bd (f ρ) fun v => bd (g ρ) fun q => bd (putA d q v) fun d' => .ok (.next (ρ.set i (some (true, d'))))
  | _ => .bad
theorem _root_.L2.PS.or {X : Cx} {e : Stmt} {t t' : TS} (h : PS X e t) (h' : PS X e t') : PS X e (fun T σ H => t T σ H ∨ t' T σ H) := ⟨fun pins s σ H D I q => by
  rcases q with q | q
  · exact h.run pins s σ H D I q
  · exact h'.run pins s σ H D I q⟩
theorem s_put {i : Nat} {pos' : Pos} (hu : X.A.units + 1 < cLine) (ho : PE X a (tVar i)) (hv : PE X e (tE C f)) (hi : PE X b (tR C g)) (hs : swapsWith e (some (.Subscript a b pos')) pos.line X.env = pure false := by rfl)
    (ha : ∀ v, assign (.Subscript a b pos') X.env v = (do
      let ov ← holding [v] (eval a X.env)
      let iv ← holding [v, ov] (eval b X.env)
      standAt pos'
      holding [v, ov, iv] (setItem ov iv v)
      release [v, ov, iv] []) := by intro _; rfl)
    (hs' : swapsWithSole [.Subscript a b pos'] e pos.line X.env = pure false := by rfl) (hw : swappedStores [.Subscript a b pos'] e X.env = pure none := by rfl)
    (h1 : (assignEach [.Subscript a b pos'] X.env).map (·.2) = [assign (.Subscript a b pos') X.env] := by rfl) : PS X (.Assign [.Subscript a b pos'] e pos) (tS C (sPut i f g)) :=
  (PS.or (ps_dput hu ho hi hv hs) (ps_asg hv (pg_sub ho hi set_list ha) hs' hw h1)).mono fun T σ H ⟨ρ, F, r, q⟩ => by
    unfold sPut at q
    split at q
    · rename_i d hd
      obtain ⟨l, hl, n, n0, o⟩ := r.own i d hd
      cases d with
      | lst ds =>
        refine .inr ⟨ρ, F, r, out_of r q fun v xv F1 H1 _ q x1 s1 r1 w1 => ?_⟩
        refine ⟨_, hl, ρ, F1, r1, out_of r1 q fun z xz F2 H2 _ q x2 s2 r2 w2 => ?_⟩
        obtain ⟨vs, h1, rr⟩ := o
        cases z with
        | int jj =>
          have q' : Post C T F2 (bd (match ixN ds.length jj with | some n => .ok (.lst (ds.set n v)) | none => .bad) fun d' => .ok (.next (ρ.set i (some (true, d'))))) := q
          cases hx : ixN ds.length jj with
          | none => rw [hx] at q'; exact q'.elim
          | some m =>
            rw [hx] at q'
            have x12 := x1.trans x2
            obtain rfl : xz = .int jj := w2
            refine ⟨l, vs, jj, m, rfl, rfl, x12.h _ _ h1, by rw [rr.length]; exact hx, ?_⟩
            exact q' σ F2 _ (Same.refl _) (r2.write hd hl ⟨_, upd_same, (rr.mono x12.f).set (w1.mono x2.f) _⟩)
        | _ => exact q.elim
      | dK kds =>
        refine .inl ⟨ρ, F, r, out_of r q fun v xv F1 H1 _ q x1 s1 r1 w1 => ?_⟩
        refine ⟨_, hl, ρ, F1, r1, out_of r1 q fun z xz F2 H2 _ q x2 s2 r2 w2 => ?_⟩
        obtain ⟨vs, h1, rr⟩ := o
        have q' : Post C T F2 (bd (match keyD z with | some kk => grd (decide (kds.length < sizeLine)) (.ok (.dK (putD kds kk v))) | none => .bad) fun d' => .ok (.next (ρ.set i (some (true, d'))))) := q
        cases hx : keyD z with
        | none => rw [hx] at q'; exact q'.elim
        | some kk =>
          rw [hx] at q'
          have x12 := x1.trans x2
          cases hlen : decide (kds.length < sizeLine) with
          | false => simp only [hlen, grd_f, bd_bad] at q'; exact q'.elim
          | true =>
            simp only [hlen, grd_t, bd_ok] at q'
            refine ⟨l, _, rfl, .inl ⟨vs, kk, x12.h _ _ h1, w2.key hx, by rw [rr.length]; exact of_decide_eq_true hlen, rfl⟩, ?_⟩
            exact q' σ F2 _ (Same.refl _) (r2.write hd hl ⟨_, upd_same, (rr.mono x12.f).put (w1.mono x2.f)⟩)
      | dT kds =>
        refine .inl ⟨ρ, F, r, out_of r q fun v xv F1 H1 _ q x1 s1 r1 w1 => ?_⟩
        refine ⟨_, hl, ρ, F1, r1, out_of r1 q fun z xz F2 H2 _ q x2 s2 r2 w2 => ?_⟩
        obtain ⟨vs, h1, rr⟩ := o
        have q' : Post C T F2 (bd (match keyT z with | some kk => grd (decide (kds.length < sizeLine)) (.ok (.dT (putD kds kk v))) | none => .bad) fun d' => .ok (.next (ρ.set i (some (true, d'))))) := q
        cases hx : keyT z with
        | none => rw [hx] at q'; exact q'.elim
        | some kk =>
          rw [hx] at q'
          have x12 := x1.trans x2
          cases hlen : decide (kds.length < sizeLine) with
          | false => simp only [hlen, grd_f, bd_bad] at q'; exact q'.elim
          | true =>
            simp only [hlen, grd_t, bd_ok] at q'
            obtain ⟨bb, e, hb⟩ := w2.keyT hx
            refine ⟨l, _, rfl, .inr ⟨vs, kk, bb, x12.h _ _ h1, e, hb, by rw [rr.length]; exact of_decide_eq_true hlen, rfl⟩, ?_⟩
            exact q' σ F2 _ (Same.refl _) (r2.write hd hl ⟨_, upd_same, (rr.mono x12.f).put (w1.mono x2.f)⟩)
      | rows rs =>
        refine .inl ⟨ρ, F, r, out_of r q fun v xv F1 H1 _ q x1 s1 r1 w1 => ?_⟩
        exact ⟨_, hl, ρ, F1, r1, out_of r1 q fun z xz F2 H2 _ q x2 s2 r2 w2 => q.elim⟩
      | deep d =>
        refine .inl ⟨ρ, F, r, out_of r q fun v xv F1 H1 _ q x1 s1 r1 w1 => ?_⟩
        exact ⟨_, hl, ρ, F1, r1, out_of r1 q fun z xz F2 H2 _ q x2 s2 r2 w2 => q.elim⟩
      | _ => exact o.elim
    · exact q.elim
def kyD : Key → D
  | .inl i => .int i
  | .inr z => .str z
theorem RepK.keys : ∀ {kds : List (Key × D)} {kvs : List (Key × V)}, RepK K F kds kvs → Reps K F (kds.map fun kv => kyD kv.1) (kvs.map fun kv => kV kv.1)
  | _, _, .nil => .nil
  | _, _, .cons (k := .inl i) _ t => .cons (.int i) (RepK.keys t)
  | _, _, .cons (k := .inr i) _ t => .cons (.str i) (RepK.keys t)
def dList : List D → R D
  | [.lst ds] => .ok (.lst ds)
  | [.tup ds] => .ok (.lst ds)
  | [.scr ns] => .ok (.lst (ns.map .int))
  | [.dK kvs] => .ok (.lst (kvs.map fun kv => kyD kv.1))
  | _ => .bad
def dTuple : List D → R D
  | [.lst ds] => .ok (.tup ds)
  | [.scr ns] => .ok (.tup (ns.map .int))
  | _ => .bad
def dStr : List D → R D
  | [.int i] => grd (decide (i.natAbs.log2 < 1920)) (.ok (.str (toString i)))
  | _ => .bad
theorem str_ok : OpL C (fun xs H Q => ∃ i, xs = [.int i] ∧ i.natAbs.log2 < 1920 ∧ Q (.str (toString i)) H) dStr := by
  intro σ F H Q ds vs o s w
  unfold dStr at o
  split at o
  · obtain ⟨z, o⟩ := grd_out o
    obtain ⟨v, rfl, h⟩ := w.one
    cases h
    exact ⟨_, rfl, of_decide_eq_true z, fin_flat o s rfl⟩
  · exact o.elim
def asInts : List D → Option (List Int)
  | [] => some []
  | .int i :: ds => (asInts ds).map (i :: ·)
  | _ :: _ => none
theorem asInts_map : ∀ ns : List Int, asInts (ns.map .int) = some ns
  | [] => rfl
  | n :: ns => by simp only [List.map_cons]; unfold asInts; rw [asInts_map ns]; rfl
theorem Reps.asInts : ∀ {ds : List D} {vs : List V} {ns : List Int}, Reps K F ds vs → DL.asInts ds = some ns → vs = ns.map V.int
  | _, _, _, .nil, h => by cases h; rfl
  | _, _, _, .cons (ds := ds) (.int i) t, h => by
    unfold DL.asInts at h
    cases h2 : DL.asInts ds with
    | none => rw [h2] at h; cases h
    | some ns => rw [h2] at h; cases h; rw [Reps.asInts t h2]; rfl
  | _, _, _, .cons .non t, h => by cases h
  | _, _, _, .cons (.bl _) t, h => by cases h
  | _, _, _, .cons (.str _) t, h => by cases h
  | _, _, _, .cons (.lst _ _) t, h => by cases h
  | _, _, _, .cons (.scr _) t, h => by cases h
  | _, _, _, .cons (.tup _ _) t, h => by cases h
  | _, _, _, .cons (.dK _ _) t, h => by cases h
  | _, _, _, .cons (.dT _ _) t, h => by cases h
  | _, _, _, .cons (.ref _) t, h => by cases h
def srt (ns : List Int) : List Int := ns.mergeSort (fun a b => decide (a ≤ b))
def asStrs : List D → Option (List Str)
  | [] => some []
  | .str i :: ds => (asStrs ds).map (i :: ·)
  | _ :: _ => none
theorem asStrs_map : ∀ ns : List Str, asStrs (ns.map .str) = some ns
  | [] => rfl
  | n :: ns => by simp only [List.map_cons]; unfold asStrs; rw [asStrs_map ns]; rfl
theorem Reps.asStrs : ∀ {ds : List D} {vs : List V} {ns : List Str}, Reps K F ds vs → DL.asStrs ds = some ns → vs = ns.map V.str
  | _, _, _, .nil, h => by cases h; rfl
  | _, _, _, .cons (ds := ds) (.str i) t, h => by
    unfold DL.asStrs at h
    cases h2 : DL.asStrs ds with
    | none => rw [h2] at h; cases h
    | some ns => rw [h2] at h; cases h; rw [Reps.asStrs t h2]; rfl
  | _, _, _, .cons .non t, h => by cases h
  | _, _, _, .cons (.bl _) t, h => by cases h
  | _, _, _, .cons (.int _) t, h => by cases h
  | _, _, _, .cons (.lst _ _) t, h => by cases h
  | _, _, _, .cons (.scr _) t, h => by cases h
  | _, _, _, .cons (.tup _ _) t, h => by cases h
  | _, _, _, .cons (.dK _ _) t, h => by cases h
  | _, _, _, .cons (.dT _ _) t, h => by cases h
  | _, _, _, .cons (.ref _) t, h => by cases h
def leT (a b : Str) : Bool := decide (a.cps.toList ≤ b.cps.toList)
def srtT (ns : List Str) : List Str := ns.mergeSort leT
def dSorted : List D → R D
  | [.lst ds] => match asInts ds with | some ns => .ok (.lst ((srt ns).map .int)) | none => match asStrs ds with | some ss => grd (decide (ss.length < 64)) (.ok (.lst ((srtT ss).map .str))) | none => .bad
  | [.tup ds] => .bad
  | [.scr ns] => .ok (.lst ((srt ns).map .int))
  | [.dK kvs] => match asInts (kvs.map fun kv => kyD kv.1) with | some ns => grd (decide (ns.length < 64)) (.ok (.lst ((srt ns).map .int))) | none => .bad
  | _ => .bad
end
end DL
namespace DL
open PySem PySem.Spec PyProof.Rows L2
section
variable {X : Cx} {C : Cd} {e a b c tg : Expr} {f g k : En → R D} {pos p apos cpos : Pos} {st : Stmt} {rest : List Stmt} {s1 s2 : En → R Fl} {K : Kx} {F H : Hp}
def tyN : D → String
  | .non => "NoneType"
  | .bl _ => "bool"
  | .int _ => "int"
  | .str _ => "str"
  | .lst _ => "list"
  | .tup _ => "tuple"
  | .dK _ => "dict"
  | .rows _ => "list"
  | _ => ""
def isB (T : String) (d : D) : Bool := tyN d == T || (T == "int" && tyN d == "bool")
def isiD (T : String) : D → R D
  | .dT _ => .bad
  | .scr _ => .bad
  | .ref _ => .bad
  | .exn _ => .bad
  | .deep _ => .bad
  | .obj _ => .bad
  | .junk _ => .bad
  | d => .ok (.bl (isB T d))
def kitAll (T : String) : Bool := ["NoneType", "bool", "int", "str", "list", "tuple", "dict"].all fun n => kitB n T == some (n == T || (T == "int" && n == "bool"))
theorem kitAll_of {T : String} (h : kitAll T = true) {n : String} (hn : n ∈ ["NoneType", "bool", "int", "str", "list", "tuple", "dict"]) : PySem.W.kitOne K (.type n) (.type T) = some (n == T || (T == "int" && n == "bool")) := by
  have := List.all_eq_true.mp h n hn
  exact kit_ty (by simpa using this)
theorem View.ty {d : D} {x : V} (w : View K F H d x) (h : tyN d ≠ "") : TyX K H x (.type (tyN d)) := by
  cases d with
  | non => cases w; exact .base .non
  | bl b => cases w; exact .base (.bl _)
  | int b => cases w; exact .base (.int _)
  | str b => cases w; exact .base (.str _)
  | lst ds => obtain ⟨p, vs, rfl, h, _⟩ := w; exact .base (.lst h)
  | tup ds => obtain ⟨p, vs, rfl, h, _⟩ := w; exact .base (.tup h)
  | dK ds =>
    obtain ⟨p, vs, rfl, h, _⟩ := w
    rcases h with h | ⟨o, h⟩
    · exact .base (.dK h)
    · exact .fDict h
  | rows ds => obtain ⟨p, vs, rfl, h, _⟩ := w; exact .base (.lst h)
  | _ => exact absurd rfl h
theorem d_isi {n : String} (hC : X.K = C.K.fr) (ha : PE X a (tR C f)) (hb : PE X b (tC (.ty n))) (hk : kitAll n = true) (hm : X.mg "isinstance" = none) (hg : Gl X "isinstance" := by rfl)
    (hs2 : starEach [b] X.env = (false, eval b X.env) :: starEach [] X.env := by rfl)
    (he : starEach [a, b] X.env = (false, eval a X.env) :: starEach [b] X.env := by rfl) (hpl : (backTo pos (starEach [b] X.env)).any (·.1) = false := by rfl) :
    PE X (.Call (.Name "isinstance" p) [a, b] [] pos) (tO C (uop f (isiD n))) :=
  (pe_callB call_isi hg hm (by decide +kernel) (pa_cons ha (pa_cons hb pa_nil hs2) he) (by decide) (by decide) he hpl).mono (by
    rintro σ H Q ⟨ρ, F, rl, q⟩
    refine ⟨ρ, F, rl, q.fst fun d v F1 H1 _ q x1 s1 w1 => ?_⟩
    have q := Out.later q x1
    rw [hC]
    have fin : isiD n d = .ok (.bl (isB n d)) → tyN d ∈ ["NoneType", "bool", "int", "str", "list", "tuple", "dict"] → rIsi C.K [v, .ty n] H1 Q := fun e hd => by
      rw [e] at q
      refine ⟨v, .ty n, _, _, _, rfl, .ty n, w1.ty (fun z => by rw [z] at hd; revert hd; decide), kitAll_of hk hd, fin_flat q s1 rfl⟩
    cases d with
    | non => exact fin rfl (by decide)
    | bl b => exact fin rfl (by show "bool" ∈ _; decide)
    | int b => exact fin rfl (by show "int" ∈ _; decide)
    | str b => exact fin rfl (by show "str" ∈ _; decide)
    | lst b => exact fin rfl (by show "list" ∈ _; decide)
    | tup b => exact fin rfl (by show "tuple" ∈ _; decide)
    | dK b => exact fin rfl (by show "dict" ∈ _; decide)
    | rows b => exact fin rfl (by show "list" ∈ _; decide)
    | _ => exact q.elim)
abbrev Den := List D → R (Bool × D)
def spD (K : PySem.W.Frag) (cls : Str → Addr) (n : Nat) (den : Den) : Sp := fun vs H Q E => vs.length = n ∧ ∃ (as : List Addr) (F : Hp) (ds : List D), Same F H ∧ Reps ⟨K, as⟩ F ds vs ∧ match den ds with
  | .ok (o, d) => ∀ v F' H', Ext F H F' H' → Same F' H' → (if o = true then New ⟨K, as⟩ H F' H' d v else Rep ⟨K, as⟩ F' d v) → Q v H'
  | .err c => ∀ F' H', Ext F H F' H' → Same F' H' → E (.ref (cls c)) none H'
  | .bad => False
def args (N : Nat) (ds : List D) : En := ds.map (fun d => some (false, d)) ++ List.replicate (N - ds.length) none
def endD : R Fl → R (Bool × D)
  | .ok (.next _) => .ok (false, .non)
  | .ok (.ret o d) => .ok (o, d)
  | .ok _ => .bad
  | .err c => .err c
  | .bad => .bad
def bodyD (n N : Nat) (g : En → R Fl) : Den := fun ds => if ds.length = n then endD (g (args N ds)) else .bad
def noE {α : Type} : R α → R α
  | .err _ => .bad
  | x => x
def bodyN (n N : Nat) (g : En → R Fl) : Den := fun ds => if ds.length = n then endD (noE (g (args N ds))) else .bad
theorem bodyD_len {n N : Nat} {g : En → R Fl} : ∀ ds, bodyD n N g ds ≠ .bad → ds.length = n := fun ds h => by
  unfold bodyD at h
  split at h
  · assumption
  · exact absurd rfl h
theorem bodyN_len {n N : Nat} {g : En → R Fl} : ∀ ds, bodyN n N g ds ≠ .bad → ds.length = n := fun ds h => by
  unfold bodyN at h
  split at h
  · assumption
  · exact absurd rfl h
theorem args_rel {K : Kx} {F H : Hp} {N : List Str} {ds : List D} {vs : List V} {XW : Str → L2.St → Hp → Prop} (s : Same F H) (r : Reps K F ds vs) : Rel ⟨K, F, H, XW, fun _ => none, [], []⟩ (args N.length ds) (L2.start N vs) F H where
  wok := .nil
  lend := fun _ _ _ h => nomatch h
  ext := Ext.refl _ _
  sub := s
  len := by
    unfold args L2.start
    simp only [List.length_append, List.length_map, List.length_replicate, r.length]
  slot := fun i d h => by
    unfold args at h
    unfold L2.start
    by_cases hi : i < ds.length
    · rw [List.getElem?_append_left (by rw [List.length_map]; exact hi), List.getElem?_map] at h
      cases hd : ds[i]? with
      | none => rw [hd] at h; cases h
      | some d' =>
        rw [hd] at h
        cases h
        obtain ⟨v, hv, w⟩ := r.get hd
        refine ⟨v, ?_, w⟩
        rw [List.getElem?_append_left (by rw [List.length_map, r.length]; exact hi), List.getElem?_map, hv]
        rfl
    · rw [List.getElem?_append_right (by rw [List.length_map]; omega), List.getElem?_replicate] at h
      split at h <;> cases h
  ownF := fun i d h => by
    unfold args at h
    by_cases hi : i < ds.length
    · rw [List.getElem?_append_left (by rw [List.length_map]; exact hi), List.getElem?_map] at h
      cases hd : ds[i]? with
      | none => rw [hd] at h; cases h
      | some d' => rw [hd] at h; cases h
    · rw [List.getElem?_append_right (by rw [List.length_map]; omega), List.getElem?_replicate] at h
      split at h <;> cases h
  apartF := fun i j d e a b c h => by
    unfold args at h
    by_cases hi : i < ds.length
    · rw [List.getElem?_append_left (by rw [List.length_map]; exact hi), List.getElem?_map] at h
      cases hd : ds[i]? with
      | none => rw [hd] at h; cases h
      | some d' => rw [hd] at h; cases h
    · rw [List.getElem?_append_right (by rw [List.length_map]; omega), List.getElem?_replicate] at h
      split at h <;> cases h
theorem ok_def {K : PySem.W.Frag} {P : Program} {w : World} {mg : Str → Option Value} {base : Heap} {x qual : Str} {fs : Stmt} {fa : Addr} {fd : FuncData} {N ps : List Str} {k : Nat} {cls : Str → Addr} {g : En → R Fl} (Fn : Fun K x qual fs fa fd) (S : FnScope N ps (defScope fs))
    (hb : ∀ (cdv : Value) (A : Around) (outer : List Env) (s : Shared) (H : Hp) (E : XK) (F0 : Hp) (as : List Addr), Room k (A.deeper (envOfC qual (defScope fs) s.heap.objs.size fa cdv)) → PSs (cxOf CX0 P w K mg base N qual (defScope fs) fa cdv A outer s H E).nox (defBody fs) (tS ⟨⟨K, as⟩, F0, H, fun _ _ _ => False, fun _ => none, [], []⟩ g)) :
    FnOk P w K mg base CX0 (k + 1) fa fd ps (spD K cls ps.length (bodyN ps.length N.length g)) := by
  refine Fn.ok S (fun vs H Q E h => h.1) (fun cdv A outer s H vs Q E hr h => ?_)
  obtain ⟨hl, as, F, ds, sf, r, q⟩ := h
  refine ⟨_, hb cdv A outer s H E F as hr, args N.length ds, F, args_rel sf r, ?_⟩
  unfold bodyN at q
  rw [if_pos (by rw [← r.length]; exact hl)] at q
  cases hgg : g (args N.length ds) with
  | bad => rw [hgg] at q; exact q.elim
  | err c => rw [hgg] at q; exact q.elim
  | ok fl =>
    rw [hgg] at q
    cases fl with
    | next ρ' => exact fun σ' F' H' s' r' => q .non F' H' r'.ext r'.sub .non
    | ret o d => exact fun v F' H' x s' w => q v F' H' x s' (RetV.of rfl w)
    | brk ρ' => exact q.elim
    | cont ρ' => exact q.elim
theorem ok_bad {K : PySem.W.Frag} {P : Program} {w : World} {mg : Str → Option Value} {base : Heap} {fa : Addr} {fd : FuncData} {ps : List Str} {k n : Nat} {cls : Str → Addr} {CX : CXT} (h : ps.length = n) : FnOk P w K mg base CX k fa fd ps (spD K cls n (fun _ => .bad)) :=
  ⟨fun vs H Q E h' => h'.1.trans h.symm, fun A outer s H args us vs Q E _ _ _ _ h' => by
    obtain ⟨_, _, _, _, _, _, q⟩ := h'
    exact q.elim⟩
def callE (den : Den) (ds : List D) : R D := bd (den ds) fun z => .ok z.2
def callO (den : Den) (ds : List D) : R D := bd (den ds) fun z => grd (z.1 || !isC z.2) (.ok z.2)
section
variable {kk : Nat} {fa : Addr} {fd : FuncData} {ps : List Str} {x : Str} {es : List Expr} {fs : En → R (List D)} {cls : Str → Addr} {n : Nat} {den : Den} {CX : CXT} {E : XK}
theorem callE_ok (hXW : ∀ c σ H, C.XW c σ H → E (.ref (cls c)) none H) (hn : ∀ ds, den ds ≠ .bad → ds.length = n) : ∀ σ H Q, tE C (fun ρ => bd (fs ρ) (callE den)) σ H Q → tCall (spD C.K.fr cls n den) [] E (tA C fs) σ H Q := by
  rintro σ H Q ⟨ρ, F, r, q⟩
  refine out_args r q fun ds vs F' H' hd q x s rp => ?_
  unfold callE at q
  have hnb : den ds ≠ .bad := fun z => by rw [z] at q; exact q
  refine ⟨by rw [List.append_nil, rp.length]; exact hn ds hnb, C.K.as, F', ds, s, by rw [List.append_nil]; exact rp, ?_⟩
  cases hden : den ds with
  | bad => exact hnb hden
  | err c => rw [hden] at q; exact fun F2 H2 x2 s2 => hXW c σ H2 (q F2 H2 x2 s2)
  | ok z =>
    rw [hden] at q
    obtain ⟨o, d⟩ := z
    intro v F2 H2 x2 s2 w
    cases o with
    | false => exact q v F2 H2 x2 s2 (by simpa using w)
    | true =>
      have w' : New C.K H' F2 H2 d v := by simpa using w
      obtain ⟨F3, x3, _, s3, w3⟩ := w'.rep s2 x2
      exact q v F3 H2 x3 s3 w3
theorem callO_ok (hXW : ∀ c σ H, C.XW c σ H → E (.ref (cls c)) none H) (hn : ∀ ds, den ds ≠ .bad → ds.length = n) : ∀ σ H Q, tO C (fun ρ => bd (fs ρ) (callO den)) σ H Q → tCall (spD C.K.fr cls n den) [] E (tA C fs) σ H Q := by
  rintro σ H Q ⟨ρ, F, r, q⟩
  refine out_args r q fun ds vs F' H' hd q x s rp => ?_
  unfold callO at q
  have hnb : den ds ≠ .bad := fun z => by rw [z] at q; exact q
  refine ⟨by rw [List.append_nil, rp.length]; exact hn ds hnb, C.K.as, F', ds, s, by rw [List.append_nil]; exact rp, ?_⟩
  cases hden : den ds with
  | bad => exact hnb hden
  | err c => rw [hden] at q; exact fun F2 H2 x2 s2 => hXW c σ H2 (q F2 H2 x2 s2)
  | ok z =>
    rw [hden] at q
    obtain ⟨o, d⟩ := z
    intro v F2 H2 x2 s2 w
    have q' : Out C σ F' H' (fun F' H' => New C.K H F' H') (grd (o || !isC d) (.ok d)) Q := q
    obtain ⟨ho, q2⟩ := grd_out q'
    cases o with
    | false => exact q2 v F2 H2 x2 s2 (New.of_rep (by simpa using ho) (by simpa using w))
    | true => exact q2 v F2 H2 x2 s2 (New.later x.h (by simpa using w))
theorem d_callE (Fo : FnOk X.prog X.w X.K X.mg X.base CX kk fa fd ps (spD C.K.fr cls n den)) (hn : ∀ ds, den ds ≠ .bad → ds.length = n) (hr : Room kk X.A) (hm : X.mg x = some (.ref fa)) (hk : PySem.W.keepIn X.K (.ref fa) = true) (hb : Binds X.K fd ps []) (hx : Passes CX X E) (hXW : ∀ c σ H, C.XW c σ H → E (.ref (cls c)) none H)
    (ha : PA X (e :: es) (tA C fs)) (hg : Gl X x := by rfl) (hdb : (x == ("__debug__" : Str)) = false := by decide) (he : starEach (e :: es) X.env = (false, eval e X.env) :: starEach es X.env := by rfl) (hpl : (backTo pos (starEach es X.env)).any (·.1) = false := by rfl) :
    PE X (.Call (.Name x p) (e :: es) [] pos) (tE C (nop fs (callE den))) := (pe_call Fo hr hg hm hk hb .nil hx ha hdb he hpl).mono (callE_ok hXW hn)
theorem d_callO (Fo : FnOk X.prog X.w X.K X.mg X.base CX kk fa fd ps (spD C.K.fr cls n den)) (hn : ∀ ds, den ds ≠ .bad → ds.length = n) (hr : Room kk X.A) (hm : X.mg x = some (.ref fa)) (hk : PySem.W.keepIn X.K (.ref fa) = true) (hb : Binds X.K fd ps []) (hx : Passes CX X E) (hXW : ∀ c σ H, C.XW c σ H → E (.ref (cls c)) none H)
    (ha : PA X (e :: es) (tA C fs)) (hg : Gl X x := by rfl) (hdb : (x == ("__debug__" : Str)) = false := by decide) (he : starEach (e :: es) X.env = (false, eval e X.env) :: starEach es X.env := by rfl) (hpl : (backTo pos (starEach es X.env)).any (·.1) = false := by rfl) :
    PE X (.Call (.Name x p) (e :: es) [] pos) (tO C (nop fs (callO den))) := (pe_call Fo hr hg hm hk hb .nil hx ha hdb he hpl).mono (callO_ok hXW hn)
end
def spLaw (K : PySem.W.Frag) : Sp := fun vs H Q _ => ∃ (a : Addr) (ns : List Int), vs = [.ref a] ∧ SqL K H a (ns.map V.int) ∧ ns.length ≤ 63 ∧ ∀ H', Q (.bl true) H'
theorem law_end {K : PySem.W.Frag} {P : Program} {w : World} {mg : Str → Option Value} {base : Heap} {kk : Nat} {fa : Addr} {fd : FuncData} {cls : Str → Addr} {den : Den} (Fo : FnOk P w K mg base CX0 kk fa fd ["script"] (spD K cls 1 den))
    (h : ∀ ns : List Int, ns.length ≤ 63 → ∃ o, den [.scr ns] = .ok (o, .bl true)) : FnOk P w K mg base CX0 kk fa fd ["script"] (spLaw K) := Fo.imp fun vs H Q E hs => by
  obtain ⟨a, ns, rfl, hS, hl, q⟩ := hs
  obtain ⟨o, ho⟩ := h ns hl
  refine ⟨rfl, [], fun b => if b = a then H a else none, [.scr ns], fun b u e => ?_, .cons (.scr ?_) .nil, ?_⟩
  · dsimp only at e
    split at e
    · rename_i hb; rw [hb]; exact e
    · cases e
  · rcases hS with (h1 | ⟨ob, h1⟩) | h1
    · exact .inl (.inl (by simp only [if_true]; exact h1))
    · exact .inl (.inr ⟨ob, by simp only [if_true]; exact h1⟩)
    · exact .inr h1
  · rw [ho]
    intro v F' H' x s w
    have e : v = .bl true := by
      split at w
      · unfold New at w
        have w' : Rep ⟨K, []⟩ F' (.bl true) v := w
        cases w'; rfl
      · cases w; rfl
    rw [e]
    exact q H'
end
end DL
namespace DL
open PySem PySem.Spec PyProof.Rows L2
def addrAt (vs : List V) (i : Nat) : Addr := match vs[i]? with
  | some (.ref a) => a
  | _ => 0
def ioAs (io : List Nat) (vs : List V) : List Addr := io.map (addrAt vs)
theorem Views.length {K : Kx} {F H : Hp} : ∀ {ds : List D} {vs : List V}, Views K F H ds vs → vs.length = ds.length
  | _, _, .nil => rfl
  | _, _, .cons _ t => congrArg (· + 1) (Views.length t)
theorem Views.get {K : Kx} {F H : Hp} : ∀ {ds : List D} {vs : List V} {i : Nat} {d : D}, Views K F H ds vs → ds[i]? = some d → ∃ v, vs[i]? = some v ∧ View K F H d v
  | _, _, 0, _, .cons r _, h => by cases h; exact ⟨_, rfl, r⟩
  | _, _, i + 1, _, .cons _ t, h => Views.get (i := i) t h
section
variable {X : Cx} {C : Cd} {e : Expr} {es : List Expr} {fs : En → R (List D)} {pos p : Pos} {kk n : Nat} {fa : Addr} {fd : FuncData} {ps : List Str} {x : Str} {cls : Str → Addr} {den : Den} {CX : CXT} {E : XK}
def rdL (ds : List D) (i : Nat) : En → R D := fun _ => match ds[i]? with
  | some d => .ok d
  | none => .bad
def flatB (d : D) : Bool := (flatD d).isSome
def rdF (ds : List D) (i : Nat) : En → R D := fun _ => match ds[i]? with
  | some d => grd (flatB d) (.ok d)
  | none => .bad
theorem View.flat {K : Kx} {F H : Hp} {d : D} {v : V} (h : flatB d = true) (w : View K F H d v) : Rep K F d v := by
  cases d with
  | non => cases w; exact .non
  | bl b => cases w; exact .bl b
  | int b => cases w; exact .int b
  | str b => cases w; exact .str b
  | _ => cases h
end
end DL
namespace DL
open PySem PySem.Spec PyProof.Rows L2
def tst (f : En → R D) : En → R Bool := fun ρ => bd (f ρ) asB
section
variable {X : Cx} {C : Cd} {e a b c tg : Expr} {f g k : En → R D} {pos p apos cpos : Pos} {st : Stmt} {rest : List Stmt} {s1 s2 : En → R Fl} {K : Kx} {F H : Hp} {kk : Nat}
def flatO (d : D) : R D := grd (!isC d) (.ok d)
theorem o_of_e (h : PE X e (tE C f)) : PE X e (tO C (uop f flatO)) := h.mono fun σ H Q ⟨ρ, F, r, q⟩ => ⟨ρ, F, r, q.fst fun d v F' H' _ q x s w => by
  obtain ⟨z, q⟩ := grd_out q
  exact q v F' H' x s (New.of_rep (by simpa using z) w)⟩
theorem eu (hr : Room kk X.A) : X.A.units + 64 < cLine := hr.units
theorem eu65 (hr : Room kk X.A) : X.A.units + 65 < cLine := by have := hr.un; omega
theorem eu1 (hr : Room kk X.A) : X.A.units + 1 < cLine := by have := hr.un; omega
theorem d_eq (hC : X.K = C.K.fr) (hr : Room kk X.A) (ha : PE X a (tR C f)) (hb : PE X b (tR C g)) : PE X (.Compare a [.Eq] [b] pos) (tO C (bop f g (dEq false))) := d_cmp (OpR.or op_eq (hC ▸ op_eqD (eu hr))) rEq_ok (nomark _) ha hb
theorem d_in (hC : X.K = C.K.fr) (hr : Room kk X.A) (ha : PE X a (tR C f)) (hb : PE X b (tR C g)) (hm : behindInMarks .In b = false := by rfl) : PE X (.Compare a [.In] [b] pos) (tO C (bop f g (dIn false))) := d_cmp (hC ▸ op_inAll (eu65 hr)) (in_ok false) hm ha hb
theorem dt_eq (hC : X.K = C.K.fr) (hr : Room kk X.A) (ha : PE X a (tR C f)) (hb : PE X b (tR C g)) : PT X (.Compare a [.Eq] [b] pos) (tT C (tst (bop f g (dEq false)))) := dt_cmp (OpR.or op_eq (hC ▸ op_eqD (eu hr))) rEq_ok (nomark _) ha hb
theorem dt_ne (hC : X.K = C.K.fr) (hr : Room kk X.A) (ha : PE X a (tR C f)) (hb : PE X b (tR C g)) : PT X (.Compare a [.NotEq] [b] pos) (tT C (tst (bop f g (dEq true)))) := dt_cmp (OpR.or op_ne (hC ▸ op_neD (eu hr))) rNe_ok (nomark _) ha hb
theorem dt_lt (ha : PE X a (tR C f)) (hb : PE X b (tR C g)) : PT X (.Compare a [.Lt] [b] pos) (tT C (tst (bop f g dLt))) := dt_cmp (OpR.or op_lt op_lt_str) rLt_ok (nomark _) ha hb
theorem dt_gt (ha : PE X a (tR C f)) (hb : PE X b (tR C g)) : PT X (.Compare a [.Gt] [b] pos) (tT C (tst (bop f g dGt))) := dt_cmp (OpR.or op_gt op_gt_str) rGt_ok (nomark _) ha hb
theorem dt_in (hC : X.K = C.K.fr) (hr : Room kk X.A) (ha : PE X a (tR C f)) (hb : PE X b (tR C g)) (hm : behindInMarks .In b = false := by rfl) : PT X (.Compare a [.In] [b] pos) (tT C (tst (bop f g (dIn false)))) := dt_cmp (hC ▸ op_inAll (eu65 hr)) (in_ok false) hm ha hb
theorem dt_notin (hC : X.K = C.K.fr) (hr : Room kk X.A) (ha : PE X a (tR C f)) (hb : PE X b (tR C g)) (hm : behindInMarks .NotIn b = false := by rfl) : PT X (.Compare a [.NotIn] [b] pos) (tT C (tst (bop f g (dIn true)))) := dt_cmp (hC ▸ op_notInAll (eu65 hr)) (in_ok true) hm ha hb
theorem dt_chain {op op' : CmpOp} {r r' : R2} {w w' : D → D → R D} (ho : OpR X (compareOp op) r) (ho' : OpR X (compareOp op') r') (hr : Op2 C r w) (hr' : Op2 C r' w') (ha : PE X a (tR C f)) (hb : PE X b (tR C g)) (hc : PE X c (tR C k))
    (hm : lastMarks [op, op'] [b, c] = false := by with_unfolding_all rfl) : PT X (.Compare a [op, op'] [b, c] pos) (tT C (tst (eChain w w' f g k))) :=
  (pt_chain ho ho' ha hb hc hm).mono fun σ H Q h => chain_ok hr hr' σ H _ (t_to_o h)
theorem dt_val (ha : PE X a (tO C f)) (he : ∀ whole, isTrue a X.env whole = (do let v ← whole; standAt a.pos; holding [v] (truthy v)) := by intro _; rfl) : PT X a (tT C (tst f)) := dt_truth ha he
theorem _root_.L2.PG.or {X : Cx} {e : Expr} {t t' : TG} (h : PG X e t) (h' : PG X e t') : PG X e (fun v σ H Q => t v σ H Q ∨ t' v σ H Q) := ⟨fun pins s σ H v u Q I r q => by
  rcases q with q | q
  · exact h.run pins s σ H v u Q I r q
  · exact h'.run pins s σ H v u Q I r q⟩
def gSeqD (n : Nat) (gs : List D → En → Option En) : D → En → Option En := fun d ρ => match d with
  | .tup ds => if ds.length = n then gs ds ρ else none
  | .lst ds => if ds.length = n then gs ds ρ else none
  | _ => none
theorem g_seq {own : List Nat} {es : List Expr} {k n : Nat} {gs : List D → En → Option En} (hc : X.calm = true) (h : PGs X es (tGs C own gs)) (hn : (assignEach es X.env).length = n := by rfl) (hst : (assignEach es X.env).findIdx? (·.1) = none := by rfl) :
    PG X (.Tuple es k pos) (tG C own (gSeqD n gs)) := (PG.or (g_tup hc h hn hst) (g_lst hc h hn hst)).mono fun v σ H Q ⟨ρ, F, d, r, w, q⟩ => by
  cases d with
  | tup ds => exact .inl ⟨ρ, F, _, r, w, q⟩
  | lst ds => exact .inr ⟨ρ, F, _, r, w, q⟩
  | _ => exact q.elim
theorem d_len {es : List Expr} {fs : En → R (List D)} (hC : X.K = C.K.fr) (hm : X.mg "len" = none) (ha : PA X (e :: es) (tV C fs)) (hg : Gl X "len" := by rfl)
    (he : starEach (e :: es) X.env = (false, eval e X.env) :: starEach es X.env := by rfl) (hpl : (backTo pos (starEach es X.env)).any (·.1) = false := by rfl) : PE X (.Call (.Name "len" p) (e :: es) [] pos) (tO C (nop fs dLen)) :=
  d_callB (CallR.or (hC ▸ call_len) (by
    intro pins s σ H xs us Q I r h
    obtain ⟨a, kvs, rfl, h, q⟩ := h
    obtain ⟨u, rfl, ru⟩ := vals1 r
    cases ru
    exact L2.d_len I h fun t s' I' => ⟨.int kvs.length, H, I', ⟨t, rfl⟩, q⟩)) len_ok hm PySem.boot_len ha hg (by decide) (by decide) he hpl
theorem d_str {es : List Expr} {fs : En → R (List D)} (hm : X.mg "str" = none) (ha : PA X (e :: es) (tV C fs)) (hg : Gl X "str" := by rfl)
    (he : starEach (e :: es) X.env = (false, eval e X.env) :: starEach es X.env := by rfl) (hpl : (backTo pos (starEach es X.env)).any (·.1) = false := by rfl) : PE X (.Call (.Name "str" p) (e :: es) [] pos) (tO C (nop fs dStr)) :=
  d_callTy call_str_int str_ok hm (by decide +kernel) ha hg (by decide) (by decide) he hpl
theorem ty_of {x : Str} {n : String} (hm : X.mg x = none) (hv : bootBuiltins x = some (.type n)) (hg : Gl X x := by rfl) (hn : x ≠ "__name__" := by decide) (hdb : (x == ("__debug__" : Str)) = false := by decide) : PE X (.Name x pos) (tC (.ty n)) := pe_bltn hg hm hv rfl hn hdb
theorem s_toC {i : Nat} (h : PS X st (tS C (sSetO i f))) : PS X st (tS C (sSet i f)) := h.mono fun T σ H ⟨ρ, F, r, q⟩ => by
  refine ⟨ρ, F, r, ?_⟩
  unfold sSetO
  unfold sSet at q
  cases hf : f ρ with
  | bad => rw [hf] at q; exact q
  | err c => rw [hf] at q; exact q
  | ok d =>
    rw [hf] at q
    intro σ' F' H' s r'
    cases hd : isC d with
    | false => rw [hd] at r'; exact q σ' F' H' s r'
    | true =>
      rw [hd] at r'
      by_cases hi : i < ρ.length
      · have e : (ρ.set i (some (true, d)))[i]? = some (some (true, d)) := by rw [List.getElem?_set_self hi]
        obtain ⟨F2, s2, r2⟩ := r'.settle1 e
        rw [List.set_set] at r2
        exact q σ' F2 H' (s.trans s2) r2
      · have e1 : ρ.set i (some (true, d)) = ρ := List.set_eq_of_length_le (by omega)
        have e2 : ρ.set i (some (false, d)) = ρ := List.set_eq_of_length_le (by omega)
        rw [e1] at r'
        exact q σ' F' H' s (by rw [e2]; exact r')
def get2 (f g k : En → R D) : En → R D := fun ρ => bd (f ρ) fun d => grd (isDD d) (bd (g ρ) fun q => bd (k ρ) fun x => dGet2 d q x)
theorem c_globI {x : Str} {i : Int} {t : Tok} (hm : X.mg x = some (.int i t)) (hg : Gl X x := by rfl) (hdb : (x == ("__debug__" : Str)) = false := by decide) : PE X (.Name x pos) (tO C (cst (.int i))) := c_glob (v := .int i) hm ⟨t, rfl⟩ rfl hg hdb
theorem c_globS {x : Str} {i : Str} {t : Tok} (hm : X.mg x = some (.str i t)) (hg : Gl X x := by rfl) (hdb : (x == ("__debug__" : Str)) = false := by decide) : PE X (.Name x pos) (tO C (cst (.str i))) := c_glob (v := .str i) hm ⟨t, rfl⟩ rfl hg hdb
end
end DL
namespace DL
open PySem PySem.Spec PyProof.Rows L2
section
variable {P : Program} {w : World} {A : Around} {E : Value → Shared → Prop} {s : Shared}
end
section
variable {X : Cx} {C : Cd} {e a b c tg : Expr} {f g k : En → R D} {pos p p2 q apos cpos : Pos} {K : Kx} {F H : Hp} {kk : Nat}
def uniq (ns : List Int) : List Int := ns.foldl (fun l n => if n ∈ l then l else l ++ [n]) []
end
end DL
namespace DL
open PySem PySem.Spec PyProof.Rows L2
section
variable {X : Cx} {C : Cd} {e a b c tg : Expr} {f g k : En → R D} {pos p p2 q apos cpos tpos : Pos} {K : Kx} {F H B : Hp} {kk : Nat} {es : List Expr} {fs : En → R (List D)}
def enumD (ds : List D) : List D := ds.mapIdx fun i d => D.tup [.int (i : Nat), d]
def zipD (as bs : List D) : List D := List.zipWith (fun a b => D.tup [a, b]) as bs
def itEnum : List D → R (List D)
  | [.lst ds] => .ok (enumD ds)
  | [.scr ns] => .ok (enumD (ns.map .int))
  | _ => .bad
def itZip : List D → R (List D)
  | [.lst ds, .lst es] => .ok (zipD ds es)
  | [.scr ns, .lst es] => .ok (zipD (ns.map .int) es)
  | [.lst ds, .scr ns] => .ok (zipD ds (ns.map .int))
  | _ => .bad
def itRev : List D → R (List D)
  | [.lst ds] => .ok ds.reverse
  | [.scr ns] => .ok (ns.map D.int).reverse
  | _ => .bad
theorem Reps.one {d : D} {vs : List V} (w : Reps K F [d] vs) : ∃ v, vs = [v] ∧ Rep K F d v := by
  cases w with
  | cons r t => cases t; exact ⟨_, rfl, r⟩
theorem Reps.two {d e : D} {vs : List V} (w : Reps K F [d, e] vs) : ∃ v u, vs = [v, u] ∧ Rep K F d v ∧ Rep K F e u := by
  cases w with
  | cons r t =>
    obtain ⟨u, rfl, q⟩ := Reps.one t
    exact ⟨_, u, rfl, r, q⟩
def dMax : List D → R D
  | [.int i, .int j] => .ok (.int (if j > i then j else i))
  | _ => .bad
def dMin : List D → R D
  | [.int i, .int j] => .ok (.int (if j < i then j else i))
  | _ => .bad
def dSum : List D → R D
  | [.lst ds] => match asInts ds with | some ns => .ok (.int ns.sum) | none => .bad
  | _ => .bad
def idxF (x : D) : List D → Nat → Option Nat
  | [], _ => none
  | y :: ys, n => if eqF y x = true then some n else idxF x ys (n + 1)
theorem idxF_ok {x : D} : ∀ {ys : List D} {n j : Nat}, idxF x ys n = some j → ∃ m z, j = n + m ∧ ys[m]? = some z ∧ eqF z x = true ∧ ∀ i z, i < m → ys[i]? = some z → eqF z x = false
  | [], _, _, h => by cases h
  | y :: ys, n, j, h => by
    unfold idxF at h
    split at h
    · rename_i hy
      cases h
      exact ⟨0, y, rfl, rfl, hy, fun i z hi => absurd hi (Nat.not_lt_zero _)⟩
    · rename_i hy
      obtain ⟨m, z, rfl, h2, h3, h4⟩ := idxF_ok h
      refine ⟨m + 1, z, by omega, by simpa using h2, h3, fun i u hi hu => ?_⟩
      cases i with
      | zero => cases hu; simpa using hy
      | succ i => exact h4 i u (by omega) (by simpa using hu)
def dIndex : D → D → R D
  | .lst ds, x => grd (isFlat x && ds.all isFlat) (match idxF x ds 0 with | some j => .ok (.int (j : Nat)) | none => .bad)
  | _, _ => .bad
def idx (f g : En → R D) : En → R D := fun ρ => bd (f ρ) fun d => match d with | .lst ds => bd (g ρ) fun e => dIndex (.lst ds) e | _ => .bad
theorem d_index (hC : X.K = C.K.fr) (ha : PE X a (tR C f)) (hb : PE X b (tR C g)) (hbase : attributeBase a "index" X.env (eval a X.env) = eval a X.env := by rfl)
    (hfew : ((backTo cpos (starEach [b] X.env)).all (fun x => !x.1) && (backToKw cpos (keywordEach [] X.env)).all (fun x => x.1.isSome)
      && decide (([b] : List Expr).length + ([] : List Keyword).length + (if ([] : List Keyword).isEmpty then 0 else 1) < 30)) = true := by rfl)
    (hline : (apos.endLine == cpos.line) = true := by rfl) (hs : starEach [b] X.env = (false, eval b X.env) :: starEach [] X.env := by rfl) (hplain : (backTo cpos (starEach [] X.env)).any (·.1) = false := by rfl) :
    PE X (.Call (.Attribute a "index" apos) [b] [] cpos) (tO C (idx f g)) :=
  (pe_bm PySem.F.plainAttrs_list PySem.F.slot_list_index PySem.F.type_list_index mt_index ha (pa_cons hb pa_nil hs) hbase hfew hline hs hplain).mono (by
    rintro σ H Q ⟨ρ, F, rl, o⟩
    rw [hC]
    refine ⟨ρ, F, rl, o.fst fun d v F1 H1 _ o x1 s1 w1 => ?_⟩
    cases d with
    | lst ds =>
      have o := Out.later o x1
      obtain ⟨l, vs, rfl, h1, r1⟩ := w1
      refine ⟨.inl ⟨rfl, _, SqL.of h1⟩, ρ, F1, rl.grow x1 s1, o.fst fun z y F2 H2 _ o x2 s2 w2 => ?_⟩
      have o := Out.later o x2
      obtain ⟨hf, o⟩ := grd_out o
      rw [Bool.and_eq_true] at hf
      have o' : Out C σ F2 H2 (fun F' H' => New C.K H F' H') (match idxF z ds 0 with | some j => .ok (.int (j : Nat)) | none => .bad) Q := o
      have r2 := r1.mono x2.f
      cases hj : idxF z ds 0 with
      | none => rw [hj] at o'; exact o'.elim
      | some j =>
        rw [hj] at o'
        obtain ⟨m, zz, e, e1, e2, e3⟩ := idxF_ok hj
        rw [Nat.zero_add] at e
        subst e
        obtain ⟨u, hu, wu⟩ := r2.get e1
        have wz := w2.rep hf.1
        have fl : ∀ d ∈ ds, isFlat d = true := fun d hd => List.all_eq_true.mp hf.2 d hd
        refine ⟨l, vs, y, j, u, rfl, rfl, SqL.of (x2.h _ _ h1), wz.flatV hf.1, r2.flats hf.2, hu, ?_, fun i u' hi hu' => ?_, fin_flat o' s2 rfl⟩
        · rw [← wu.eqF wz (fl _ (List.mem_of_getElem? e1)) hf.1]; exact e2
        · obtain ⟨d', hd', wd'⟩ := r2.get' hu'
          rw [← wd'.eqF wz (fl _ (List.mem_of_getElem? hd')) hf.1]
          exact e3 i d' hi hd'
    | _ => exact o.elim)
end
end DL
namespace DL
open PySem PySem.Spec PyProof.Rows L2
section
variable {prog : Program} {w : World} {A : Around} {E : Value → Shared → Prop} {s : Shared}
end
def maxI : List Int → Int → Int
  | [], d => d
  | n :: ns, _ => ns.foldl max n
section
variable {X : Cx} {C : Cd} {e a b c tg : Expr} {f g k : En → R D} {pos p p1 p2 p3 q apos cpos kpos : Pos} {K : Kx} {F H B : Hp} {kk : Nat} {es : List Expr} {fs : En → R (List D)}
def dRevS : D → R D
  | .lst ds => .ok (.lst ds.reverse)
  | .scr ns => .ok (.lst (ns.map D.int).reverse)
  | _ => .bad
def dMaxDef : D → D → R D
  | .lst ds, .int d => match asInts ds with | some ns => .ok (.int (maxI ns d)) | none => .bad
  | _, _ => .bad
def dCount : D → D → R D
  | .lst ds, x => match pys ds, py x with
    | some ps, some q => grd (SeqAt.shaped (.list ps) && SeqAt.shaped q) (.ok (.int (ps.countP fun z => PyData.eqv z q : Nat)))
    | _, _ => .bad
  | _, _ => .bad
def cnt (f g : En → R D) : En → R D := fun ρ => bd (f ρ) fun d => match d with | .lst ds => bd (g ρ) fun e => dCount (.lst ds) e | _ => .bad
end
end DL
namespace DL
open PySem PySem.Spec PyProof.Rows L2
section
variable {X : Cx} {C : Cd} {e a b c tg : Expr} {f g k : En → R D} {pos p p1 apos cpos : Pos} {st : Stmt} {s1 : En → R Fl} {K : Kx} {F H H' : Hp} {kk : Nat} {es : List Expr} {fs : En → R (List D)}
def itZipL : List D → R (List D)
  | [.lst ds, .lst es] => .ok (zipD ds es)
  | _ => .bad
theorem RowsAt.write {b : Addr} {us' : List V} {xs' : List D} (rr : Reps K F xs' us') : ∀ {rs : List D} {vs : List V} {m : Nat}, RowsAt K F H rs vs → vs[m]? = some (.ref b) → (vs.filterMap refOf).Nodup → RowsAt K F (upd H b (.lst us')) (rs.set m (.lst xs')) vs
  | _, _, _, .nil, h, _ => by simp at h
  | _, _, 0, .cons (b := b0) q r t, h, nd => by
    have e : b0 = b := by simpa using h
    rw [kid_head] at nd
    have nd := List.nodup_cons.mp nd
    refine .cons (by rw [e]; exact upd_same) rr (t.mono (Same.refl _) fun c hc u hu => ?_)
    rw [upd_ne (fun (z : c = b) => nd.1 (by rw [e, ← z]; exact hc))]
    exact hu
  | _, _, m + 1, .cons (b := b0) (vs := vs) q r t, h, nd => by
    rw [kid_head] at nd
    have nd := List.nodup_cons.mp nd
    have h : vs[m]? = some (.ref b) := by simpa using h
    refine .cons ?_ r (RowsAt.write rr t h nd.2)
    rw [upd_ne (fun (z : b0 = b) => nd.1 (by rw [z]; exact filterMap_mem h))]
    exact q
def rowAt (rs : List D) (j : Int) : Option (Nat × List D) := match ixN rs.length j with
  | some m => match rs[m]? with
    | some (.lst xs) => some (m, xs)
    | _ => none
  | none => none
def sRowM (i : Nat) (g f : En → R D) (w : List D → D → R (List D)) : En → R Fl := fun ρ => match ρ[i]? with
  | some (some (true, .rows rs)) => bd (g ρ) fun q => match q with
    | .int j => match rowAt rs j with
      | some (m, xs) => bd (f ρ) fun z => bd (w xs z) fun xs' => .ok (.next (ρ.set i (some (true, .rows (rs.set m (.lst xs'))))))
      | none => .bad
    | _ => .bad
  | _ => .bad
def sRow0 (i : Nat) (g : En → R D) (w : List D → List D) : En → R Fl := fun ρ => match ρ[i]? with
  | some (some (true, .rows rs)) => bd (g ρ) fun q => match q with
    | .int j => match rowAt rs j with
      | some (m, xs) => .ok (.next (ρ.set i (some (true, .rows (rs.set m (.lst (w xs)))))))
      | none => .bad
    | _ => .bad
  | _ => .bad
def sRowsApp (i : Nat) (f : En → R D) : En → R Fl := fun ρ => match ρ[i]? with
  | some (some (true, .rows rs)) => bd (f ρ) fun z => match z with
    | .lst xs => grd (decide (rs.length < sizeLine)) (.ok (.next (ρ.set i (some (true, .rows (rs ++ [.lst xs]))))))
    | _ => .bad
  | _ => .bad
theorem RowsAt.set {b : Addr} {us : List V} {xs : List D} (hb : H b = some (.lst us)) (rx : Reps K F xs us) : ∀ {rs : List D} {vs : List V} (m : Nat), RowsAt K F H rs vs → RowsAt K F H (rs.set m (.lst xs)) (vs.set m (.ref b))
  | _, _, _, .nil => .nil
  | _, _, 0, .cons _ _ t => .cons hb rx t
  | _, _, m + 1, .cons q r t => .cons q r (RowsAt.set hb rx m t)
def sRowPut (i : Nat) (f g : En → R D) : En → R Fl := fun ρ => match ρ[i]? with
  | some (some (true, .rows rs)) => bd (f ρ) fun z => bd (g ρ) fun q => match z, q with
    | .lst xs, .int j => match ixN rs.length j with
      | some m => .ok (.next (ρ.set i (some (true, .rows (rs.set m (.lst xs))))))
      | none => .bad
    | _, _ => .bad
  | _ => .bad
def nrm (ρ : En) : List Nat → En
  | [] => ρ
  | i :: is => match ρ[i]? with
    | some (some (true, .rows rs)) => nrm (ρ.set i (some (true, .lst rs))) is
    | some (some (false, .rows rs)) => nrm (ρ.set i (some (false, .lst rs))) is
    | _ => nrm ρ is
theorem Rel.half {ρ : En} {σ : L2.St} (r : Rel C ρ σ F H) {i : Nat} {rs : List D} (e : ρ[i]? = some (some (true, .rows rs))) : ∃ F', Same F F' ∧ Rel C (ρ.set i (some (true, .lst rs))) σ F' H := by
  obtain ⟨a, q, n, nd, vs, h1, ro⟩ := r.ownF i _ e
  have ef : foot H a (.rows rs) = a :: vs.filterMap refOf := by rw [foot_rows, kids_at h1]
  rw [ef] at n nd
  have nd := List.nodup_cons.mp nd
  obtain ⟨F2, s1, s2, rr, hk⟩ := ro.settle r.sub (fun b hb => (n b (List.mem_cons_of_mem _ hb)).1) nd.2
  have r2 := r.settleP e q (fun b hb => by rw [ef]; exact List.mem_cons_of_mem _ hb) s1 s2 hk
  have fa : F2 a = none := by
    cases hF : F2 a with
    | none => rfl
    | some o =>
      rcases hk a o hF with y | y
      · rw [(n a List.mem_cons_self).1] at y; cases y
      · exact absurd y nd.1
  refine ⟨F2, s1, ⟨r2.ext, r2.sub, by rw [List.length_set]; exact r.len, fun j e' h => ?_, fun j e' h => ?_, fun j k d' e' b b' c g1 g2 g3 g4 g5 g6 => ?_, r.lend, r.wok⟩⟩
  · rcases get_set h with ⟨rfl, z⟩ | ⟨nn, z⟩
    · cases z
    · exact r2.slot j e' (by rw [List.getElem?_set_ne nn]; exact z)
  · rcases get_set h with ⟨rfl, z⟩ | ⟨nn, z⟩
    · cases z
      refine ⟨a, q, fun b hb => ?_, by rw [foot_one rfl]; simp, vs, h1, rr⟩
      rw [foot_one rfl] at hb
      rw [List.mem_singleton.mp hb]
      exact ⟨fa, (n a List.mem_cons_self).2⟩
    · exact r2.ownF j e' (by rw [List.getElem?_set_ne nn]; exact z)
  · have cross : ∀ (k : Nat) (e1 : D) (b' : Addr), i ≠ k → ρ[k]? = some (some (true, e1)) → σ[k]? = some (some (.ref b')) → a ∉ foot H b' e1 := fun k e1 b' hik hk1 hq1 hc => hik (r.apartF i k _ _ a b' a e hk1 q hq1 foot_head hc)
    rcases get_set g1 with ⟨rfl, z⟩ | ⟨n1, z⟩
    · rcases get_set g2 with ⟨rfl, z'⟩ | ⟨n2, z'⟩
      · rfl
      · cases z
        rw [q] at g3
        cases g3
        rw [foot_one rfl] at g5
        rw [List.mem_singleton.mp g5] at g6
        exact absurd g6 (cross k _ _ n2 z' g4)
    · rcases get_set g2 with ⟨rfl, z'⟩ | ⟨n2, z'⟩
      · cases z'
        rw [q] at g4
        cases g4
        rw [foot_one rfl] at g6
        rw [List.mem_singleton.mp g6] at g5
        exact absurd g5 (cross j _ _ n1 z g3)
      · exact r.apartF j k _ _ b b' c z z' g3 g4 g5 g6
theorem Rel.plain {ρ : En} {σ : L2.St} (r : Rel C ρ σ F H) {i : Nat} {rs : List D} (e : ρ[i]? = some (some (false, .rows rs))) : Rel C (ρ.set i (some (false, .lst rs))) σ F H where
  ext := r.ext
  sub := r.sub
  len := by rw [List.length_set]; exact r.len
  slot := fun j e' h => by
    rcases get_set h with ⟨rfl, z⟩ | ⟨nn, z⟩
    · cases z
      obtain ⟨v, q, w⟩ := r.slot i _ e
      cases w with
      | rows h1 rr => exact ⟨_, q, .lst h1 rr⟩
    · exact r.slot j e' z
  ownF := fun j e' h => by
    rcases get_set h with ⟨rfl, z⟩ | ⟨nn, z⟩
    · cases z
    · exact r.ownF j e' z
  apartF := fun j k d' e' b b' c h1 h2 h3 h4 h5 h6 => by
    rcases get_set h1 with ⟨rfl, z⟩ | ⟨n, z⟩
    · cases z
    · rcases get_set h2 with ⟨rfl, z'⟩ | ⟨n', z'⟩
      · cases z'
      · exact r.apartF j k _ _ b b' c z z' h3 h4 h5 h6
  wok := r.wok
  lend := r.lend
theorem Rel.nrm {σ : L2.St} : ∀ (is : List Nat) {ρ : En} {F : Hp}, Rel C ρ σ F H → ∃ F', Same F F' ∧ Rel C (nrm ρ is) σ F' H
  | [], _, F, r => ⟨F, Same.refl _, r⟩
  | i :: is, ρ, F, r => by
    unfold DL.nrm
    split
    · rename_i rs e
      obtain ⟨F', sf, r'⟩ := r.half e
      obtain ⟨F2, sf2, r2⟩ := Rel.nrm is r'
      exact ⟨F2, sf.trans sf2, r2⟩
    · rename_i rs e
      exact Rel.nrm is (r.plain e)
    · exact Rel.nrm is r
def sNrm (is : List Nat) (s : En → R Fl) : En → R Fl := fun ρ => s (nrm ρ is)
def unR : D → R D
  | .rows rs => .ok (.lst rs)
  | d => .ok d
def aConsL (f : En → R D) (g : En → R (List D)) : En → R (List D) := fun ρ => bd (f ρ) fun d => match d with
  | .lst xs => bd (g ρ) fun ds => .ok (.lst xs :: ds)
  | _ => .bad
def mkRows (ds : List D) : R D := grd (small ds.length) (.ok (.rows ds))
def isL : D → Bool
  | .lst _ => true
  | _ => false
def lcGoR (g : D → En → Option En) (t : En → R Bool) (f : En → R D) (ρ : En) (ds : List D) : R (List D) := bd (lcGo g t f ρ ds) fun zs => grd (zs.all isL) (.ok zs)
def lcR (own : List Nat) (fi : En → R (List D)) (g : D → En → Option En) (t : En → R Bool) (f : En → R D) : En → R D := fun ρ => bd (fi ρ) fun ds =>
  grd (decide (ds.length < sizeLine)) (bd (lcGoR g t f (wipeR ρ own) ds) fun zs => .ok (.rows zs))
end
end DL
namespace DL
open PySem PySem.Spec PyProof.Rows L2
section
variable {X : Cx} {C : Cd} {e a b c tg : Expr} {f g k : En → R D} {pos p p1 apos cpos : Pos} {st : Stmt} {s1 : En → R Fl} {K : Kx} {F H H' : Hp} {kk : Nat} {es : List Expr} {fs : En → R (List D)}
def sInsert (i : Nat) (g f : En → R D) : En → R Fl := fun ρ => match ρ[i]? with
  | some (some (true, .lst ds)) => bd (g ρ) fun q => bd (f ρ) fun z => match q with
    | .int j => grd (decide (ds.length < sizeLine) && decide (0 ≤ j) && decide (j < 2 ^ 63)) (.ok (.next (ρ.set i (some (true, .lst (ds.take j.toNat ++ [z] ++ ds.drop j.toNat))))))
    | _ => .bad
  | _ => .bad
def dIntB : List D → R D
  | [.bl b] => .ok (.int (if b then 1 else 0))
  | [.int i] => .ok (.int i)
  | _ => .bad
theorem intB_ok : OpL C (fun xs H Q => (∃ i, xs = [.int i] ∧ Q (.int i) H) ∨ ∃ k, xs = [.bl k] ∧ Q (.int (if k then 1 else 0)) H) dIntB := by
  intro σ F H Q ds vs o s w
  unfold dIntB at o
  split at o
  · obtain ⟨v, rfl, h⟩ := w.one
    cases h
    exact .inr ⟨_, rfl, fin_flat o s rfl⟩
  · obtain ⟨v, rfl, h⟩ := w.one
    cases h
    exact .inl ⟨_, rfl, fin_flat o s rfl⟩
  · exact o.elim
end
end DL
namespace DL
open PySem PySem.Spec PyProof.Rows L2
section
variable {prog : Program} {w : World} {A : Around} {E : Value → Shared → Prop} {s : Shared}
end
section
variable {X : Cx}
end
section
variable {X : Cx} {C : Cd} {a : Expr} {f : En → R D} {pos pos2 p p2 : Pos}
end
end DL
namespace DL
open PySem PySem.Spec PyProof.Rows L2
section
open SrtO Srt
variable {prog : Program} {w : World} {A : Around} {E : Value → Shared → Prop} {s : Shared}
end
section
open SrtO Srt
variable {X : Cx}
end
section
variable {X : Cx} {C : Cd} {K : Kx} {F H : Hp}
variable {e : Expr} {es : List Expr} {fs : En → R (List D)} {pos p : Pos}
end
section
variable {X : Cx} {C : Cd} {k v : Expr} {f g : En → R D} {pos : Pos}
end
end DL
namespace DL
open PySem PySem.Spec PyProof.Rows L2
abbrev Slot := Option (Bool × D)
theorem loop_at {α : Type} {g : D → En → Option En} {gb : En → R Fl} (F : α → D) : ∀ (xs : List α) (I : Nat → En → Prop) (ρ : En), I 0 ρ →
    (∀ i a ρ, xs[i]? = some a → I i ρ → ∃ ρ1, g (F a) ρ = some ρ1 ∧ ∃ ρ', gb ρ1 = .ok (.next ρ') ∧ I (i + 1) ρ') → ∃ ρ', loopD g gb (xs.map F) ρ = .ok (.next ρ') ∧ I xs.length ρ'
  | [], I, ρ, h0, _ => ⟨ρ, rfl, h0⟩
  | a :: xs, I, ρ, h0, h => by
    obtain ⟨ρ1, h1, ρ', h2, h3⟩ := h 0 a ρ rfl h0
    rw [List.map_cons]
    unfold loopD
    rw [h1]
    dsimp only
    rw [h2]
    exact loop_at F xs (fun i => I (i + 1)) ρ' h3 fun i b ρ hb => h (i + 1) b ρ (by simpa using hb)
theorem at_lt {α : Type} {xs : List α} {i : Nat} {a : α} (h : xs[i]? = some a) : i < xs.length := (List.getElem?_eq_some_iff.mp h).1
theorem lc_map {g : D → En → Option En} {t : En → R Bool} {f : En → R D} {ρ : En} (F : D → D) : ∀ (ds : List D), (∀ d ∈ ds, lcStep g t f ρ d = .ok (some (F d))) → lcGo g t f ρ ds = .ok (ds.map F)
  | [], _ => rfl
  | d :: ds, h => by
    unfold lcGo
    rw [h d List.mem_cons_self, bd_ok, lc_map F ds fun d hd => h d (List.mem_cons_of_mem _ hd)]
    rfl
theorem sizeLine_big : sizeLine = 16777216 := sizeLine_eq
theorem small_of {n : Nat} (h : n ≤ 1000000) : small n = true := by
  unfold small
  rw [sizeLine_eq]
  exact decide_eq_true (by omega)
theorem lt_size {n : Nat} (h : n ≤ 1000000) : decide (n < sizeLine) = true := by
  rw [sizeLine_eq]
  exact decide_eq_true (by omega)
theorem inR_small {i : Int} (h : -1000000000000 ≤ i) (h' : i ≤ 1000000000000) : DL.inR i = true := by
  unfold DL.inR
  rw [Bool.and_eq_true]
  exact ⟨decide_eq_true (by omega), decide_eq_true (by omega)⟩
theorem atI_ge {α : Type} {xs : List α} {i : Int} {x : α} (h0 : 0 ≤ i) (h : xs[i.toNat]? = some x) : L2.atI xs i = some x := by
  obtain ⟨j, rfl⟩ : ∃ j : Nat, i = j := ⟨i.toNat, by omega⟩
  exact atI_nat (by simpa using h)
theorem ixA_lst {ds : List D} {i : Int} {x : D} (h0 : 0 ≤ i) (h : ds[i.toNat]? = some x) : dIxA (.lst ds) (.int i) = .ok x := by
  show (match L2.atI ds i with | some d => R.ok d | none => R.bad) = _
  rw [atI_ge h0 h]
theorem ixA_tup {ds : List D} {i : Int} {x : D} (h0 : 0 ≤ i) (h : ds[i.toNat]? = some x) : dIxA (.tup ds) (.int i) = .ok x := by
  show (match L2.atI ds i with | some d => R.ok d | none => R.bad) = _
  rw [atI_ge h0 h]
theorem ixA_scr {ds : List Int} {i : Int} {x : Int} (h0 : 0 ≤ i) (h : ds[i.toNat]? = some x) : dIxA (.scr ds) (.int i) = .ok (.int x) := by
  show (match L2.atI ds i with | some d => R.ok (D.int d) | none => R.bad) = _
  rw [atI_ge h0 h]
theorem ixA_ints {ns : List Int} {i : Int} (h0 : 0 ≤ i) (h : i < ns.length) : dIxA (.lst (ns.map .int)) (.int i) = .ok (.int (ns.getD i.toNat 0)) := by
  refine ixA_lst h0 ?_
  have : i.toNat < ns.length := by omega
  rw [List.getElem?_map, List.getElem?_eq_getElem this, List.getD_eq_getElem?_getD, List.getElem?_eq_getElem this]
  rfl
theorem ixA_scrD {ns : List Int} {i : Int} (h0 : 0 ≤ i) (h : i < ns.length) : dIxA (.scr ns) (.int i) = .ok (.int (ns.getD i.toNat 0)) := by
  refine ixA_scr h0 ?_
  have : i.toNat < ns.length := by omega
  rw [List.getElem?_eq_getElem this, List.getD_eq_getElem?_getD, List.getElem?_eq_getElem this]
  rfl
theorem cut_to {α : Type} {xs : List α} {n : Int} (h : 0 ≤ n) : cutD xs none (some n) = xs.take n.toNat := by
  obtain ⟨j, rfl⟩ : ∃ j : Nat, n = j := ⟨n.toNat, by omega⟩
  unfold cutD
  rw [HT.sIx_none, HT.sIx_nat, List.drop_zero, Nat.sub_zero]
  simp only [Int.toNat_natCast]
  by_cases hj : j ≤ xs.length
  · rw [Nat.min_eq_left hj]
  · rw [Nat.min_eq_right (by omega), List.take_length, List.take_of_length_le (by omega)]
theorem cut_from {α : Type} {xs : List α} {n : Int} (h : 0 ≤ n) : cutD xs (some n) none = xs.drop n.toNat := by
  obtain ⟨j, rfl⟩ : ∃ j : Nat, n = j := ⟨n.toNat, by omega⟩
  unfold cutD
  rw [HT.sIx_none, HT.sIx_nat]
  simp only [Int.toNat_natCast]
  by_cases hj : j ≤ xs.length
  · rw [Nat.min_eq_left hj, List.take_of_length_le (by rw [List.length_drop]; omega)]
  · rw [Nat.min_eq_right (by omega), List.drop_length, List.take_nil, List.drop_of_length_le (by omega)]
theorem cut_mid {α : Type} {xs : List α} {m n : Int} (h : 0 ≤ m) (h' : 0 ≤ n) : cutD xs (some m) (some n) = (xs.drop m.toNat).take (n.toNat - m.toNat) := by
  obtain ⟨j, rfl⟩ : ∃ j : Nat, n = j := ⟨n.toNat, by omega⟩
  obtain ⟨i, rfl⟩ : ∃ j : Nat, m = j := ⟨m.toNat, by omega⟩
  unfold cutD
  rw [HT.sIx_nat, HT.sIx_nat]
  simp only [Int.toNat_natCast]
  by_cases hi : i ≤ xs.length
  · rw [Nat.min_eq_left hi]
    by_cases hj : j ≤ xs.length
    · rw [Nat.min_eq_left hj]
    · rw [Nat.min_eq_right (by omega), List.take_of_length_le (by rw [List.length_drop]; omega), List.take_of_length_le (by rw [List.length_drop]; omega)]
  · rw [show min i xs.length = xs.length from Nat.min_eq_right (by omega), List.drop_length, List.take_nil, List.drop_of_length_le (by omega), List.take_nil]
theorem pys_ints : ∀ ns : List Int, pys (ns.map .int) = some (ns.map PyData.int)
  | [] => rfl
  | n :: ns => by simp only [List.map_cons]; unfold pys; rw [pys_ints ns]; rfl
theorem py_ints (ns : List Int) : py (.lst (ns.map .int)) = some (.list (ns.map PyData.int)) := by unfold py; rw [pys_ints]; rfl
theorem canLay_ints : ∀ ns : List Int, PyData.canLayAll0 (ns.map PyData.int) = true
  | [] => by simp [PyData.canLayAll0]
  | n :: ns => by simp [PyData.canLayAll0, PyData.canLay0, canLay_ints ns]
theorem depth_ints : ∀ ns : List Int, PyData.depthAll (ns.map PyData.int) ≤ 1
  | [] => by simp [PyData.depthAll]
  | n :: ns => by
    have := depth_ints ns
    simp [PyData.depthAll, PyData.depth]
    omega
theorem shaped_ints (ns : List Int) : SeqAt.shaped (.list (ns.map PyData.int)) = true := by
  have := depth_ints ns
  have h2 := canLay_ints ns
  unfold SeqAt.shaped
  simp [PyData.canLay0, PyData.depth, h2]
  omega
theorem eqv_ints : ∀ ns ms : List Int, PyData.eqvAll (ns.map PyData.int) (ms.map PyData.int) = decide (ns = ms)
  | [], [] => rfl
  | [], m :: ms => rfl
  | n :: ns, [] => rfl
  | n :: ns, m :: ms => by
    simp only [List.map_cons, PyData.eqvAll, PyData.eqv, eqv_ints ns ms]
    by_cases h : n = m <;> by_cases h' : ns = ms <;> simp [h, h']
theorem dEq_ints (neg : Bool) (ns ms : List Int) : dEq neg (.lst (ns.map .int)) (.lst (ms.map .int)) = .ok (.bl (xorB neg (decide (ns = ms)))) := by
  show deepEq neg _ _ = _
  unfold deepEq
  rw [py_ints, py_ints]
  simp only [shaped_ints, Bool.and_self, grd_t]
  rw [xor_if]
  simp only [PyData.eqv, eqv_ints]
theorem dEq_scr (neg : Bool) (ns ms : List Int) : dEq neg (.scr ns) (.lst (ms.map .int)) = .ok (.bl (xorB neg (decide (ns = ms)))) := by
  show deepEq neg _ _ = _
  unfold deepEq
  rw [show py (.scr ns) = some (.list (ns.map PyData.int)) from rfl, py_ints]
  simp only [shaped_ints, Bool.and_self, grd_t]
  rw [xor_if]
  simp only [PyData.eqv, eqv_ints]
theorem dEq_scr_nil (neg : Bool) (ns : List Int) : dEq neg (.scr ns) (.lst []) = .ok (.bl (xorB neg (decide (ns = [])))) := dEq_scr neg ns []
theorem dEq_ints_nil (neg : Bool) (ns : List Int) : dEq neg (.lst (ns.map .int)) (.lst []) = .ok (.bl (xorB neg (decide (ns = [])))) := dEq_ints neg ns []
end DL
namespace DL
open PySem PySem.Spec PyProof.Rows L2
section
variable {ρ : En} {f g k : En → R D} {fs : En → R (List D)} {s t s1 s2 : En → R Fl} {i : Nat} {d e : D} {ds es : List D} {b o : Bool} {ft gt : En → R Bool}
def seqK (x : R Fl) (t : En → R Fl) : R Fl := bd x fun r => match r with | .next ρ' => t ρ' | r => .ok r
theorem ap_seq : sSeq s t ρ = seqK (s ρ) t := rfl
theorem seq_next : seqK (.ok (.next ρ)) t = t ρ := rfl
theorem seq_ret : seqK (.ok (.ret o d)) t = .ok (.ret o d) := rfl
theorem seq_brk : seqK (.ok (.brk ρ)) t = .ok (.brk ρ) := rfl
theorem seq_cont : seqK (.ok (.cont ρ)) t = .ok (.cont ρ) := rfl
theorem seq_err {c : Str} : seqK (.err c) t = .err c := rfl
theorem ap_skip : sSkip ρ = .ok (.next ρ) := rfl
theorem ap_brk : sBrk ρ = .ok (.brk ρ) := rfl
theorem ap_cont : sCont ρ = .ok (.cont ρ) := rfl
theorem ap_stl {is : List Nat} : sStl is s ρ = s (settle ρ is) := rfl
theorem settle_nil : settle ρ [] = ρ := rfl
def settleK (x : Option Slot) (i : Nat) (is : List Nat) (ρ : En) : En := match x with
  | some (some (true, d)) => settle (ρ.set i (some (false, d))) is
  | _ => settle ρ is
theorem settle_cons {is : List Nat} : settle ρ (i :: is) = settleK ρ[i]? i is ρ := rfl
theorem settle_t {is : List Nat} : settleK (some (some (true, d))) i is ρ = settle (ρ.set i (some (false, d))) is := rfl
theorem settle_f {is : List Nat} : settleK (some (some (false, d))) i is ρ = settle ρ is := rfl
def iteK (x : R Bool) (s1 s2 : En → R Fl) (ρ : En) : R Fl := bd x fun c => if c = true then s1 ρ else s2 ρ
theorem ap_if : sIf ft s1 s2 ρ = iteK (ft ρ) s1 s2 ρ := rfl
theorem ite_t : iteK (.ok true) s1 s2 ρ = s1 ρ := rfl
theorem ite_f : iteK (.ok false) s1 s2 ρ = s2 ρ := rfl
def setK (x : R D) (i : Nat) (ρ : En) : R Fl := bd x fun d => stE i d ρ
def setOK (x : R D) (i : Nat) (ρ : En) : R Fl := bd x fun d => stO i d ρ
theorem ap_set : sSet i f ρ = setK (f ρ) i ρ := rfl
theorem ap_setO : sSetO i f ρ = setOK (f ρ) i ρ := rfl
theorem set_ok : setK (.ok d) i ρ = .ok (.next (ρ.set i (some (false, d)))) := rfl
theorem setO_ok : setOK (.ok d) i ρ = .ok (.next (ρ.set i (some (isC d, d)))) := rfl
theorem isC_lst : isC (.lst ds) = true := rfl
theorem isC_dK {l : List (Key × D)} : isC (.dK l) = true := rfl
theorem isC_dT {l : List (List Key × D)} : isC (.dT l) = true := rfl
theorem isC_int {n : Int} : isC (.int n) = false := rfl
theorem isC_str {n : Str} : isC (.str n) = false := rfl
theorem isC_bl {n : Bool} : isC (.bl n) = false := rfl
theorem isC_non : isC .non = false := rfl
theorem isC_tup : isC (.tup ds) = false := rfl
def retK (x : R D) (o : Bool) : R Fl := bd x fun d => .ok (.ret o d)
theorem ap_ret : sRet f ρ = retK (f ρ) false := rfl
theorem ap_retO : sRetO f ρ = retK (f ρ) true := rfl
theorem ret_ok : retK (.ok d) o = .ok (.ret o d) := rfl
theorem ap_ret0 : sRetNone ρ = .ok (.ret false .non) := rfl
def unpK (x : R D) (g : D → En → Option En) (ρ : En) : R Fl := bd x fun d => match g d ρ with | some ρ' => .ok (.next ρ') | none => .bad
theorem ap_unp {gg : D → En → Option En} : sUnp f gg ρ = unpK (f ρ) gg ρ := rfl
def unp2 (x : Option En) : R Fl := match x with | some ρ' => .ok (.next ρ') | none => .bad
theorem unp_ok {gg : D → En → Option En} : unpK (.ok d) gg ρ = unp2 (gg d ρ) := rfl
theorem unp2_ok : unp2 (some ρ) = .ok (.next ρ) := rfl
theorem ap_drop : sDrop f ρ = bd (f ρ) fun _ => .ok (.next ρ) := rfl
theorem ap_gset : gSet i d ρ = some (ρ.set i (some (false, d))) := rfl
theorem ap_gtup {n : Nat} {gs : List D → En → Option En} : gSeqD n gs (.tup ds) ρ = if ds.length = n then gs ds ρ else none := rfl
theorem ap_glst {n : Nat} {gs : List D → En → Option En} : gSeqD n gs (.lst ds) ρ = if ds.length = n then gs ds ρ else none := rfl
theorem ap_gnil : gsNil [] ρ = some ρ := rfl
theorem ap_gcons {gg : D → En → Option En} {gs : List D → En → Option En} : gsCons gg gs (d :: ds) ρ = (gg d ρ).bind (gs ds) := rfl
def rdK (x : Option Slot) : R D := match x with | some (some (_, d)) => .ok d | _ => .bad
def rdEK (x : Option Slot) : R D := match x with | some (some (false, d)) => .ok d | some (some (true, d)) => if isC d = true then .bad else .ok d | _ => .bad
def rdOK (x : Option Slot) : R D := match x with | some (some (true, d)) => .ok d | some (some (false, d)) => if isC d = true then .bad else .ok d | _ => .bad
theorem ap_rd : rd i ρ = rdK ρ[i]? := rfl
theorem ap_rdE : rdE i ρ = rdEK ρ[i]? := rfl
theorem ap_rdO : rdO i ρ = rdOK ρ[i]? := rfl
theorem rd_ok : rdK (some (some (b, d))) = .ok d := rfl
theorem rdE_ok : rdEK (some (some (false, d))) = .ok d := rfl
theorem rdO_ok : rdOK (some (some (true, d))) = .ok d := rfl
theorem rdO_f (h : isC d = false) : rdOK (some (some (false, d))) = .ok d := by show (if isC d = true then R.bad else R.ok d) = _; simp [h]
theorem ap_cst : cst d ρ = .ok d := rfl
def bd2 (x y : R D) (w : D → D → R D) : R D := bd x fun d => bd y fun e => w d e
theorem ap_bop {w : D → D → R D} : bop f g w ρ = bd2 (f ρ) (g ρ) w := rfl
theorem bd2_ok {w : D → D → R D} : bd2 (.ok d) (.ok e) w = w d e := rfl
theorem ap_uop {w : D → R D} : uop f w ρ = bd (f ρ) w := rfl
theorem ap_nop {w : List D → R D} : nop fs w ρ = bd (fs ρ) w := rfl
theorem ap_anil : aNil ρ = .ok [] := rfl
def consK (x : R D) (y : R (List D)) : R (List D) := bd x fun d => bd y fun ds => .ok (d :: ds)
theorem ap_acons : aCons f fs ρ = consK (f ρ) (fs ρ) := rfl
theorem cons_ok : consK (.ok d) (.ok ds) = .ok (d :: ds) := rfl
theorem add_int {m n : Int} : dAdd (.int m) (.int n) = .ok (.int (m + n)) := rfl
theorem add_str {x y : Str} : dAdd (.str x) (.str y) = grd (small (x.length + y.length)) (.ok (.str (x ++ y))) := rfl
theorem add_lst : dAdd (.lst ds) (.lst es) = grd (small (ds.length + es.length)) (.ok (.lst (ds ++ es))) := rfl
theorem sub_int {m n : Int} : dSub (.int m) (.int n) = .ok (.int (m - n)) := rfl
theorem mod_int {m n : Int} : dMod (.int m) (.int n) = grd (decide (0 < n)) (.ok (.int (m % n))) := rfl
theorem mod_pos {m n : Int} (h : 0 < n) : dMod (.int m) (.int n) = .ok (.int (m % n)) := by rw [mod_int, decide_eq_true h]; rfl
theorem log_of {n b : Nat} (h : n < 2 ^ b) (h0 : 0 < b) : n.log2 < b := by
  by_cases hn : n = 0
  · subst hn; simpa using h0
  · exact (Nat.log2_lt hn).mpr h
theorem div_int {m n : Int} : dDiv (.int m) (.int n) = grd (decide (0 < n) && decide (n.natAbs.log2 < 9000)) (.ok (.int (m / n))) := rfl
theorem div_pos {m n : Int} (h : 0 < n) (h' : n < 2 ^ 200) : dDiv (.int m) (.int n) = .ok (.int (m / n)) := by
  have : n.natAbs.log2 < 200 := log_of (by omega) (by decide)
  rw [div_int, decide_eq_true h, decide_eq_true (show n.natAbs.log2 < 9000 by omega)]; rfl
theorem pow_int {m n : Int} : dPow (.int m) (.int n) = grd (decide (0 ≤ n) && decide (n ≤ 1000000) && decide (m.natAbs < 2 ^ 64)) (.ok (.int (m ^ n.toNat))) := rfl
theorem mul_int {m n : Int} : dMul (.int m) (.int n) = grd (decide (m.natAbs.log2 + n.natAbs.log2 < 1000000) || decide (m.natAbs < 2 ^ 64) || decide (n.natAbs < 2 ^ 64)) (.ok (.int (m * n))) := rfl
theorem pow_ok {m n : Int} (h0 : 0 ≤ n) (h1 : n ≤ 1000000) (h2 : -9223372036854775808 ≤ m) (h3 : m ≤ 9223372036854775807) : dPow (.int m) (.int n) = .ok (.int (m ^ n.toNat)) := by
  rw [pow_int, decide_eq_true h0, decide_eq_true h1, decide_eq_true (show m.natAbs < 2 ^ 64 by omega)]; rfl
theorem mul_small {m n : Int} (h : -(2 ^ 250) ≤ m) (h' : m ≤ 2 ^ 250) (h2 : -(2 ^ 250) ≤ n) (h3 : n ≤ 2 ^ 250) : dMul (.int m) (.int n) = .ok (.int (m * n)) := by
  have h1 : m.natAbs.log2 < 251 := log_of (by omega) (by decide)
  have h2 : n.natAbs.log2 < 251 := log_of (by omega) (by decide)
  rw [mul_int, decide_eq_true (show m.natAbs.log2 + n.natAbs.log2 < 1000000 by omega)]; rfl
theorem mul_r {m n : Int} (h : -(2 ^ 60) ≤ n) (h' : n ≤ 2 ^ 60) : dMul (.int m) (.int n) = .ok (.int (m * n)) := by
  rw [mul_int, decide_eq_true (show n.natAbs < 2 ^ 64 by omega), Bool.or_true]; rfl
theorem mul_l {m n : Int} (h : -(2 ^ 60) ≤ m) (h' : m ≤ 2 ^ 60) : dMul (.int m) (.int n) = .ok (.int (m * n)) := by
  rw [mul_int, decide_eq_true (show m.natAbs < 2 ^ 64 by omega), Bool.or_true, Bool.true_or]; rfl
theorem rep_lst {n : Int} : dMul (.lst ds) (.int n) = grd (decide (-(2 ^ 63) ≤ n) && decide (n < 2 ^ 63) && small (ds.length * n.toNat)) (.ok (.lst (List.replicate n.toNat ds).flatten)) := rfl
theorem neg_int {n : Int} : dNeg (.int n) = .ok (.int (-n)) := rfl
theorem eq_int {neg : Bool} {m n : Int} : dEq neg (.int m) (.int n) = .ok (.bl (xorB neg (decide (m = n)))) := rfl
theorem eq_str {neg : Bool} {m n : Str} : dEq neg (.str m) (.str n) = .ok (.bl (xorB neg (decide (m = n)))) := rfl
theorem eq_bl {neg : Bool} {m n : Bool} : dEq neg (.bl m) (.bl n) = .ok (.bl (xorB neg (decide (m = n)))) := rfl
theorem eq_non_int {neg : Bool} {n : Int} : dEq neg .non (.int n) = .ok (.bl (xorB neg false)) := rfl
theorem eq_int_non {neg : Bool} {n : Int} : dEq neg (.int n) .non = .ok (.bl (xorB neg false)) := rfl
theorem lt_int {m n : Int} : dLt (.int m) (.int n) = .ok (.bl (decide (m < n))) := rfl
theorem le_int {m n : Int} : dLe (.int m) (.int n) = .ok (.bl (decide (m ≤ n))) := rfl
theorem gt_int {m n : Int} : dGt (.int m) (.int n) = .ok (.bl (decide (n < m))) := rfl
theorem ge_int {m n : Int} : dGe (.int m) (.int n) = .ok (.bl (decide (n ≤ m))) := rfl
theorem isN_ap {neg : Bool} : dIsN neg d .non = .ok (.bl (xorB neg (isN d))) := rfl
theorem isN_non : isN .non = true := rfl
theorem isN_int {n : Int} : isN (.int n) = false := rfl
theorem isN_str {n : Str} : isN (.str n) = false := rfl
theorem is_bl {neg m n : Bool} : dIsN neg (.bl m) (.bl n) = .ok (.bl (xorB neg (decide (m = n)))) := rfl
def rdLK (x : Option D) : R D := match x with | some d => .ok d | none => .bad
theorem ap_rdL {i : Nat} : rdL ds i ρ = rdLK ds[i]? := rfl
theorem rdL_ok : rdLK (some d) = .ok d := rfl
def rdFK (x : Option D) : R D := match x with | some d => grd (flatB d) (.ok d) | none => .bad
theorem ap_rdF {i : Nat} : rdF ds i ρ = rdFK ds[i]? := rfl
theorem rdF_int {n : Int} : rdFK (some (.int n)) = .ok (.int n) := rfl
theorem isN_bl {n : Bool} : isN (.bl n) = false := rfl
theorem isN_lst : isN (.lst ds) = false := rfl
theorem isN_tup : isN (.tup ds) = false := rfl
theorem asB_bl : asB (.bl b) = .ok b := rfl
theorem asI_int {n : Int} : asI (.int n) = .ok (some n) := rfl
theorem mkLst_ap : mkLst ds = grd (small ds.length) (.ok (.lst ds)) := rfl
theorem mkTup_ap : mkTup ds = grd (small ds.length) (.ok (.tup ds)) := rfl
theorem len_lst : dLen [.lst ds] = .ok (.int ds.length) := rfl
theorem len_tup : dLen [.tup ds] = .ok (.int ds.length) := rfl
theorem len_scr {ns : List Int} : dLen [.scr ns] = .ok (.int ns.length) := rfl
theorem len_str {z : Str} : dLen [.str z] = grd (small z.length) (.ok (.int z.length)) := rfl
theorem len_dK {l : List (Key × D)} : dLen [.dK l] = .ok (.int l.length) := rfl
theorem list_lst : dList [.lst ds] = .ok (.lst ds) := rfl
theorem list_tup : dList [.tup ds] = .ok (.lst ds) := rfl
theorem list_scr {ns : List Int} : dList [.scr ns] = .ok (.lst (ns.map .int)) := rfl
theorem tuple_lst : dTuple [.lst ds] = .ok (.tup ds) := rfl
theorem flatO_int {n : Int} : flatO (.int n) = .ok (.int n) := rfl
theorem flatO_bl {n : Bool} : flatO (.bl n) = .ok (.bl n) := rfl
theorem flatO_str {n : Str} : flatO (.str n) = .ok (.str n) := rfl
theorem flatO_non : flatO .non = .ok .non := rfl
theorem flatO_tup : flatO (.tup ds) = .ok (.tup ds) := rfl
theorem eNot_bl : eNot (.bl b) = .ok (.bl (!b)) := rfl
theorem isi_int {T : String} {n : Int} : isiD T (.int n) = .ok (.bl (isB T (.int n))) := rfl
theorem isi_bl {T : String} {n : Bool} : isiD T (.bl n) = .ok (.bl (isB T (.bl n))) := rfl
theorem isi_str {T : String} {n : Str} : isiD T (.str n) = .ok (.bl (isB T (.str n))) := rfl
theorem isi_non {T : String} : isiD T .non = .ok (.bl (isB T .non)) := rfl
theorem isi_lst {T : String} : isiD T (.lst ds) = .ok (.bl (isB T (.lst ds))) := rfl
theorem isi_tup {T : String} : isiD T (.tup ds) = .ok (.bl (isB T (.tup ds))) := rfl
theorem isB_int_int {n : Int} : isB "int" (.int n) = true := rfl
theorem isB_int_bl {n : Bool} : isB "int" (.bl n) = true := rfl
theorem isB_int_str {n : Str} : isB "int" (.str n) = false := rfl
theorem isB_int_non : isB "int" .non = false := rfl
theorem isB_int_lst : isB "int" (.lst ds) = false := rfl
theorem isB_int_tup : isB "int" (.tup ds) = false := rfl
theorem isB_bool_int {n : Int} : isB "bool" (.int n) = false := rfl
theorem isB_bool_bl {n : Bool} : isB "bool" (.bl n) = true := rfl
theorem isB_bool_str {n : Str} : isB "bool" (.str n) = false := rfl
theorem isB_bool_non : isB "bool" .non = false := rfl
theorem isB_bool_lst : isB "bool" (.lst ds) = false := rfl
theorem isB_bool_tup : isB "bool" (.tup ds) = false := rfl
theorem isB_list_lst : isB "list" (.lst ds) = true := rfl
theorem isB_list_int {n : Int} : isB "list" (.int n) = false := rfl
theorem isB_list_tup : isB "list" (.tup ds) = false := rfl
theorem isB_tuple_tup : isB "tuple" (.tup ds) = true := rfl
theorem isB_tuple_lst : isB "tuple" (.lst ds) = false := rfl
theorem isB_str_str {n : Str} : isB "str" (.str n) = true := rfl
theorem isB_str_int {n : Int} : isB "str" (.int n) = false := rfl
theorem ix_l0 : dIxA (.lst (d :: ds)) (.int 0) = .ok d := ixA_lst (by omega) rfl
theorem ix_t0 : dIxA (.tup (d :: ds)) (.int 0) = .ok d := ixA_tup (by omega) rfl
theorem atI_s {α : Type} {x : α} {xs : List α} {n : Int} (h : 0 < n) : L2.atI (x :: xs) n = L2.atI xs (n - 1) := by
  obtain ⟨k, rfl⟩ : ∃ k : Nat, n = (k : Int) + 1 := ⟨(n - 1).toNat, by omega⟩
  have e : (k : Int) + 1 - 1 = k := by omega
  have e0 : (0 : Int) ≤ (k : Int) + 1 := by omega
  have e1 : (0 : Int) ≤ (k : Int) := by omega
  unfold L2.atI L2.ixN
  rw [e, List.length_cons, if_pos e0, if_pos e1]
  by_cases hk : k < xs.length
  · have c1 : (k : Int) + 1 < ((xs.length + 1 : Nat) : Int) := by omega
    have c2 : (k : Int) < (xs.length : Int) := by omega
    rw [if_pos c1, if_pos c2]
    simp only [Option.bind_some]
    rw [show ((k : Int) + 1).toNat = k + 1 by omega, show ((k : Int)).toNat = k by omega]
    rfl
  · have c1 : ¬ (k : Int) + 1 < ((xs.length + 1 : Nat) : Int) := by omega
    have c2 : ¬ (k : Int) < (xs.length : Int) := by omega
    rw [if_neg c1, if_neg c2]
    rfl
theorem ix_ls {n : Int} (h : 0 < n) : dIxA (.lst (d :: ds)) (.int n) = dIxA (.lst ds) (.int (n - 1)) := by
  show (match L2.atI (d :: ds) n with | some d => R.ok d | none => R.bad) = (match L2.atI ds (n - 1) with | some d => R.ok d | none => R.bad)
  rw [atI_s h]
theorem ix_ts {n : Int} (h : 0 < n) : dIxA (.tup (d :: ds)) (.int n) = dIxA (.tup ds) (.int (n - 1)) := by
  show (match L2.atI (d :: ds) n with | some d => R.ok d | none => R.bad) = (match L2.atI ds (n - 1) with | some d => R.ok d | none => R.bad)
  rw [atI_s h]
theorem max_int {m n : Int} : dMax [.int m, .int n] = .ok (.int (if n > m then n else m)) := rfl
theorem min_int {m n : Int} : dMin [.int m, .int n] = .ok (.int (if n < m then n else m)) := rfl
theorem sum_ints (ns : List Int) : dSum [.lst (ns.map .int)] = .ok (.int ns.sum) := by
  show (match asInts (ns.map D.int) with | some ns => R.ok (D.int ns.sum) | none => R.bad) = _
  rw [asInts_map]
theorem sort_ints (ns : List Int) : dSorted [.lst (ns.map .int)] = .ok (.lst ((srt ns).map .int)) := by
  show (match asInts (ns.map D.int) with | some ns => R.ok (D.lst ((srt ns).map .int)) | none => match asStrs (ns.map D.int) with | some ss => grd (decide (ss.length < 64)) (R.ok (D.lst ((srtT ss).map .str))) | none => R.bad) = _
  rw [asInts_map]
theorem itEnum_lst : itEnum [.lst ds] = .ok (enumD ds) := rfl
theorem itZip_lst : itZip [.lst ds, .lst es] = .ok (zipD ds es) := rfl
theorem itRev_lst : itRev [.lst ds] = .ok ds.reverse := rfl
def idxK (x y : R D) : R D := bd x fun d => match d with | .lst ds => bd y fun e => dIndex (.lst ds) e | _ => .bad
theorem rev_lst : dRevS (.lst ds) = .ok (.lst ds.reverse) := rfl
theorem maxDef_ints {ns : List Int} {m : Int} : dMaxDef (.lst (ns.map D.int)) (.int m) = .ok (.int (maxI ns m)) := by
  show (match asInts (ns.map D.int) with | some ns => R.ok (D.int (maxI ns m)) | none => .bad) = _
  rw [asInts_map]
def cntK (x y : R D) : R D := bd x fun d => match d with | .lst ds => bd y fun e => dCount (.lst ds) e | _ => .bad
theorem ap_cnt : cnt f g ρ = cntK (f ρ) (g ρ) := rfl
theorem cnt_ok : cntK (.ok (.lst ds)) (.ok e) = dCount (.lst ds) e := rfl
theorem ap_idx : idx f g ρ = idxK (f ρ) (g ρ) := rfl
theorem idx_ok : idxK (.ok (.lst ds)) (.ok d) = dIndex (.lst ds) d := rfl
theorem inSeq_flat {neg : Bool} (h : isFlat d = true) (h' : ds.all isFlat = true) : dIn neg d (.lst ds) = .ok (.bl (xorB neg (ds.any fun y => eqF y d))) := by
  show inSeq neg d ds = _
  unfold inSeq
  rw [h, h']
  rfl
theorem all_flat_ints (ns : List Int) : (ns.map D.int).all isFlat = true := by
  rw [List.all_eq_true]
  intro d hd
  obtain ⟨n, _, rfl⟩ := List.mem_map.mp hd
  rfl
theorem in_ints {neg : Bool} {n : Int} (ns : List Int) : dIn neg (.int n) (.lst (ns.map .int)) = .ok (.bl (xorB neg (decide (n ∈ ns)))) := by
  rw [inSeq_flat rfl (all_flat_ints ns)]
  congr 3
  rw [Bool.eq_iff_iff, List.any_map, List.any_eq_true, decide_eq_true_eq]
  constructor
  · rintro ⟨x, hx, e⟩
    have e : (x == n) = true := e
    rw [beq_iff_eq] at e
    exact e ▸ hx
  · intro h
    exact ⟨n, h, by show (n == n) = true; exact beq_self_eq_true n⟩
theorem ap_tst : tst f ρ = bd (f ρ) asB := rfl
theorem ap_bnot : bNot ft ρ = bd (ft ρ) fun c => .ok (!c) := rfl
def andK (x : R Bool) (g : En → R Bool) (ρ : En) : R Bool := bd x fun c => if c = true then g ρ else .ok false
def orK (x : R Bool) (g : En → R Bool) (ρ : En) : R Bool := bd x fun c => if c = true then .ok true else g ρ
theorem ap_band : bAnd ft gt ρ = andK (ft ρ) gt ρ := rfl
theorem ap_bor : bOr ft gt ρ = orK (ft ρ) gt ρ := rfl
theorem and_t : andK (.ok true) gt ρ = gt ρ := rfl
theorem and_f : andK (.ok false) gt ρ = .ok false := rfl
theorem or_t : orK (.ok true) gt ρ = .ok true := rfl
theorem or_f : orK (.ok false) gt ρ = gt ρ := rfl
def eAndK (x : R D) (g : En → R D) (ρ : En) : R D := bd x fun c => match c with | .bl true => g ρ | .bl false => .ok (.bl false) | _ => .bad
def eOrK (x : R D) (g : En → R D) (ρ : En) : R D := bd x fun c => match c with | .bl true => .ok (.bl true) | .bl false => g ρ | _ => .bad
theorem ap_eand : eAnd f g ρ = eAndK (f ρ) g ρ := rfl
theorem ap_eor : eOr f g ρ = eOrK (f ρ) g ρ := rfl
theorem eand_t : eAndK (.ok (.bl true)) g ρ = g ρ := rfl
theorem eand_f : eAndK (.ok (.bl false)) g ρ = .ok (.bl false) := rfl
theorem eor_t : eOrK (.ok (.bl true)) g ρ = .ok (.bl true) := rfl
theorem eor_f : eOrK (.ok (.bl false)) g ρ = g ρ := rfl
def eIfK (x : R Bool) (f g : En → R D) (ρ : En) : R D := bd x fun c => if c = true then f ρ else g ρ
theorem ap_eif : eIf ft f g ρ = eIfK (ft ρ) f g ρ := rfl
theorem eif_t : eIfK (.ok true) f g ρ = f ρ := rfl
theorem eif_f : eIfK (.ok false) f g ρ = g ρ := rfl
def chnK (x : R D) (y : D) (w' : D → D → R D) (k : En → R D) (ρ : En) : R D := bd x fun z => match z with | .bl true => bd (k ρ) fun u => w' y u | .bl false => .ok (.bl false) | _ => .bad
def chn0 (x y : R D) (w w' : D → D → R D) (k : En → R D) (ρ : En) : R D := bd x fun d => bd y fun e => chnK (w d e) e w' k ρ
theorem ap_chain {w w' : D → D → R D} : eChain w w' f g k ρ = chn0 (f ρ) (g ρ) w w' k ρ := by
  unfold eChain chn0
  rfl
theorem chn0_ok {w w' : D → D → R D} : chn0 (.ok d) (.ok e) w w' k ρ = chnK (w d e) e w' k ρ := rfl
theorem chn_t {w' : D → D → R D} : chnK (.ok (.bl true)) e w' k ρ = bd (k ρ) fun u => w' e u := rfl
theorem chn_f {w' : D → D → R D} : chnK (.ok (.bl false)) e w' k ρ = .ok (.bl false) := rfl
def slcK (x : R D) (l h : R (Option Int)) : R D := bd x fun d => bd l fun l => bd h fun h => dCut d l h
theorem ap_slc {l h : En → R (Option Int)} : slc f l h ρ = slcK (f ρ) (l ρ) (h ρ) := rfl
theorem slc_ok {l h : Option Int} : slcK (.ok d) (.ok l) (.ok h) = dCut d l h := rfl
theorem ap_pnone : pNone ρ = .ok none := rfl
theorem ap_psome : pSome f ρ = bd (f ρ) asI := rfl
theorem cut_lst {l h : Option Int} : dCut (.lst ds) l h = .ok (.lst (cutD ds l h)) := rfl
theorem cut_str {z : Str} {l h : Option Int} : dCut (.str z) l h = grd (small z.length) (.ok (.str (cutS z l h))) := rfl
theorem cut_scr {ns : List Int} {l h : Option Int} : dCut (.scr ns) l h = .ok (.lst ((cutD ns l h).map .int)) := rfl
def loopK (x : R (List D)) (g : D → En → Option En) (gb : En → R Fl) (ρ : En) : R Fl := bd x fun ds => loopD g gb ds ρ
theorem ap_for {fi : En → R (List D)} {gg : D → En → Option En} {gb : En → R Fl} : sFor fi gg gb ρ = loopK (fi ρ) gg gb ρ := rfl
theorem loop_ok {gg : D → En → Option En} {gb : En → R Fl} : loopK (.ok ds) gg gb ρ = loopD gg gb ds ρ := rfl
def lp2 (x : R Fl) (g : D → En → Option En) (gb : En → R Fl) (ds : List D) : R Fl := bd x fun r => match r with
  | .next ρ' => loopD g gb ds ρ'
  | .cont ρ' => loopD g gb ds ρ'
  | .brk ρ' => .ok (.next ρ')
  | .ret o d => .ok (.ret o d)
def lp1 (x : Option En) (g : D → En → Option En) (gb : En → R Fl) (ds : List D) : R Fl := match x with
  | none => .bad
  | some ρ1 => lp2 (gb ρ1) g gb ds
theorem ap_loop0 {gg : D → En → Option En} {gb : En → R Fl} : loopD gg gb [] ρ = .ok (.next ρ) := rfl
theorem ap_loop1 {gg : D → En → Option En} {gb : En → R Fl} : loopD gg gb (d :: ds) ρ = lp1 (gg d ρ) gg gb ds := rfl
theorem lp1_ok {gg : D → En → Option En} {gb : En → R Fl} : lp1 (some ρ) gg gb ds = lp2 (gb ρ) gg gb ds := rfl
theorem lp2_next {gg : D → En → Option En} {gb : En → R Fl} : lp2 (.ok (.next ρ)) gg gb ds = loopD gg gb ds ρ := rfl
theorem lp2_cont {gg : D → En → Option En} {gb : En → R Fl} : lp2 (.ok (.cont ρ)) gg gb ds = loopD gg gb ds ρ := rfl
theorem lp2_brk {gg : D → En → Option En} {gb : En → R Fl} : lp2 (.ok (.brk ρ)) gg gb ds = .ok (.next ρ) := rfl
theorem lp2_ret {gg : D → En → Option En} {gb : En → R Fl} : lp2 (.ok (.ret o d)) gg gb ds = .ok (.ret o d) := rfl
theorem ap_itr : itr f ρ = bd (f ρ) itD := rfl
theorem ap_irg {w : List D → R (List D)} : irg fs w ρ = bd (fs ρ) w := rfl
theorem itD_lst : itD (.lst ds) = .ok ds := rfl
theorem itD_tup : itD (.tup ds) = .ok ds := rfl
theorem itD_scr {ns : List Int} : itD (.scr ns) = .ok (ns.map .int) := rfl
theorem itD_str {z : Str} : itD (.str z) = .ok (signs z) := rfl
theorem rng1_ap {n : Int} : rng1 [.int n] = grd (DL.inR n) (.ok ((List.range n.toNat).map fun (i : Nat) => D.int (0 + (i : Int)))) := rfl
theorem rng2_ap {m n : Int} : rng2 [.int m, .int n] = grd (DL.inR m && DL.inR n) (.ok ((List.range (n - m).toNat).map fun (i : Nat) => D.int (m + (i : Int)))) := rfl
def lcK (x : R (List D)) (own : List Nat) (g : D → En → Option En) (t : En → R Bool) (f : En → R D) (ρ : En) : R D := bd x fun ds => grd (decide (ds.length < sizeLine)) (bd (lcGo g t f (wipeR ρ own) ds) fun zs => .ok (.lst zs))
theorem ap_lc {own : List Nat} {fi : En → R (List D)} {gg : D → En → Option En} : lcD own fi gg ft f ρ = lcK (fi ρ) own gg ft f ρ := rfl
theorem lc_is {own : List Nat} {gg : D → En → Option En} {zs : List D} (hl : ds.length ≤ 1000000) (h : lcGo gg ft f (wipeR ρ own) ds = .ok zs) : lcK (.ok ds) own gg ft f ρ = .ok (.lst zs) := by
  unfold lcK
  rw [bd_ok, lt_size hl, grd_t, h]
  rfl
theorem wipe_nil : wipeR ρ [] = ρ := rfl
theorem wipe_cons {is : List Nat} : wipeR ρ (i :: is) = (wipeR ρ is).set i none := rfl
theorem lcS_all {gg : D → En → Option En} {ρ1 : En} {z : D} (hg : gg d ρ = some ρ1) (hf : f ρ1 = .ok z) : lcStep gg tYesD f ρ d = .ok (some z) := by
  unfold lcStep
  rw [hg]
  dsimp only [tYesD]
  rw [hf]
theorem lcS_t {gg : D → En → Option En} {ρ1 : En} {z : D} (hg : gg d ρ = some ρ1) (ht : ft ρ1 = .ok true) (hf : f ρ1 = .ok z) : lcStep gg ft f ρ d = .ok (some z) := by
  unfold lcStep
  rw [hg]
  dsimp only
  rw [ht]
  dsimp only
  rw [hf]
theorem lcS_f {gg : D → En → Option En} {ρ1 : En} (hg : gg d ρ = some ρ1) (ht : ft ρ1 = .ok false) : lcStep gg ft f ρ d = .ok none := by
  unfold lcStep
  rw [hg]
  dsimp only
  rw [ht]
def appK (x : Option Slot) (y : R D) (i : Nat) (ρ : En) : R Fl := match x with
  | some (some (true, .lst ds)) => bd y fun z => grd (decide (ds.length < sizeLine)) (.ok (.next (ρ.set i (some (true, .lst (ds ++ [z]))))))
  | _ => .bad
theorem ap_app : sAppend i f ρ = appK ρ[i]? (f ρ) i ρ := rfl
theorem app_ok (h : ds.length ≤ 1000000) : appK (some (some (true, .lst ds))) (.ok d) i ρ = .ok (.next (ρ.set i (some (true, .lst (ds ++ [d]))))) := by
  show bd (.ok d) (fun z => grd (decide (ds.length < sizeLine)) (R.ok (Fl.next (ρ.set i (some (true, .lst (ds ++ [z]))))))) = _
  rw [bd_ok, lt_size h]
  rfl
def extK (x : Option Slot) (y : R D) (i : Nat) (ρ : En) : R Fl := match x with
  | some (some (true, .lst ds)) => bd y fun z => match z with | .lst es => grd (small (ds.length + es.length)) (.ok (.next (ρ.set i (some (true, .lst (ds ++ es)))))) | _ => .bad
  | _ => .bad
theorem ap_ext : sExtend i f ρ = extK ρ[i]? (f ρ) i ρ := rfl
def own0K (x : Option Slot) (w : List D → List D) (i : Nat) (ρ : En) : R Fl := match x with
  | some (some (true, .lst ds)) => .ok (.next (ρ.set i (some (true, .lst (w ds)))))
  | _ => .bad
theorem ap_own0 {w : List D → List D} : sOwn0 i w ρ = own0K ρ[i]? w i ρ := rfl
theorem own0_ok {w : List D → List D} : own0K (some (some (true, .lst ds))) w i ρ = .ok (.next (ρ.set i (some (true, .lst (w ds))))) := rfl
def putK' (x : Option Slot) (y z : R D) (i : Nat) (ρ : En) : R Fl := match x with
  | some (some (true, d)) => bd y fun v => bd z fun q => bd (putA d q v) fun d' => .ok (.next (ρ.set i (some (true, d'))))
  | _ => .bad
theorem ap_put : sPut i f g ρ = putK' ρ[i]? (f ρ) (g ρ) i ρ := rfl
def put2K (x : R D) (i : Nat) (ρ : En) : R Fl := bd x fun d' => .ok (.next (ρ.set i (some (true, d'))))
theorem put_ok {z : D} : putK' (some (some (true, z))) (.ok d) (.ok e) i ρ = put2K (putA z e d) i ρ := rfl
theorem put2_ok : put2K (.ok d) i ρ = .ok (.next (ρ.set i (some (true, d)))) := rfl
theorem itZipL_lst : itZipL [.lst ds, .lst es] = .ok (zipD ds es) := rfl
def insK (x : Option Slot) (y z : R D) (i : Nat) (ρ : En) : R Fl := match x with
  | some (some (true, .lst ds)) => bd y fun q => bd z fun z => match q with
    | .int j => grd (decide (ds.length < sizeLine) && decide (0 ≤ j) && decide (j < 2 ^ 63)) (.ok (.next (ρ.set i (some (true, .lst (ds.take j.toNat ++ [z] ++ ds.drop j.toNat))))))
    | _ => .bad
  | _ => .bad
theorem ap_ins : sInsert i g f ρ = insK ρ[i]? (g ρ) (f ρ) i ρ := rfl
theorem intB_bl {b : Bool} : dIntB [.bl b] = .ok (.int (if b then 1 else 0)) := rfl
theorem intB_int {n : Int} : dIntB [.int n] = .ok (.int n) := rfl
theorem ap_nrmS {is : List Nat} : sNrm is s ρ = s (nrm ρ is) := rfl
theorem nrm_nil : nrm ρ [] = ρ := rfl
def nrmK (x : Option Slot) (i : Nat) (is : List Nat) (ρ : En) : En := match x with
  | some (some (true, .rows rs)) => nrm (ρ.set i (some (true, .lst rs))) is
  | some (some (false, .rows rs)) => nrm (ρ.set i (some (false, .lst rs))) is
  | _ => nrm ρ is
theorem nrm_cons {is : List Nat} : nrm ρ (i :: is) = nrmK ρ[i]? i is ρ := rfl
theorem nrm_rows {is : List Nat} : nrmK (some (some (b, .rows ds))) i is ρ = nrm (ρ.set i (some (b, .lst ds))) is := by cases b <;> rfl
theorem nrm_lst {is : List Nat} : nrmK (some (some (b, .lst ds))) i is ρ = nrm ρ is := by cases b <;> rfl
theorem isC_rows : isC (.rows ds) = true := rfl
theorem len_rows : dLen [.rows ds] = .ok (.int ds.length) := rfl
theorem unR_rows : unR (.rows ds) = .ok (.lst ds) := rfl
theorem unR_lst : unR (.lst ds) = .ok (.lst ds) := rfl
theorem isi_rows : isiD "list" (.rows ds) = .ok (.bl true) := rfl
theorem eq_rows {neg : Bool} : dEq neg (.rows ds) (.lst es) = dEq neg (.lst ds) (.lst es) := by
  show deepEq neg _ _ = deepEq neg _ _
  unfold deepEq
  rw [show py (.rows ds) = py (.lst ds) by unfold py; rfl]
def rowMK (x : Option Slot) (y z : R D) (w : List D → D → R (List D)) (i : Nat) (ρ : En) : R Fl := match x with
  | some (some (true, .rows rs)) => bd y fun q => match q with
    | .int j => match rowAt rs j with
      | some (m, xs) => bd z fun z => bd (w xs z) fun xs' => .ok (.next (ρ.set i (some (true, .rows (rs.set m (.lst xs'))))))
      | none => .bad
    | _ => .bad
  | _ => .bad
def rowM2 (x : Option (Nat × List D)) (rs : List D) (z : R D) (w : List D → D → R (List D)) (i : Nat) (ρ : En) : R Fl := match x with
  | some (m, xs) => bd z fun z => bd (w xs z) fun xs' => .ok (.next (ρ.set i (some (true, .rows (rs.set m (.lst xs'))))))
  | none => .bad
def rowM3 (x : R (List D)) (m : Nat) (rs : List D) (i : Nat) (ρ : En) : R Fl := bd x fun xs' => .ok (.next (ρ.set i (some (true, .rows (rs.set m (.lst xs'))))))
theorem ap_rowM {w : List D → D → R (List D)} : sRowM i g f w ρ = rowMK ρ[i]? (g ρ) (f ρ) w i ρ := rfl
theorem rowM_ok {w : List D → D → R (List D)} {j : Int} {z : R D} : rowMK (some (some (true, .rows ds))) (.ok (.int j)) z w i ρ = rowM2 (rowAt ds j) ds z w i ρ := rfl
theorem rowM2_ok {w : List D → D → R (List D)} {m : Nat} {xs rs : List D} : rowM2 (some (m, xs)) rs (.ok d) w i ρ = rowM3 (w xs d) m rs i ρ := rfl
theorem rowM3_ok {m : Nat} {xs rs : List D} : rowM3 (.ok xs) m rs i ρ = .ok (.next (ρ.set i (some (true, .rows (rs.set m (.lst xs)))))) := rfl
def row0K (x : Option Slot) (y : R D) (w : List D → List D) (i : Nat) (ρ : En) : R Fl := match x with
  | some (some (true, .rows rs)) => bd y fun q => match q with
    | .int j => match rowAt rs j with
      | some (m, xs) => .ok (.next (ρ.set i (some (true, .rows (rs.set m (.lst (w xs)))))))
      | none => .bad
    | _ => .bad
  | _ => .bad
def row02 (x : Option (Nat × List D)) (rs : List D) (w : List D → List D) (i : Nat) (ρ : En) : R Fl := match x with
  | some (m, xs) => .ok (.next (ρ.set i (some (true, .rows (rs.set m (.lst (w xs)))))))
  | none => .bad
theorem ap_row0 {w : List D → List D} : sRow0 i g w ρ = row0K ρ[i]? (g ρ) w i ρ := rfl
theorem row0_ok {w : List D → List D} {j : Int} : row0K (some (some (true, .rows ds))) (.ok (.int j)) w i ρ = row02 (rowAt ds j) ds w i ρ := rfl
theorem row02_ok {w : List D → List D} {m : Nat} {xs rs : List D} : row02 (some (m, xs)) rs w i ρ = .ok (.next (ρ.set i (some (true, .rows (rs.set m (.lst (w xs))))))) := rfl
def rowsAppK (x : Option Slot) (y : R D) (i : Nat) (ρ : En) : R Fl := match x with
  | some (some (true, .rows rs)) => bd y fun z => match z with
    | .lst xs => grd (decide (rs.length < sizeLine)) (.ok (.next (ρ.set i (some (true, .rows (rs ++ [.lst xs]))))))
    | _ => .bad
  | _ => .bad
theorem ap_rowsApp : sRowsApp i f ρ = rowsAppK ρ[i]? (f ρ) i ρ := rfl
def rowPutK (x : Option Slot) (y z : R D) (i : Nat) (ρ : En) : R Fl := match x with
  | some (some (true, .rows rs)) => bd y fun z' => bd z fun q => match z', q with
    | .lst xs, .int j => match L2.ixN rs.length j with
      | some m => .ok (.next (ρ.set i (some (true, .rows (rs.set m (.lst xs))))))
      | none => .bad
    | _, _ => .bad
  | _ => .bad
theorem ap_rowPut : sRowPut i f g ρ = rowPutK ρ[i]? (f ρ) (g ρ) i ρ := rfl
def rowPut2 (x : Option Nat) (rs xs : List D) (i : Nat) (ρ : En) : R Fl := match x with
  | some m => .ok (.next (ρ.set i (some (true, .rows (rs.set m (.lst xs))))))
  | none => .bad
theorem rowPut_ok {xs : List D} {j : Int} : rowPutK (some (some (true, .rows ds))) (.ok (.lst xs)) (.ok (.int j)) i ρ = rowPut2 (L2.ixN ds.length j) ds xs i ρ := rfl
theorem rowPut2_ok {rs xs : List D} {m : Nat} : rowPut2 (some m) rs xs i ρ = .ok (.next (ρ.set i (some (true, .rows (rs.set m (.lst xs)))))) := rfl
theorem ixN_of {n : Nat} {j : Int} (h0 : 0 ≤ j) (h : j < n) : L2.ixN n j = some j.toNat := by
  unfold L2.ixN
  rw [if_pos h0, if_pos (by omega)]
def consLK (x : R D) (y : R (List D)) : R (List D) := bd x fun d => match d with
  | .lst xs => bd y fun ds => .ok (.lst xs :: ds)
  | _ => .bad
theorem ap_consL : aConsL f fs ρ = consLK (f ρ) (fs ρ) := rfl
theorem consL_ok {xs : List D} : consLK (.ok (.lst xs)) (.ok ds) = .ok (.lst xs :: ds) := rfl
theorem mkRows_ap : mkRows ds = grd (small ds.length) (.ok (.rows ds)) := rfl
def lcRK (x : R (List D)) (own : List Nat) (g : D → En → Option En) (t : En → R Bool) (f : En → R D) (ρ : En) : R D := bd x fun ds => grd (decide (ds.length < sizeLine)) (bd (lcGoR g t f (wipeR ρ own) ds) fun zs => .ok (.rows zs))
theorem ap_lcR {own : List Nat} {fi : En → R (List D)} {gg : D → En → Option En} : lcR own fi gg ft f ρ = lcRK (fi ρ) own gg ft f ρ := rfl
theorem callE_of {den : Den} (h : den ds = .ok (o, d)) : callE den ds = .ok d := by unfold callE; rw [h]; rfl
theorem callO_of {den : Den} (h : den ds = .ok (o, d)) (hc : (o || !isC d) = true) : callO den ds = .ok d := by unfold callO; rw [h]; show grd (o || !isC d) (R.ok d) = _; rw [hc]; rfl
theorem callO_flat {den : Den} (h : den ds = .ok (o, d)) (hc : isC d = false) : callO den ds = .ok d := callO_of h (by rw [hc]; cases o <;> rfl)
theorem ap_body {n N : Nat} {gg : En → R Fl} (h : ds.length = n) : bodyN n N gg ds = endD (noE (gg (args N ds))) := by unfold bodyN; rw [if_pos h]
theorem end_ret : endD (noE (.ok (.ret o d))) = .ok (o, d) := rfl
theorem end_next : endD (noE (.ok (.next ρ))) = .ok (false, .non) := rfl
theorem args_ap {N : Nat} : args N ds = ds.map (fun d => some (false, d)) ++ List.replicate (N - ds.length) none := rfl
end
def get2K (x y z : R D) : R D := bd x fun d => grd (isDD d) (bd y fun q => bd z fun e => dGet2 d q e)
theorem ap_get2 {k : En → R D} : get2 f g k ρ = get2K (f ρ) (g ρ) (k ρ) := rfl
theorem get2_ok {q z : D} {kds : List (Key × D)} : get2K (.ok (.dK kds)) (.ok q) (.ok z) = dGet2 (.dK kds) q z := rfl
end DL
namespace DL
open PySem PySem.Spec PyProof.Rows L2
section
variable {X : Cx} {C : Cd} {e a b c tg : Expr} {es : List Expr} {f g k : En → R D} {fs : En → R (List D)} {pos p p2 q apos cpos : Pos} {K : Kx} {F H : Hp} {kk : Nat}
def dJoin (z : Str) : D → R D
  | .lst ds => match asStrs ds with
    | some ys => grd (decide ((ys.map fun y : Str => y.length).sum + ys.length * z.length ≤ 16777216)) (.ok (.str (Str.join z ys)))
    | none => .bad
  | _ => .bad
def jop (f g : En → R D) : En → R D := fun ρ => bd (f ρ) fun d => match d with
  | .str z => bd (g ρ) (dJoin z)
  | _ => .bad
end
theorem join_strs {z : Str} {ys : List Str} (h : (ys.map fun y : Str => y.length).sum + ys.length * z.length ≤ 16777216) : dJoin z (.lst (ys.map .str)) = .ok (.str (Str.join z ys)) := by
  show (match asStrs (ys.map D.str) with | some ys => grd (decide ((ys.map fun y : Str => y.length).sum + ys.length * z.length ≤ 16777216)) (R.ok (D.str (Str.join z ys))) | none => .bad) = _
  rw [asStrs_map]
  show grd (decide _) _ = _
  rw [decide_eq_true h]; rfl
section
variable {X : Cx} {C : Cd} {e a b c tg : Expr} {es : List Expr} {f g k : En → R D} {fs : En → R (List D)} {pos p p2 q apos cpos : Pos} {K : Kx} {F H : Hp} {kk : Nat}
theorem d_join (hC : X.K = C.K.fr) (ha : PE X a (tR C f)) (hb : PE X b (tR C g)) (hs : starEach [b] X.env = [(false, eval b X.env)] := by rfl) (hbase : attributeBase a "join" X.env (eval a X.env) = eval a X.env := by rfl) (hline : (apos.endLine == pos.line) = true := by rfl) :
    PE X (.Call (.Attribute a "join" apos) [b] [] pos) (tO C (jop f g)) := (pe_join ha hb hs hbase hline).mono fun σ H Q ⟨ρ, F, rl, o⟩ => by
  unfold jop at o
  refine ⟨ρ, F, rl, o.fst fun d v F1 H1 _ o x1 s1 w1 => ?_⟩
  cases d with
  | str z =>
    obtain rfl : v = V.str _ := w1
    have o : Out C σ F H (fun F' H' => New C.K H F' H') (bd (g ρ) (dJoin z)) Q := o
    have o := Out.later o x1
    refine ⟨⟨z, rfl⟩, ρ, F1, rl.grow x1 s1, o.fst fun e y F2 H2 _ o x2 s2 w2 => ?_⟩
    have o := (Out.later o x2).newer (x1.h.trans x2.h)
    cases e with
    | lst ds =>
      obtain ⟨l, vs, rfl, h2, r2⟩ := w2
      have o' : Out C σ F2 H2 (fun F' H' => New C.K H2 F' H') (match asStrs ds with | some ys => grd (decide ((ys.map fun y : Str => y.length).sum + ys.length * z.length ≤ 16777216)) (.ok (.str (Str.join z ys))) | none => .bad) Q := o
      cases hy : asStrs ds with
      | none => rw [hy] at o'; exact o'.elim
      | some ys =>
        rw [hy] at o'
        obtain ⟨hz, o'⟩ := grd_out o'
        refine ⟨z, l, ys, rfl, rfl, .inl ?_, of_decide_eq_true hz, (TL.join_eq z ys).symm ▸ fin_flat o' s2 rfl⟩
        rw [hC, ← Reps.asStrs r2 hy]
        exact SqL.of h2
    | _ => exact False.elim o
  | _ => exact False.elim o
end
end DL
namespace DL
open PySem PySem.Spec PyProof.Rows L2
abbrev DenM := List D → R (D × List D)
section
variable {K : Kx} {F F' H H' H0 : Hp}
def minus (H : Hp) (S : List Addr) : Hp := fun b => if b ∈ S then none else H b
end
def ioDs (io : List Nat) (ds : List D) : List D := io.map fun i => (ds[i]?).getD .non
structure ArgsM (K : Kx) (F H : Hp) (n : Nat) (io : List Nat) (ds : List D) (vs : List V) : Prop where
  sub : Same F (minus H (feet H (ioAs io vs) (ioDs io ds)))
  len : ds.length = n
  at_ : ∀ i ∈ io, i < n ∧ vs[i]? = some (.ref (addrAt vs i))
  own : OwnAll K F H (fun _ => none) (ioAs io vs) (ioDs io ds)
  rest : ∀ i, i < n → i ∉ io → ∃ d v, ds[i]? = some d ∧ vs[i]? = some v ∧ View K F (minus H (feet H (ioAs io vs) (ioDs io ds))) d v
section
variable {X : Cx} {C : Cd} {e : Expr} {es : List Expr} {f : En → R D} {fs : En → R (List D)} {pos p : Pos} {kk n : Nat} {fa : Addr} {fd : FuncData} {ps : List Str} {x : Str} {cls : Str → Addr} {den : DenM} {CX : CXT} {E : XK} {ρ : En} {σ : L2.St} {F H : Hp} {io ios : List Nat} {ds : List D} {vs : List V}
inductive AK where
  | io (j : Nat) | own (j : Nat) | ln (j : Nat) | e | vw
  deriving DecidableEq
def ArgOk (C : Cd) (ρ : En) (σ : L2.St) (F : Hp) : AK → D → V → Prop
  | .io j, d, v => ρ[j]? = some (some (true, d)) ∧ σ[j]? = some (some v)
  | .own j, d, v => ∃ b, ρ[j]? = some (some (b, d)) ∧ σ[j]? = some (some v)
  | .ln j, d, v => C.ln j = some (d, v)
  | .e, d, v => Rep C.K F d v
  | .vw, d, v => View C.K C.F0 (jn C.H0 C.F0) d v
inductive ArgsOk (C : Cd) (ρ : En) (σ : L2.St) (F : Hp) : List AK → List D → List V → Prop
  | nil : ArgsOk C ρ σ F [] [] []
  | cons {k : AK} {d : D} {v : V} {ks : List AK} {ds : List D} {vs : List V} : ArgOk C ρ σ F k d v → ArgsOk C ρ σ F ks ds vs → ArgsOk C ρ σ F (k :: ks) (d :: ds) (v :: vs)
theorem ArgsOk.get : ∀ {ks : List AK} {ds : List D} {vs : List V} {i : Nat} {k : AK}, ArgsOk C ρ σ F ks ds vs → ks[i]? = some k → ∃ d v, ds[i]? = some d ∧ vs[i]? = some v ∧ ArgOk C ρ σ F k d v
  | _, _, _, _, _, .nil, h => by simp at h
  | _, _, _, 0, _, .cons r _, h => by cases h; exact ⟨_, _, rfl, rfl, r⟩
  | _, _, _, i + 1, _, .cons _ t, h => ArgsOk.get (i := i) t h
theorem ArgOk.mono {F' : Hp} {k : AK} {d : D} {v : V} (s : Same F F') (w : ArgOk C ρ σ F k d v) : ArgOk C ρ σ F' k d v := by
  cases k with
  | e => exact Rep.mono s w
  | _ => exact w
variable {c : En → R (D × En)}
end
end DL
namespace DL
open PySem PySem.Spec PyProof.Rows L2
section
variable {K : Kx} {A B A' B' F F' H H' : Hp}
structure Pass (A B : Hp) : Prop where
  l : ∀ a vs, A a = some (.lst vs) → B a = some (.lst vs)
  t : ∀ a vs, A a = some (.tup vs) → B a = some (.tup vs)
  rl : ∀ a vs, Rd A a (.lst vs) → Rd B a (.lst vs)
  k : ∀ a vs, Rd A a (.dK vs) → Rd B a (.dK vs)
  kt : ∀ a vs, Rd A a (.dT vs) → Rd B a (.dT vs)
  x : ∀ a φ, A a = some (.ext φ) → B a = some (.ext φ)
  i : ∀ a c dx fs, A a = some (.ins c dx fs) → B a = some (.ins c dx fs)
  w : ∀ a c, A a = some (.own c) → B a = some (.own c)
theorem Pass.seq (p : Pass A B) {a : Addr} {xs : List V} (h : SqL K A a xs) : SqL K B a xs := by
  rcases h with h | h
  · exact .inl (p.rl a xs h)
  · exact .inr h
mutual
theorem Rep.pass (p : Pass F F') : ∀ {d : D} {v : V}, Rep K F d v → Rep K F' d v
  | _, _, .non => .non
  | _, _, .bl b => .bl b
  | _, _, .int b => .int b
  | _, _, .str b => .str b
  | _, _, .lst s r => .lst (p.l _ _ s) (Reps.pass p r)
  | _, _, .scr s => .scr (p.seq s)
  | _, _, .tup s r => .tup (p.t _ _ s) (Reps.pass p r)
  | _, _, .dK s r => .dK (p.k _ _ s) (RepK.pass p r)
  | _, _, .dT s r => .dT (p.kt _ _ s) (RepT.pass p r)
  | _, _, .ref a => .ref a
  | _, _, .rows s r => .rows (p.l _ _ s) (Reps.pass p r)
  | _, _, .exn n s => .exn n (p.x _ _ s)
  | _, _, .deep d a => .deep d a
  | _, _, .obj h => .obj h
theorem Reps.pass (p : Pass F F') : ∀ {ds : List D} {vs : List V}, Reps K F ds vs → Reps K F' ds vs
  | _, _, .nil => .nil
  | _, _, .cons r t => .cons (Rep.pass p r) (Reps.pass p t)
theorem RepK.pass (p : Pass F F') : ∀ {ds : List (Key × D)} {vs : List (Key × V)}, RepK K F ds vs → RepK K F' ds vs
  | _, _, .nil => .nil
  | _, _, .cons r t => .cons (Rep.pass p r) (RepK.pass p t)
theorem RepT.pass (p : Pass F F') : ∀ {ds : List (List Key × D)} {vs : List (List Key × V)}, RepT K F ds vs → RepT K F' ds vs
  | _, _, .nil => .nil
  | _, _, .cons r t => .cons (Rep.pass p r) (RepT.pass p t)
end
theorem RowsAt.pass (pf : Pass F F') (ph : Pass H H') : ∀ {rs : List D} {vs : List V}, RowsAt K F H rs vs → RowsAt K F' H' rs vs
  | _, _, .nil => .nil
  | _, _, .cons q r t => .cons (ph.l _ _ q) (r.pass pf) (RowsAt.pass pf ph t)
theorem View.pass (pf : Pass F F') (ph : Pass H H') {d : D} {v : V} (r : View K F H d v) : View K F' H' d v := by
  cases d with
  | lst ds => obtain ⟨a, vs, e, q, r⟩ := r; exact ⟨a, vs, e, ph.l _ _ q, r.pass pf⟩
  | scr ns => obtain ⟨a, e, q⟩ := r; exact ⟨a, e, ph.seq q⟩
  | tup ds => obtain ⟨a, vs, e, q, r⟩ := r; exact ⟨a, vs, e, ph.t _ _ q, r.pass pf⟩
  | dK ds => obtain ⟨a, vs, e, q, r⟩ := r; exact ⟨a, vs, e, ph.k _ _ q, r.pass pf⟩
  | dT ds => obtain ⟨a, vs, e, q, r⟩ := r; exact ⟨a, vs, e, ph.kt _ _ q, r.pass pf⟩
  | rows ds =>
    obtain ⟨a, vs, e, q, r⟩ := r
    refine ⟨a, vs, e, ph.l _ _ q, ?_⟩
    rcases r with r | r
    · exact .inl (r.pass pf)
    · exact .inr (r.pass pf ph)
  | exn c => obtain ⟨a, C, e, n, q⟩ := r; exact ⟨a, C, e, n, ph.x _ _ q⟩
  | _ => exact r
mutual
theorem OwD.pass (pf : Pass F F') (ph : Pass H H') : ∀ {d : D} {v : V}, OwD K F H d v → OwD K F' H' d v
  | _, _, .set z r => .set z (r.pass pf)
  | _, _, .lst q t => .lst (ph.l _ _ q) (OwDs.pass pf ph t)
  | _, _, .tup z q t => .tup z (ph.t _ _ q) (OwDs.pass pf ph t)
  | _, _, .junk q l => .junk (ph.l _ _ q) l
theorem OwDs.pass (pf : Pass F F') (ph : Pass H H') : ∀ {ds : List D} {vs : List V}, OwDs K F H ds vs → OwDs K F' H' ds vs
  | _, _, .nil => .nil
  | _, _, .cons r t => .cons (OwD.pass pf ph r) (OwDs.pass pf ph t)
end
theorem Own.pass {a : Addr} {d : D} (pf : Pass F F') (ph : Pass H H') (e : H' a = H a) (o : Own K F H a d) : Own K F' H' a d := by
  cases d with
  | lst ds => obtain ⟨vs, q, r⟩ := o; exact ⟨vs, by rw [e]; exact q, r.pass pf⟩
  | dK ds => obtain ⟨vs, q, r⟩ := o; exact ⟨vs, by rw [e]; exact q, r.pass pf⟩
  | dT ds => obtain ⟨vs, q, r⟩ := o; exact ⟨vs, by rw [e]; exact q, r.pass pf⟩
  | rows ds => obtain ⟨vs, q, r⟩ := o; exact ⟨vs, by rw [e]; exact q, r.pass pf ph⟩
  | deep d => exact ⟨OwD.pass pf ph o.1, o.2⟩
  | _ => exact o.elim
def Lk (d : Addr) (x y : HO) (A B : Hp) : Prop := (∀ b, b ≠ d → B b = A b) ∧ ((A d = none ∧ B d = none) ∨ (A d = some x ∧ B d = some y))
theorem Lk.at {d : Addr} {x y : HO} (h : Lk d x y A B) (e : A d = some x) : B d = some y := by
  rcases h.2 with ⟨z, _⟩ | ⟨_, z⟩
  · rw [z] at e; cases e
  · exact z
theorem Lk.same {d : Addr} {x y : HO} (h1 : Lk d x y A B) (h2 : Lk d x y A' B') (s : Same A A') : Same B B' := fun b u e => by
  by_cases hb : b = d
  · subst hb
    rcases h1.2 with ⟨_, z⟩ | ⟨z, z'⟩
    · rw [z] at e; cases e
    · rw [z'] at e
      cases e
      exact h2.at (s _ _ z)
  · rw [h1.1 b hb] at e
    rw [h2.1 b hb]
    exact s _ _ e
def Cd.at (C : Cd) (F0 H0 : Hp) : Cd := ⟨C.K, F0, H0, C.XW, C.ln, C.io, C.wd⟩
theorem CellAt.pass {a : Addr} {c : Cell} (pf : Pass F F') (ph : Pass H H') (w : CellAt K F H a c) : CellAt K F' H' a c := by
  cases c with
  | ins c fs => obtain ⟨dx, vs, h1, h2, h3, h4⟩ := w; exact ⟨dx, vs, ph.i _ _ _ _ h1, ph.w _ _ h2, h3, h4.pass pf⟩
  | lst ds => obtain ⟨vs, h1, h2⟩ := w; exact ⟨vs, ph.l _ _ h1, h2.pass pf⟩
  | dK ds => obtain ⟨vs, h1, h2⟩ := w; exact ⟨vs, ph.k _ _ h1, h2.pass pf⟩
  | dT ds => obtain ⟨vs, h1, h2⟩ := w; exact ⟨vs, ph.kt _ _ h1, h2.pass pf⟩
theorem WV.pass {W : Wd} (pf : Pass F F') (ph : Pass H H') (w : WV K F H W) : WV K F' H' W := fun k c e => by
  obtain ⟨a, h1, h2⟩ := w k c e
  exact ⟨a, h1, h2.pass pf ph⟩
theorem Lk.ext {d : Addr} {x y : HO} {F0 H0 F1 H1 F0' H0' F1' H1' : Hp} (lF0 : Lk d x y F0 F0') (e : Ext F0 H0 F1 H1) (h0 : H0 d = some x) (lH0 : Lk d x y H0 H0') (lF : Lk d x y F1 F1') (lH : Lk d x y H1 H1') : Ext F0' H0' F1' H1' := by
  refine ⟨lF0.same lF e.f, lH0.same lH e.h, fun a u z => ?_⟩
  by_cases hb : a = d
  · subst hb
    rcases lF.2 with ⟨_, w⟩ | ⟨w, w'⟩
    · rw [w] at z; cases z
    · rw [w'] at z
      cases z
      rcases e.n _ _ w with q | q
      · exact .inl (lF0.at q)
      · rw [h0] at q; cases q
  · rw [lF.1 a hb] at z
    rcases e.n _ _ z with q | q
    · exact .inl (by rw [lF0.1 a hb]; exact q)
    · exact .inr (by rw [lH0.1 a hb]; exact q)
end
section
variable {X : Cx} {C : Cd} {e tg : Expr} {f : En → R D} {pos : Pos} {K : Kx}
end
end DL
namespace DL
open PySem PySem.Spec PyProof.Rows L2
inductive Mix (K : Kx) (F H : Hp) : List Bool → List D → List V → Prop
  | nil : Mix K F H [] [] []
  | r {d : D} {v : V} {ks : List Bool} {ds : List D} {vs : List V} : View K F H d v → Mix K F H ks ds vs → Mix K F H (false :: ks) (d :: ds) (v :: vs)
  | e {d : D} {v : V} {ks : List Bool} {ds : List D} {vs : List V} : Rep K F d v → Mix K F H ks ds vs → Mix K F H (true :: ks) (d :: ds) (v :: vs)
theorem Mix.get {K : Kx} {F H : Hp} : ∀ {ks : List Bool} {ds : List D} {vs : List V} {i : Nat}, Mix K F H ks ds vs → ks[i]? = some true → ∃ d v, ds[i]? = some d ∧ vs[i]? = some v ∧ Rep K F d v
  | _, _, _, _, .nil, h => by simp at h
  | _, _, _, 0, .r _ _, h => by simp at h
  | _, _, _, 0, .e w _, _ => ⟨_, _, rfl, rfl, w⟩
  | _, _, _, i + 1, .r _ t, h => Mix.get (i := i) t h
  | _, _, _, i + 1, .e _ t, h => Mix.get (i := i) t h
section
variable {X : Cx} {C : Cd} {e a : Expr} {es : List Expr} {f : En → R D} {fs : En → R (List D)} {pos p apos cpos : Pos} {kk n : Nat} {fa : Addr} {fd : FuncData} {ps : List Str} {x : Str} {cls : Str → Addr} {den : Den} {CX : CXT} {E : XK} {ev : List Nat} {ks : List Bool}
def OutX (C : Cd) (ks : List Bool) (σ : L2.St) (F H : Hp) (x : R (List D)) (Q : List V → Hp → Prop) : Prop := match x with
  | .ok d => ∀ v F' H', Ext F H F' H' → Same F' H' → Mix C.K F' H' ks d v → Q v H'
  | .err c => ∀ F' H', Ext F H F' H' → Same F' H' → C.XW c σ H'
  | .bad => False
theorem OutX.later {σ : L2.St} {F H F1 H1 : Hp} {x : R (List D)} {Q : List V → Hp → Prop} (o : OutX C ks σ F H x Q) (e : Ext F H F1 H1) : OutX C ks σ F1 H1 x Q := by
  cases x with
  | ok d => exact fun v F' H' x s w => o v F' H' (e.trans x) s w
  | err c => exact fun F' H' x s => o F' H' (e.trans x) s
  | bad => exact o
end
end DL
namespace DL
open PySem PySem.Spec PyProof.Rows L2
section
variable {X : Cx} {C : Cd} {a b : Expr} {f g : En → R D} {apos cpos : Pos} {kk : Nat}
end
section
variable {prog : Program} {w : World} {A : Around} {E : Value → Shared → Prop} {s : Shared}
end
section
variable {X : Cx} {C : Cd} {a b : Expr} {f g : En → R D} {pos p kpos : Pos} {K : Kx} {F H : Hp}
end
end DL
namespace DL
open PySem PySem.Spec PyProof.Rows L2
section
variable {X : Cx} {C : Cd} {a : Expr} {f : En → R D} {t : TE} {pos p p2 kpos : Pos} {K : Kx} {F H : Hp} {kk : Nat}
end
end DL
namespace DL
open PySem PySem.Spec PyProof.Rows L2
section
variable {X : Cx} {C : Cd} {e a b c tg : Expr} {f g k : En → R D} {pos p p1 apos cpos : Pos} {kk : Nat} {es : List Expr} {fs : En → R (List D)}
def ofL (l : List Nat) : Str := ⟨l.toArray⟩
def splitL (x y : Str) : List Str := (TL.spl (TL.tl y) 0 [] (TL.tl x)).map ofL
def dSplit (x : Str) : D → R D
  | .str y => grd (decide (0 < y.length) && y.cps.all (· < 256) && decide (x.length + 2 ≤ sizeLine)) (.ok (.lst ((splitL x y).map .str)))
  | _ => .bad
def txop (f g : En → R D) (w : Str → D → R D) : En → R D := fun ρ => bd (f ρ) fun d => match d with
  | .str z => bd (g ρ) (w z)
  | _ => .bad
theorem splitL_eq {x y : Str} (h1 : 0 < y.length) (h2 : y.cps.all (· < 256) = true) : Txt.split x y = splitL x y := by
  refine TL.map_tl_inj ?_
  have hy : TL.tl y ≠ [] := fun e => by rw [TL.len_tl, e] at h1; exact absurd h1 (Nat.lt_irrefl 0)
  rw [TL.split_spl x y hy (TL.kind_ok h2)]
  unfold splitL
  rw [List.map_map]
  have : (TL.tl ∘ ofL) = id := rfl
  rw [this, List.map_id]
theorem d_split (ha : PE X a (tR C f)) (hb : PE X b (tR C g)) (hs : starEach [b] X.env = [(false, eval b X.env)] := by rfl) (hbase : attributeBase a "split" X.env (eval a X.env) = eval a X.env := by rfl) (hline : (apos.endLine == pos.line) = true := by rfl) :
    PE X (.Call (.Attribute a "split" apos) [b] [] pos) (tO C (txop f g dSplit)) := (pe_split ha hb hs hbase hline).mono fun σ H Q ⟨ρ, F, rl, o⟩ => by
  unfold txop at o
  refine ⟨ρ, F, rl, o.fst fun d v F1 H1 _ o x1 s1 w1 => ?_⟩
  cases d with
  | str x =>
    obtain rfl : v = V.str _ := w1
    have o : Out C σ F H (fun F' H' => New C.K H F' H') (bd (g ρ) (dSplit x)) Q := o
    have o := Out.later o x1
    refine ⟨⟨x, rfl⟩, ρ, F1, rl.grow x1 s1, o.fst fun e y F2 H2 _ o x2 s2 w2 => ?_⟩
    have o := (Out.later o x2).newer (x1.h.trans x2.h)
    cases e with
    | str z =>
      obtain rfl : y = V.str _ := w2
      obtain ⟨hz, o⟩ := grd_out (c := decide (0 < z.length) && z.cps.all (· < 256) && decide (x.length + 2 ≤ sizeLine)) o
      rw [Bool.and_eq_true, Bool.and_eq_true] at hz
      have h1 := of_decide_eq_true hz.1.1
      refine ⟨x, z, rfl, rfl, ?_, of_decide_eq_true hz.2, fun q hq => ?_⟩
      · rw [beq_eq_false_iff_ne]; omega
      · rw [splitL_eq h1 hz.1.2]
        exact fin_lst o s2 (Same.refl _) (Reps.of_strs _) hq
    | _ => exact o.elim
  | _ => exact False.elim o
def partL (x y : Str) : Str × Str × Str := match TL.par (TL.tl y) [] (TL.tl x) with
  | some (u, v) => (ofL u, y, ofL v)
  | none => (x, Str.empty, Str.empty)
def dPart (x : Str) : D → R D
  | .str y => grd (decide (0 < y.length) && decide (x.length ≤ sizeLine)) (.ok (.tup [.str (partL x y).1, .str (partL x y).2.1, .str (partL x y).2.2]))
  | _ => .bad
theorem partL_eq {x y : Str} (h1 : 0 < y.length) : Txt.partition x y = partL x y := by
  have hy : TL.tl y ≠ [] := fun e => by rw [TL.len_tl, e] at h1; exact absurd h1 (Nat.lt_irrefl 0)
  rw [TL.partition_par x y hy]
  unfold partL
  cases TL.par (TL.tl y) [] (TL.tl x) with
  | none => rfl
  | some u => rfl
theorem d_partition (ha : PE X a (tR C f)) (hb : PE X b (tR C g)) (hs : starEach [b] X.env = [(false, eval b X.env)] := by rfl) (hbase : attributeBase a "partition" X.env (eval a X.env) = eval a X.env := by rfl) (hline : (apos.endLine == pos.line) = true := by rfl) :
    PE X (.Call (.Attribute a "partition" apos) [b] [] pos) (tO C (txop f g dPart)) := (pe_partition ha hb hs hbase hline).mono fun σ H Q ⟨ρ, F, rl, o⟩ => by
  unfold txop at o
  refine ⟨ρ, F, rl, o.fst fun d v F1 H1 _ o x1 s1 w1 => ?_⟩
  cases d with
  | str x =>
    obtain rfl : v = V.str _ := w1
    have o : Out C σ F H (fun F' H' => New C.K H F' H') (bd (g ρ) (dPart x)) Q := o
    have o := Out.later o x1
    refine ⟨⟨x, rfl⟩, ρ, F1, rl.grow x1 s1, o.fst fun e y F2 H2 _ o x2 s2 w2 => ?_⟩
    have o := (Out.later o x2).newer (x1.h.trans x2.h)
    cases e with
    | str z =>
      obtain rfl : y = V.str _ := w2
      obtain ⟨hz, o⟩ := grd_out (c := decide (0 < z.length) && decide (x.length ≤ sizeLine)) o
      rw [Bool.and_eq_true] at hz
      have h1 := of_decide_eq_true hz.1
      refine ⟨x, z, rfl, rfl, ?_, of_decide_eq_true hz.2, fun q hq => ?_⟩
      · rw [beq_eq_false_iff_ne]; omega
      · rw [partL_eq h1]
        exact fin_tup o s2 (.cons (.str _) (.cons (.str _) (.cons (.str _) .nil))) hq
    | _ => exact o.elim
  | _ => exact False.elim o
def isDig (l : List Nat) : Bool := !l.isEmpty && l.all fun c => decide (48 ≤ c) && decide (c ≤ 57)
def dIntT : List D → R D
  | [.str x] => grd (isDig (TL.tl x) && decide (x.length ≤ 640)) (.ok (.int ((NumText.digitsVal (TL.tl x) : Nat) : Int)))
  | ds => dIntB ds
theorem isDig_ok {l : List Nat} (h : isDig l = true) : l ≠ [] ∧ NumText.AllDigits l := by
  unfold isDig at h
  rw [Bool.and_eq_true, List.all_eq_true] at h
  refine ⟨fun e => by rw [e] at h; exact absurd h.1 Bool.false_ne_true, fun c hc => ?_⟩
  have := h.2 c hc
  rw [Bool.and_eq_true] at this
  exact ⟨of_decide_eq_true this.1, of_decide_eq_true this.2⟩
theorem isDig_of {l : List Nat} (h : l ≠ []) (h2 : ∀ c ∈ l, 48 ≤ c ∧ c ≤ 57) : isDig l = true := by
  unfold isDig
  rw [Bool.and_eq_true, List.all_eq_true]
  refine ⟨by cases l with | nil => exact absurd rfl h | cons => rfl, fun c hc => ?_⟩
  rw [decide_eq_true (h2 c hc).1, decide_eq_true (h2 c hc).2]; rfl
theorem intT_ok : OpL C (fun xs H Q => (∃ x n, xs = [.str x] ∧ intText? x = some n ∧ x.length ≤ 640 ∧ Q (.int n) H) ∨ ((∃ i, xs = [.int i] ∧ Q (.int i) H) ∨ ∃ k, xs = [.bl k] ∧ Q (.int (if k then 1 else 0)) H)) dIntT := by
  intro σ F H Q ds vs o s w
  unfold dIntT at o
  split at o
  · rename_i x
    obtain ⟨v, rfl, h⟩ := w.one
    cases h
    obtain ⟨hz, o⟩ := grd_out o
    rw [Bool.and_eq_true] at hz
    obtain ⟨h1, h2⟩ := isDig_ok hz.1
    have h3 := of_decide_eq_true hz.2
    exact .inl ⟨x, _, rfl, intText_digits h2 h1 (by omega), h3, fin_flat o s rfl⟩
  · exact .inr (intB_ok σ F H Q ds vs o s w)
theorem call_intT : CallR X (.type "int") (fun xs H Q => (∃ x n, xs = [.str x] ∧ intText? x = some n ∧ x.length ≤ 640 ∧ Q (.int n) H) ∨ ((∃ i, xs = [.int i] ∧ Q (.int i) H) ∨ ∃ k, xs = [.bl k] ∧ Q (.int (if k then 1 else 0)) H)) := CallR.or call_int_str call_int1
theorem d_intT (hm : X.mg "int" = none) (ha : PA X (e :: es) (tV C fs)) (hg : Gl X "int" := by rfl)
    (he : starEach (e :: es) X.env = (false, eval e X.env) :: starEach es X.env := by rfl) (hpl : (backTo pos (starEach es X.env)).any (·.1) = false := by rfl) : PE X (.Call (.Name "int" p) (e :: es) [] pos) (tO C (nop fs dIntT)) :=
  d_callTy call_intT intT_ok hm (by decide +kernel) ha hg (by decide) (by decide) he hpl
end
section
variable {f g : En → R D} {ρ : En} {x y : Str} {e : D} {w : Str → D → R D}
def txK (a b : R D) (w : Str → D → R D) : R D := bd a fun d => match d with
  | .str z => bd b (w z)
  | _ => .bad
theorem ap_txop : txop f g w ρ = txK (f ρ) (g ρ) w := rfl
theorem tx_ok : txK (.ok (.str x)) (.ok e) w = w x e := rfl
theorem ap_jopS : jop f g ρ = txK (f ρ) (g ρ) dJoin := rfl
theorem split_ok (h1 : 0 < y.length) (h2 : y.cps.all (· < 256) = true) (h3 : x.length ≤ 16000000) : dSplit x (.str y) = .ok (.lst ((splitL x y).map .str)) := by
  show grd (decide (0 < y.length) && y.cps.all (· < 256) && decide (x.length + 2 ≤ sizeLine)) _ = _
  rw [decide_eq_true h1, h2, decide_eq_true (show x.length + 2 ≤ sizeLine by rw [sizeLine_eq]; omega)]
  rfl
theorem part_ok (h1 : 0 < y.length) (h3 : x.length ≤ 16000000) : dPart x (.str y) = .ok (.tup [.str (partL x y).1, .str (partL x y).2.1, .str (partL x y).2.2]) := by
  show grd (decide (0 < y.length) && decide (x.length ≤ sizeLine)) _ = _
  rw [decide_eq_true h1, decide_eq_true (show x.length ≤ sizeLine by rw [sizeLine_eq]; omega)]
  rfl
theorem ofL_tl (x : Str) : ofL (TL.tl x) = x := TL.ext_tl rfl
theorem split_join {s : Nat} {S : List Nat} (ey : TL.tl y = s :: S) {parts : List Str} (hne : parts ≠ []) (hp : ∀ p ∈ parts, s ∉ TL.tl p) : splitL (Str.join y parts) y = parts := by
  unfold splitL
  rw [TL.tl_join, ey, TL.spl_join (fun e => hne (List.map_eq_nil_iff.mp e)) fun p h => by
    obtain ⟨z, hz, rfl⟩ := List.mem_map.mp h
    exact hp z hz]
  rw [List.map_map]
  have : (ofL ∘ TL.tl) = id := funext ofL_tl
  rw [this, List.map_id]
theorem part_app {s : Nat} {S : List Nat} (ey : TL.tl y = s :: S) {a b : Str} (h : s ∉ TL.tl a) : partL (a ++ y ++ b) y = (a, y, b) := by
  unfold partL
  rw [TL.tl_append, TL.tl_append, List.append_assoc, ey, TL.par_part1 h]
  show (ofL ([] ++ TL.tl a), y, ofL (TL.tl b)) = _
  rw [List.nil_append, ofL_tl, ofL_tl]
theorem intT_str (h1 : isDig (TL.tl x) = true) (h2 : x.length ≤ 640) : dIntT [.str x] = .ok (.int ((NumText.digitsVal (TL.tl x) : Nat) : Int)) := by
  show grd (isDig (TL.tl x) && decide (x.length ≤ 640)) _ = _
  rw [h1, decide_eq_true h2]
  rfl
end
end DL
namespace DL
open PySem PySem.Spec PyProof.Rows L2
abbrev veB : List Value := [.type "ValueError", .type "Exception", .type "BaseException", .type "object"]
structure ExcT (K : PySem.W.Frag) (mg : Str → Option Value) (c : Str) : Prop where
  n : PySem.W.nsIn K mainGlobals c = some (some (.ref (clsOf K c)))
  g : mg c = some (.ref (clsOf K c))
  x : PySem.W.excIn K (clsOf K c) veB "ValueError.__new__" = true
  k : PySem.W.keepIn K (.ref (clsOf K c)) = true
  s : PySem.W.subIn K (.ref (clsOf K c)) (.type "BaseException") = some true
  t : PySem.W.typeIn K (.ref (clsOf K c)) = some (.type "type")
theorem clsOf_eq {K : PySem.W.Frag} {c : Str} {C : Addr} (h : PySem.W.nsIn K mainGlobals c = some (some (.ref C))) : clsOf K c = C := by unfold clsOf; rw [h]
theorem ExcT.of {K : PySem.W.Frag} {mg : Str → Option Value} {c : Str} {C : Addr} (n : PySem.W.nsIn K mainGlobals c = some (some (.ref C))) (g : mg c = some (.ref C)) (x : PySem.W.excIn K C veB "ValueError.__new__" = true) (k : PySem.W.keepIn K (.ref C) = true)
    (s : PySem.W.subIn K (.ref C) (.type "BaseException") = some true) (t : PySem.W.typeIn K (.ref C) = some (.type "type")) : ExcT K mg c := by
  have e := clsOf_eq n
  subst e
  exact ⟨n, g, x, k, s, t⟩
theorem passN {X : Cx} : Passes CX0 X (fun _ _ _ => True) := fun _ _ _ _ _ _ _ h => False.elim h
section
variable {X : Cx} {C : Cd} {W : WX} {e a b : Expr} {f g : En → R D} {fs : En → R (List D)} {es : List Expr} {pos p p1 p2 : Pos} {kk : Nat} {fa : Addr} {fd : FuncData} {ps : List Str} {x : Str} {cls : Str → Addr} {n : Nat} {den : Den}
def sRaise (c : Str) : En → R Fl := fun _ => .err c
theorem s_raise {c m : Str} {j : Nat} (hc : X.calm = true) (tk : Takes X W) (T : ExcT X.K X.mg c) (hW : ∀ σ H, C.XW c σ H → W (.ref (clsOf X.K c)) none σ H) (hg : Gl X c := by rfl) (hdb : (c == ("__debug__" : Str)) = false := by decide) :
    PS X (.Raise (some (.Call (.Name c p) [.Constant (.str m) j p2] [] p1)) none pos) (tS C (sRaise c)) :=
  (ps_raise hc tk (pmk_own F.excBase_ValueError T.x T.g T.k (raises_own T.s T.t) hg hdb)).mono fun D σ H ⟨ρ, F, r, q⟩ => hW σ H (q ρ σ F H r)
theorem callES_ok (hXW : ∀ c σ H, C.XW c σ H → W (.ref (cls c)) none σ H) (hn : ∀ ds, den ds ≠ .bad → ds.length = n) : ∀ σ H Q, tE C (fun ρ => bd (fs ρ) (callE den)) σ H Q → tCallS (spD C.K.fr cls n den) (WE W) (tA C fs) σ H Q := by
  rintro σ H Q ⟨ρ, F, r, q⟩
  refine out_args r q fun ds vs F' H' hd q x s rp => ?_
  unfold callE at q
  have hnb : den ds ≠ .bad := fun z => by rw [z] at q; exact q
  refine ⟨by rw [rp.length]; exact hn ds hnb, C.K.as, F', ds, s, rp, ?_⟩
  cases hden : den ds with
  | bad => exact hnb hden
  | err c => rw [hden] at q; exact fun F2 H2 x2 s2 => hXW c σ H2 (q F2 H2 x2 s2)
  | ok z =>
    rw [hden] at q
    obtain ⟨o, d⟩ := z
    intro v F2 H2 x2 s2 w
    cases o with
    | false => exact q v F2 H2 x2 s2 (by simpa using w)
    | true =>
      have w' : New C.K H' F2 H2 d v := by simpa using w
      obtain ⟨F3, x3, _, s3, w3⟩ := w'.rep s2 x2
      exact q v F3 H2 x3 s3 w3
theorem callOS_ok (hXW : ∀ c σ H, C.XW c σ H → W (.ref (cls c)) none σ H) (hn : ∀ ds, den ds ≠ .bad → ds.length = n) : ∀ σ H Q, tO C (fun ρ => bd (fs ρ) (callO den)) σ H Q → tCallS (spD C.K.fr cls n den) (WE W) (tA C fs) σ H Q := by
  rintro σ H Q ⟨ρ, F, r, q⟩
  refine out_args r q fun ds vs F' H' hd q x s rp => ?_
  unfold callO at q
  have hnb : den ds ≠ .bad := fun z => by rw [z] at q; exact q
  refine ⟨by rw [rp.length]; exact hn ds hnb, C.K.as, F', ds, s, rp, ?_⟩
  cases hden : den ds with
  | bad => exact hnb hden
  | err c => rw [hden] at q; exact fun F2 H2 x2 s2 => hXW c σ H2 (q F2 H2 x2 s2)
  | ok z =>
    rw [hden] at q
    obtain ⟨o, d⟩ := z
    intro v F2 H2 x2 s2 w
    have q' : Out C σ F' H' (fun F' H' => New C.K H F' H') (grd (o || !isC d) (.ok d)) Q := q
    obtain ⟨ho, q2⟩ := grd_out q'
    cases o with
    | false => exact q2 v F2 H2 x2 s2 (New.of_rep (by simpa using ho) (by simpa using w))
    | true => exact q2 v F2 H2 x2 s2 (New.later x.h (by simpa using w))
theorem d_callEX (Fo : FnOk X.prog X.w X.K X.mg X.base (L2.CX X.prog X.w) kk fa fd ps (spD C.K.fr cls n den)) (hn : ∀ ds, den ds ≠ .bad → ds.length = n) (hr : Room kk X.A) (hm : X.mg x = some (.ref fa)) (hk : PySem.W.keepIn X.K (.ref fa) = true) (hb : Binds X.K fd ps []) (tk : Takes X W) (hXW : ∀ c σ H, C.XW c σ H → W (.ref (cls c)) none σ H)
    (ha : PA X (e :: es) (tA C fs)) (hg : Gl X x := by rfl) (hdb : (x == ("__debug__" : Str)) = false := by decide) (he : starEach (e :: es) X.env = (false, eval e X.env) :: starEach es X.env := by rfl) (hpl : (backTo pos (starEach es X.env)).any (·.1) = false := by rfl) :
    PE X (.Call (.Name x p) (e :: es) [] pos) (tE C (nop fs (callE den))) := (pe_callS Fo hr hg hm hk hb (passAt tk) ha hdb he hpl).mono (callES_ok hXW hn)
theorem d_callOX (Fo : FnOk X.prog X.w X.K X.mg X.base (L2.CX X.prog X.w) kk fa fd ps (spD C.K.fr cls n den)) (hn : ∀ ds, den ds ≠ .bad → ds.length = n) (hr : Room kk X.A) (hm : X.mg x = some (.ref fa)) (hk : PySem.W.keepIn X.K (.ref fa) = true) (hb : Binds X.K fd ps []) (tk : Takes X W) (hXW : ∀ c σ H, C.XW c σ H → W (.ref (cls c)) none σ H)
    (ha : PA X (e :: es) (tA C fs)) (hg : Gl X x := by rfl) (hdb : (x == ("__debug__" : Str)) = false := by decide) (he : starEach (e :: es) X.env = (false, eval e X.env) :: starEach es X.env := by rfl) (hpl : (backTo pos (starEach es X.env)).any (·.1) = false := by rfl) :
    PE X (.Call (.Name x p) (e :: es) [] pos) (tO C (nop fs (callO den))) := (pe_callS Fo hr hg hm hk hb (passAt tk) ha hdb he hpl).mono (callOS_ok hXW hn)
end
theorem ok_defX {P : Program} {w : World} {K : PySem.W.Frag} {mg : Str → Option Value} {base : Heap} {x qual : Str} {fs : Stmt} {fa : Addr} {fd : FuncData} {N ps : List Str} {k : Nat} {cls : Str → Addr} {g : En → R Fl} (Fn : Fun K x qual fs fa fd) (S : FnScope N ps (defScope fs))
    (hb : ∀ (cdv : Value) (A : Around) (outer : List Env) (s : Shared) (H : Hp) (E : XK) (F0 : Hp) (as : List Addr), Room k (A.deeper (envOfC qual (defScope fs) s.heap.objs.size fa cdv)) → Takes (cxOf (L2.CX P w) P w K mg base N qual (defScope fs) fa cdv A outer s H E) (fun c d _ H => E c d H) →
      PSs (cxOf (L2.CX P w) P w K mg base N qual (defScope fs) fa cdv A outer s H E) (defBody fs) (tS ⟨⟨K, as⟩, F0, H, fun c _ H' => E (.ref (cls c)) none H', fun _ => none, [], []⟩ g)) :
    FnOk P w K mg base (L2.CX P w) (k + 1) fa fd ps (spD K cls ps.length (bodyD ps.length N.length g)) := by
  refine Fn.okX S (fun vs H Q E h => h.1) (fun cdv A outer s H vs Q E hr h => ?_)
  obtain ⟨hl, as, F, ds, sf, r, q⟩ := h
  refine ⟨_, hb cdv A outer s H E F as hr (takes_of rfl rfl rfl rfl), args N.length ds, F, args_rel sf r, ?_⟩
  unfold bodyD at q
  rw [if_pos (by rw [← r.length]; exact hl)] at q
  cases hgg : g (args N.length ds) with
  | bad => rw [hgg] at q; exact q.elim
  | err c => rw [hgg] at q; exact fun ρ σ F' H' r' => q F' H' r'.ext r'.sub
  | ok fl =>
    rw [hgg] at q
    cases fl with
    | next ρ' => exact fun σ' F' H' s' r' => q .non F' H' r'.ext r'.sub .non
    | ret o d => exact fun v F' H' x s' w => q v F' H' x s' (RetV.of rfl w)
    | brk ρ' => exact q.elim
    | cont ρ' => exact q.elim
def Cd.wx (C : Cd) (W : WX) : Cd := { C with XW := fun c σ H => W (.ref (clsOf C.K c)) none σ H }
theorem Rel.wx {C : Cd} {W : WX} {ρ : En} {σ : L2.St} {F H : Hp} (r : Rel C ρ σ F H) : Rel (C.wx W) ρ σ F H := ⟨r.ext, r.sub, r.len, r.slot, r.ownF, r.apartF, r.lend, r.wok⟩
def catchD (tbl : List (Str × Nat)) (hs : List (En → R Fl)) (c : Str) (ρ : En) : R Fl := match tbl.lookup c with
  | some i => match hs[i]? with
    | some h => h ρ
    | none => .err c
  | none => .bad
def sTryE (f : En → R D) (k : D → En → R Fl) (tbl : List (Str × Nat)) (hs : List (En → R Fl)) : En → R Fl := fun ρ => match f ρ with
  | .ok d => k d ρ
  | .err c => catchD tbl hs c ρ
  | .bad => .bad
inductive HdsD (X : Cx) (C : Cd) : List ExceptHandler → List (Value × (Addr → Value → Option Addr → TS)) → List (En → R Fl) → Prop
  | nil : HdsD X C [] [] []
  | cons {x : Str} {c : Addr} {h : En → R Fl} {b₀ : Stmt} {suite : List Stmt} {np pos' : Pos} {hds : List ExceptHandler} {l : List (Value × (Addr → Value → Option Addr → TS))} {hs : List (En → R Fl)} (hc : Names X x (.ref c))
      (hsu : ∀ (a : Addr) (pn : List (Addr × Obj)), PSs (X.suite a pn) (b₀ :: suite) (tS C h)) (r : HdsD X C hds l hs) :
      HdsD X C (.ExceptHandler (some (.Name x np)) none (b₀ :: suite) pos' :: hds) ((.ref c, fun _ _ _ => tS C h) :: l) (h :: hs)
theorem HdsD.ok {X : Cx} {C : Cd} {hds : List ExceptHandler} {l : List (Value × (Addr → Value → Option Addr → TS))} {hs : List (En → R Fl)} (h : HdsD X C hds l hs) : HdsOk X hds l := by
  induction h with
  | nil => exact .nil
  | cons hc hsu _ ih => exact .cons hc (fun a oe cls d pn _ _ => hsu a ((a, oe) :: pn)) ih
def takenBy (K : PySem.W.Frag) (c : Str) : List (Value × (Addr → Value → Option Addr → TS)) → Nat → Prop
  | [], _ => True
  | (v, _) :: _, 0 => PySem.W.exmOne K (.ref (clsOf K c)) v = some true
  | (v, _) :: l, i + 1 => PySem.W.exmOne K (.ref (clsOf K c)) v = some false ∧ takenBy K c l i
theorem many_ok {X : Cx} {C : Cd} {Wout : WX} (hK : X.K = C.K.fr) (hout : ∀ c σ H, C.XW c σ H → Wout (.ref (clsOf C.K c)) none σ H) {hds : List ExceptHandler} {l : List (Value × (Addr → Value → Option Addr → TS))} {hs : List (En → R Fl)} (hd : HdsD X C hds l hs) :
    ∀ (i : Nat) {c : Str} {T : Ends} {σ : L2.St} {F H : Hp} {ρ : En}, Rel C ρ σ F H → takenBy C.K c l i → Post C T F (match hs[i]? with | some h => h ρ | none => .err c) → wMany X.K Wout T l (.ref (clsOf C.K c)) none σ H := by
  induction hd with
  | nil => exact fun i c T σ F H ρ r _ q => hout c σ H (q ρ σ F H r)
  | @cons x cc h b₀ suite np pos' hds l hs hc hsu _ ih =>
    intro i c T σ F H ρ r tb q
    rw [hK]
    cases i with
    | zero => exact ⟨true, tb, fun _ a _ => ⟨ρ, F, r, q⟩, fun z => by cases z⟩
    | succ i =>
      refine ⟨false, tb.1, (fun z => by cases z), fun _ => ?_⟩
      have := ih i r tb.2 q
      rw [hK] at this
      exact this
section
variable {X : Cx} {C : Cd} {e : Expr} {f : En → R D} {pos pos1 : Pos} {h₀ : ExceptHandler} {hds : List ExceptHandler} {l : List (Value × (Addr → Value → Option Addr → TS))} {hs : List (En → R Fl)} {tbl : List (Str × Nat)} {Wout : WX}
theorem try_out {W : WX} {T : Ends} {σ : L2.St} {F H : Hp} {ρ : En} {P : Hp → Hp → D → V → Prop} {k : D → En → R Fl} {Q : VK} (r : Rel C ρ σ F H) (q : Post C T F (sTryE f k tbl hs ρ))
    (hok : ∀ d v F' H', Post C T F' (k d ρ) → Ext F H F' H' → Same F' H' → Rel C ρ σ F' H' → P F' H' d v → Q v H')
    (herr : ∀ c i F' H', tbl.lookup c = some i → Rel C ρ σ F' H' → Post C T F' (match hs[i]? with | some h => h ρ | none => .err c) → W (.ref (clsOf C.K c)) none σ H') : Out (C.wx W) σ F H P (f ρ) Q := by
  unfold sTryE at q
  cases hf : f ρ with
  | bad => rw [hf] at q; exact q.elim
  | ok d => rw [hf] at q; exact fun v F' H' x s w => hok d v F' H' (Post.up q x.f) x s (r.grow x s) w
  | err c =>
    rw [hf] at q
    have q : Post C T F (catchD tbl hs c ρ) := q
    unfold catchD at q
    cases ht : tbl.lookup c with
    | none => rw [ht] at q; exact q.elim
    | some i =>
      rw [ht] at q
      exact fun F' H' x s => herr c i F' H' ht (r.grow x s) (Post.up q x.f)
theorem s_tryDrop (hst : X.stack = X.env :: X.outer) (hfr : X.env.frame = some X.env.locals) (tk : Takes X Wout) (hK : X.K = C.K.fr) (hout : ∀ c σ H, C.XW c σ H → Wout (.ref (clsOf C.K c)) none σ H)
    (he : ∀ (W : WX) (pn : List (Addr × Obj)) (xe : Value → Shared → Prop), Takes (X.tr pn xe) W → PE (X.tr pn xe) e (tR (C.wx W) f)) (hd : HdsD X C (h₀ :: hds) l hs) (htb : ∀ c i, tbl.lookup c = some i → takenBy C.K c l i)
    (hs1 : swapsWith e none pos1.line X.env = pure false := by rfl) : PS X (.Try [.Expr e pos1] (h₀ :: hds) [] [] pos) (tS C (sTryE f (fun _ ρ => .ok (.next ρ)) tbl hs)) :=
  (ps_try_many (tb := fun W T σ H => tR (C.wx W) f σ H fun _ H' => T.nx σ H') hst hfr tk (fun W pn xe tk' _ => pss_one ((ps_expr (he W pn xe tk') hs1).mono fun T σ H h => h)) hd.ok).mono fun T σ H ⟨ρ, F, r, q⟩ =>
    ⟨ρ, F, r.wx, try_out r q (fun d v F' H' q x s r' _ => q σ F' H' (Same.refl _) r') fun c i F' H' ht r' q' => many_ok hK hout hd i r' (htb c i ht) q'⟩
end
end DL
namespace DL
open PySem PySem.Spec PyProof.Rows L2
section
variable {X : Cx} {pins : List (Addr × Obj)} {σ : L2.St} {H : Hp} {s : Shared}
theorem Inv_track {a : Addr} {φ : Heap → Prop} (I : Inv X pins σ H s) (hn : H a = none) (h0 : X.s_0.heap.get? a = none) (nL : a ≠ X.env.locals) (nC : ∀ y c, X.env.cells.lookup y = some c → c ≠ a) (nP : ∀ q ∈ X.pn ++ pins, q.1 ≠ a)
    (new : ObjOk X.prog X.w (upd H a (.ext φ)) s.heap a (.ext φ)) : Inv X pins σ (upd H a (.ext φ)) s where
  ok := I.ok
  os := I.os
  bare := I.bare
  base := {
    keep := I.base.keep
    slot := I.base.slot
    free := fun b o e n hx => by
      rw [upd_ne (fun (z : b = a) => by rw [z, h0] at e; cases e)]
      exact I.base.free b o e n hx
    there := I.base.there
    tups := fun b xs e => by
      have q := I.base.tups b xs e
      rw [upd_ne (ne_of_none q hn)]; exact q
    frzs := fun b o u e => by
      have q := I.base.frzs b o u e
      rw [upd_ne (ne_of_none q hn)]; exact q
    tbls := fun b tb e => by
      obtain ⟨more, q⟩ := I.base.tbls b tb e
      exact ⟨more, by rw [upd_ne (ne_of_none q hn)]; exact q⟩ }
  loc := I.loc
  cell := I.cell
  free := by rw [upd_ne (Ne.symm nL)]; exact I.free
  freeC := fun y c e => by rw [upd_ne (nC y c e)]; exact I.freeC y c e
  pin := fun q hq => by
    obtain ⟨g1, g2, g3⟩ := I.pin q hq
    exact ⟨g1, by rw [upd_ne (nP q hq)]; exact g2, g3⟩
  hok := fun b u e => by
    by_cases hb : b = a
    · subst hb
      rw [upd_same] at e
      cases e
      exact new
    · rw [upd_ne hb] at e
      exact (I.hok b u e).stay (fun _ _ _ q => q) (fun c q => by rw [upd_ne (ne_of_none q hn)]; exact q) fun c xs q => by rw [upd_ne (ne_of_none q hn)]; exact q
  len := I.len
theorem Inv_into (I : Inv X pins σ H s) (a : Addr) : Inv (X.suite a (X.pn ++ pins)) [] σ H s :=
  ⟨I.ok.suite _ _, I.os, I.bare, I.base, I.loc, I.cell, I.free, I.freeC, fun q hq => I.pin q (by rw [List.append_nil] at hq; exact hq), I.hok, I.len⟩
theorem Inv_outof {a : Addr} {qs : List (Addr × Obj)} (I : Inv (X.suite a (X.pn ++ pins)) qs σ H s) (ok : X.Ok) : Inv X pins σ H s :=
  ⟨ok, I.os, I.bare, I.base, I.loc, I.cell, I.free, I.freeC, fun q hq => I.pin q (List.mem_append_left _ hq), I.hok, I.len⟩
end
def wKept (K : PySem.W.Frag) (c : Value) (i : Nat) (ts : Addr → Addr → TS) (Wout : WX) (D : Ends) : WX := fun cls d σ H =>
  ∃ b, PySem.W.exmOne K cls c = some b ∧ (b = true → ∃ C, cls = .ref C ∧ d = none ∧ ∀ a, H a = none → ts C a { nx := fun σ' H' => D.nx (σ'.set i none) H', rt := D.rt, bk := fun σ' H' => D.bk (σ'.set i none) H', ct := fun σ' H' => D.ct (σ'.set i none) H' } (σ.set i (some (.ref a))) (upd H a (exK C a))) ∧ (b = false → Wout cls d σ H)
section
variable {X : Cx} {x n : Str} {c : Value} {i : Nat} {body suite : List Stmt} {b₀ : Stmt} {np pos pos' : Pos} {tb : WX → TS} {ts : Addr → Addr → TS} {Wout : WX}
theorem ps_try_kept (hst : X.stack = X.env :: X.outer) (hfm : X.env.frame = some X.env.locals) (hN : X.N.Nodup) (hi : X.N[i]? = some n) (hlo : X.env.kindOf n = some .local) (hc : Names X x c) (hex : X.ex = []) (tk : Takes X Wout)
    (hb : ∀ (W : WX) (pn : List (Addr × Obj)) (xe : Value → Shared → Prop), Takes (X.tr pn xe) W → PassesOwn (model X.prog X.w) X.A X.env xe → PSs (X.tr pn xe) body (tb W))
    (hsu : ∀ (C a : Addr) (pn : List (Addr × Obj)), PSs (X.suite a pn) (b₀ :: suite) (ts C a)) :
    PS X (.Try body [.ExceptHandler (some (.Name x np)) (some n) (b₀ :: suite) pos'] [] [] pos) (fun D σ H => tb (wKept X.K c i ts Wout D) D σ H) := by
  refine ⟨fun pins s σ H D I hw => ?_⟩
  have okX := I.ok
  have frm : X.A.frames = some (X.env :: X.outer) := by rw [okX.frames, hst]
  refine wpAny_Try_except ?_
  refine wpAny_mono ((hb (wKept X.K c i ts Wout D) (X.pn ++ pins) (fun u t1 => wpAny (model X.prog X.w) X.A (noteFrame u X.env) (fun _ t2 => wpAny (model X.prog X.w) X.A (setFlight u none)
    (fun _ t3 => wpAny (model X.prog X.w) X.A (handleBy u X.env [.ExceptHandler (some (.Name x np)) (some n) (b₀ :: suite) pos']) (SP X pins D) X.xe t3) X.xe t2) X.xe t1) (fun u t fly => ?caught) PassesOwn.looking).run [] s σ H D (I.toTry _) hw) (fun fl t after => ?thru) (fun _ _ z => z)
  case thru =>
    cases fl with
    | next =>
      obtain ⟨σ1, H1, I1, q⟩ := after
      exact wpAny_execs_nil ⟨σ1, H1, I1.ofTry okX, q⟩
    | brk =>
      obtain ⟨σ1, H1, I1, q⟩ := after
      exact ⟨σ1, H1, I1.ofTry okX, q⟩
    | cont =>
      obtain ⟨σ1, H1, I1, q⟩ := after
      exact ⟨σ1, H1, I1.ofTry okX, q⟩
    | ret w =>
      obtain ⟨v, σ1, H1, I1, r, q⟩ := after
      exact ⟨v, σ1, H1, I1.ofTry okX, r, q⟩
  case caught =>
    obtain ⟨a, B, s1, pins1, σ1, H1, cls, dd, rfl, Ib, inB, upS, air, fresh, hos, hgens, b, hmatch, yes, no⟩ := fly
    have I1 : Inv X pins σ1 H1 s1 := Ib.ofTry okX
    have air' : Sky B (X.env :: X.outer) a (Zc cls dd) X.env.locals t.heap := by rw [← hst]; exact air
    have aB : B.get? a = none := by
      rcases air' with ⟨_, z, _⟩ | z | z
      · exact z
      · exact z.2.1
      · exact z.2.1
    show wpAny (model X.prog X.w) X.A (noteFrame (.ref a) X.env) _ _ _
    refine Sky.land Zc.steady frm hfm air' fun ha flyA upA => ?_
    have IA : Inv X pins σ1 H1 { t with heap := ha } := I1.landed inB flyA.1 (upS.trans upA) hos hgens
    have offFr : ∀ {h : Heap} {o : Obj} {vs : Array Value}, h.FunFrames B (X.env :: X.outer) → h.get? a = some o → o.data = .fields vs → a ∉ frs (X.env :: X.outer) := fun {h o vs} ff e e2 hm => by
      obtain ⟨_, o2, e3, no2⟩ := ff.mem hm
      rw [e] at e3
      cases e3
      exact no2 _ e2
    obtain ⟨oa, va, ea, za, da⟩ := flyA.there
    have aFr := offFr flyA.2.2.1 ea da
    have aL : a ≠ X.env.locals := fun z => aFr (List.mem_filterMap.mpr ⟨X.env, List.mem_cons_self, by rw [hfm, z]⟩)
    have aFs : a ∉ X.fs := fun hm => by
      obtain ⟨e, he, q⟩ := List.mem_filterMap.mp hm
      exact aFr (List.mem_filterMap.mpr ⟨e, List.mem_cons_of_mem _ he, q⟩)
    have a1 : s1.heap.get? a = none := by
      cases e : s1.heap.get? a with
      | none => rfl
      | some o =>
        have := inB a o e (by rw [hst]; exact aFr)
        rw [aB] at this
        cases this
    have a0 : X.s_0.heap.get? a = none := by
      cases e : X.s_0.heap.get? a with
      | none => rfl
      | some o =>
        obtain ⟨o2, e2⟩ := I1.base.there a o e (by rw [hex]; exact fun z => nomatch z)
        rw [a1] at e2
        cases e2
    have aC : ∀ y cc, X.env.cells.lookup y = some cc → cc ≠ a := fun y cc e z => by
      obtain ⟨_, o, e2, _⟩ := I1.cell y cc e
      rw [z, a1] at e2
      cases e2
    have aP : ∀ q ∈ X.pn ++ pins, q.1 ≠ a := fun q hq z => by
      have e2 := (I1.pin q hq).1
      rw [z, a1] at e2
      cases e2
    have SA := Inv_into IA a
    refine wpAny_handleBy_cons (codeAny_handlers_test ?_) (fun z => by cases z)
    have looksT : PySem.W.Looks (model X.prog X.w) ha (typeOf (.ref a)) cls := fun _ _ _ _ k q => wpAny_typeOf_ref (k _ _ ea) (by rw [za.1]; exact q)
    have looksM := PySem.W.exm_one (M := model X.prog X.w) IA.kIn looksT hmatch
    have named : ∀ {Q : Value → Shared → Prop} {E : Value → Shared → Prop}, Q c { t with heap := ha } → wpAny (model X.prog X.w) (X.A.mark (some (.ref a))) (eval (.Name x np) X.env) Q E { t with heap := ha } := fun {Q E} q => by
      obtain ⟨g1, g2, g3 | ⟨g3, g4, g5⟩⟩ := hc
      · exact ld_glob (X := X.suite a (X.pn ++ pins)) SA g1 g3 q g2
      · exact ld_blt (X := X.suite a (X.pn ++ pins)) SA g1 g3 g4 q g5 g2
    refine named (looksM.here ?_)
    cases b with
    | false =>
      show wpAny _ X.A (handleBy (.ref a) X.env []) _ _ _
      refine wpAny_handleBy_nil ?_
      obtain ⟨_, _, _, oe, vs, T, _, _, he, _, hd, h1, _⟩ := id flyA
      unfold PySem.passOn
      refine wpAny_bind (wpAny_field he hd h1 ?_)
      rw [if_neg (show ¬ ((Value.ref T == Value.none) = true) by simp)]
      have up2 : wpAny (model X.prog X.w) X.A (setFlight (.ref a) X.env.frame) (fun _ t4 => wpAny (model X.prog X.w) X.A (throw (.ref a) : Sem Flow) (SP X pins D) X.xe t4) X.xe { t with heap := ha } := by
        rw [hfm]
        exact HandSPX.setFlight_upZ flyA fun hb' held upB => wpAny_throw (tk _ _ ⟨a, B, s1, pins, σ1, H1, cls, dd, rfl, I1, inB, (upS.trans upA).trans upB, .inr (.inr (by rw [hst]; exact held)), fresh, hos, hgens, no rfl⟩)
      first
        | exact wpAny_bind (wpAny_pure (wpAny_bind up2))
        | exact wpAny_bind up2
    | true =>
      obtain ⟨C, rfl, rfl, yes2⟩ := yes rfl
      refine codeAny_handlers_suite_as (HandSPX.lands_againZ flyA fun hb' flyB upB => ?_)
      have IB : Inv X pins σ1 H1 { t with heap := hb' } := I1.landed inB flyB.1 ((upS.trans upA).trans upB) hos hgens
      obtain ⟨ob, vb, eb, zb, db⟩ := flyB.there
      have IT : Inv X pins σ1 (upd H1 a (exK C a)) { t with heap := hb' } := Inv_track IB fresh a0 aL aC aP ⟨⟨ob, eb, zb.1, zb.2, vb, db⟩, ⟨ob, eb⟩, fun _ _ ⟨o, e, r⟩ k => ⟨o, k o e, r⟩⟩
      refine store_ok (X := X.suite a (X.pn ++ pins)) (v := .ref a) (Inv_into IT a) hN hi (.inl hlo) rfl (fun t5 I5 => ?_) (.inr hlo)
      have out : ∀ {σ6 : L2.St} {H6 : Hp} {t6 : Shared} {Q : Shared → Prop}, Inv (X.suite a (X.pn ++ pins)) [] σ6 H6 t6 → (∀ t7, Inv X pins (σ6.set i none) H6 t7 → Q t7) → wpAny (model X.prog X.w) X.A (do bindName X.env n .none; unbindBehindTheSuite X.env n pos') (fun _ t7 => Q t7) X.xe t6 := fun I6 hq => gone_ok (Inv_outof I6 okX) hN hi hlo hq
      refine wpAny_mono ((hsu C a (X.pn ++ pins)).run [] t5 _ _ _ I5 (yes2 a fresh)) (fun fl t6 after => ?_) (fun _ _ z => False.elim z)
      cases fl with
      | next =>
        obtain ⟨σ6, H6, I6, q⟩ := after
        exact out I6 fun t7 I7 => ⟨_, _, I7, q⟩
      | brk =>
        obtain ⟨σ6, H6, I6, q⟩ := after
        exact out I6 fun t7 I7 => ⟨_, _, I7, q⟩
      | cont =>
        obtain ⟨σ6, H6, I6, q⟩ := after
        exact out I6 fun t7 I7 => ⟨_, _, I7, q⟩
      | ret w =>
        obtain ⟨v, σ6, H6, I6, r, q⟩ := after
        exact out I6 fun t7 I7 => ⟨_, _, _, I7, r, q⟩
end
def gone (i : Nat) : R Fl → R Fl
  | .ok (.next ρ) => .ok (.next (ρ.set i none))
  | .ok (.brk ρ) => .ok (.brk (ρ.set i none))
  | .ok (.cont ρ) => .ok (.cont (ρ.set i none))
  | r => r
def catchAs (i : Nat) (tbl : List (Str × Bool)) (h : En → R Fl) (c : Str) (ρ : En) : R Fl := match tbl.lookup c with
  | some true => gone i (h (ρ.set i (some (false, .exn c))))
  | some false => .err c
  | none => .bad
def sTryAs (i : Nat) (f : En → R D) (k : D → En → R Fl) (tbl : List (Str × Bool)) (h : En → R Fl) : En → R Fl := fun ρ => match f ρ with
  | .ok d => k d ρ
  | .err c => catchAs i tbl h c ρ
  | .bad => .bad
section
variable {X : Cx} {C : Cd} {e : Expr} {f : En → R D} {h : En → R Fl} {pos pos1 pos' np : Pos} {tbl : List (Str × Bool)} {Wout : WX} {i : Nat} {x n : Str} {dc : Addr} {b₀ : Stmt} {suite : List Stmt}
theorem Rel.caught {ρ : En} {σ : L2.St} {F H : Hp} {a : Addr} {c : Str} (r : Rel C ρ σ F H) (na : H a = none) (hn : PySem.W.nsIn C.K mainGlobals c = some (some (.ref (clsOf C.K c)))) (hl : C.ln i = none) :
    Rel C (ρ.set i (some (false, .exn c))) (σ.set i (some (.ref a))) (upd F a (exK (clsOf C.K c) a)) (upd H a (exK (clsOf C.K c) a)) := by
  have nf : F a = none := r.sub.free na
  have g : Ext F H (upd F a (exK (clsOf C.K c) a)) (upd H a (exK (clsOf C.K c) a)) := ⟨same_upd nf, same_upd na, fun b o e => by
    by_cases hb : b = a
    · rw [hb]; exact .inr na
    · rw [upd_ne hb] at e; exact .inl e⟩
  refine (r.grow g fun b o e => ?_).set (.exn hn upd_same) hl
  by_cases hb : b = a
  · rw [hb, upd_same] at e
    rw [hb, upd_same]; exact e
  · rw [upd_ne hb] at e
    rw [upd_ne hb]; exact r.sub b o e
theorem post_gone {T : Ends} {B : Hp} {z : R Fl} (hl : C.ln i = none) (q : Post C T B (gone i z)) : Post C { nx := fun σ' H' => T.nx (σ'.set i none) H', rt := T.rt, bk := fun σ' H' => T.bk (σ'.set i none) H', ct := fun σ' H' => T.ct (σ'.set i none) H' } B z := by
  cases z with
  | bad => exact q
  | err c => exact q
  | ok fl =>
    cases fl with
    | next ρ => exact fun σ F H s r => q _ F H s (r.forget i none hl)
    | brk ρ => exact fun σ F H s r => q _ F H s (r.forget i none hl)
    | cont ρ => exact fun σ F H s r => q _ F H s (r.forget i none hl)
    | ret o d => exact q
theorem tryAs_out {W : WX} {T : Ends} {σ : L2.St} {F H : Hp} {ρ : En} {P : Hp → Hp → D → V → Prop} {k : D → En → R Fl} {Q : VK} (r : Rel C ρ σ F H) (q : Post C T F (sTryAs i f k tbl h ρ))
    (hok : ∀ d v F' H', Post C T F' (k d ρ) → Ext F H F' H' → Same F' H' → Rel C ρ σ F' H' → P F' H' d v → Q v H')
    (herr : ∀ c F' H', Rel C ρ σ F' H' → Post C T F' (catchAs i tbl h c ρ) → W (.ref (clsOf C.K c)) none σ H') : Out (C.wx W) σ F H P (f ρ) Q := by
  unfold sTryAs at q
  cases hf : f ρ with
  | bad => rw [hf] at q; exact q.elim
  | ok d => rw [hf] at q; exact fun v F' H' x s w => hok d v F' H' (Post.up q x.f) x s (r.grow x s) w
  | err c => rw [hf] at q; exact fun F' H' x s => herr c F' H' (r.grow x s) (Post.up q x.f)
theorem kept_ok (hK : X.K = C.K.fr) (hout : ∀ c σ H, C.XW c σ H → Wout (.ref (clsOf C.K c)) none σ H) (htb : ∀ c b, tbl.lookup c = some b → PySem.W.nsIn C.K mainGlobals c = some (some (.ref (clsOf C.K c))) ∧ PySem.W.exmOne C.K (.ref (clsOf C.K c)) (.ref dc) = some b) (hl : C.ln i = none)
    {c : Str} {T : Ends} {σ : L2.St} {F H : Hp} {ρ : En} (r : Rel C ρ σ F H) (q : Post C T F (catchAs i tbl h c ρ)) : wKept X.K (.ref dc) i (fun _ _ => tS C h) Wout T (.ref (clsOf C.K c)) none σ H := by
  unfold catchAs at q
  cases ht : tbl.lookup c with
  | none => rw [ht] at q; exact q.elim
  | some b =>
    rw [ht] at q
    obtain ⟨h1, h2⟩ := htb c b ht
    rw [hK]
    refine ⟨b, h2, fun hb => ?_, fun hb => ?_⟩
    · subst hb
      refine ⟨_, rfl, rfl, fun a na => ⟨_, _, r.caught na h1 hl, post_gone hl (Post.up q (same_upd (r.sub.free na)))⟩⟩
    · subst hb
      exact hout c σ H (q ρ σ F H r)
theorem s_tryDropAs (hst : X.stack = X.env :: X.outer) (hfr : X.env.frame = some X.env.locals) (hex : X.ex = []) (hc : Names X x (.ref dc)) (tk : Takes X Wout) (hK : X.K = C.K.fr) (hout : ∀ c σ H, C.XW c σ H → Wout (.ref (clsOf C.K c)) none σ H)
    (he : ∀ (W : WX) (pn : List (Addr × Obj)) (xe : Value → Shared → Prop), Takes (X.tr pn xe) W → PE (X.tr pn xe) e (tR (C.wx W) f)) (hsu : ∀ (a : Addr) (pn : List (Addr × Obj)), PSs (X.suite a pn) (b₀ :: suite) (tS C h))
    (htb : ∀ c b, tbl.lookup c = some b → PySem.W.nsIn C.K mainGlobals c = some (some (.ref (clsOf C.K c))) ∧ PySem.W.exmOne C.K (.ref (clsOf C.K c)) (.ref dc) = some b) (hN : X.N.Nodup)
    (hi : X.N[i]? = some n := by rfl) (hlo : X.env.kindOf n = some .local := by rfl) (hs1 : swapsWith e none pos1.line X.env = pure false := by rfl) (hl : C.ln i = none := by rfl) :
    PS X (.Try [.Expr e pos1] [.ExceptHandler (some (.Name x np)) (some n) (b₀ :: suite) pos'] [] [] pos) (tS C (sTryAs i f (fun _ ρ => .ok (.next ρ)) tbl h)) :=
  (ps_try_kept (tb := fun W T σ H => tR (C.wx W) f σ H fun _ H' => T.nx σ H') (ts := fun _ _ => tS C h) hst hfr hN hi hlo hc hex tk (fun W pn xe tk' _ => pss_one ((ps_expr (he W pn xe tk') hs1).mono fun T σ H h => h)) (fun _ a pn => hsu a pn)).mono fun T σ H ⟨ρ, F, r, q⟩ =>
    ⟨ρ, F, r.wx, tryAs_out r q (fun d v F' H' q x s r' _ => q σ F' H' (Same.refl _) r') fun c F' H' r' q' => kept_ok hK hout htb hl r' q'⟩
end
def rIsK (K : PySem.W.Frag) : List V → Hp → VK → Prop := fun xs H Q => ∃ (c : V) (cv : Value) (b : Bool) (a C : Addr), xs = [.ref a, c] ∧ H a = some (exK C a) ∧ ExcC K C ∧ (∀ u, RelV c u → u = cv) ∧ PySem.W.kitOne K (.ref C) cv = some b ∧ Q (.bl b) H
theorem call_isK {X : Cx} : CallR X (.builtin "isinstance") (rIsK X.K) := by
  intro pins s σ H xs us Q I r hq
  obtain ⟨c, cv, b, a, C, rfl, ha, E, hcv, e, q⟩ := hq
  cases r with
  | cons r1 r2 =>
    cases r2 with
    | cons r3 r4 =>
      cases r4
      cases r1
      have z := hcv _ r3
      subst z
      obtain ⟨⟨oe, g1, g2, g3, vs, g4⟩, _⟩ := I.hok a _ ha
      have J : PySem.W.InstAt s.heap a oe C none := by
        obtain ⟨oc, od, oda, osl⟩ := oe
        dsimp only at g2 g3 g4
        subst g2 g3 g4
        exact ⟨g1, rfl, rfl, trivial⟩
      exact PySem.W.kia_one (PySem.W.handS_kitx_exc E.hg E.hk E.hs E.hd E.ha E.hn E.ht E.hm) I.kIn J e (fun z => nomatch z) fun tk => ⟨.bl b, H, I.kept (t' := tk) fun _ _ z => z, rfl, q⟩
def isED (tb : List (Str × Bool)) : D → R D
  | .exn c => match tb.lookup c with
    | some b => .ok (.bl b)
    | none => .bad
  | .non => .ok (.bl false)
  | _ => .bad
section
variable {X : Cx} {C : Cd} {a b : Expr} {f : En → R D} {pos p : Pos}
theorem d_isE {cV : V} {cv : Value} {tb : List (Str × Bool)} (hC : X.K = C.K.fr) (ha : PE X a (tR C f)) (hb : PE X b (tC cV)) (hcl : ClsV cV cv) (htb : ∀ c bb, tb.lookup c = some bb → ExcC C.K (clsOf C.K c) ∧ PySem.W.kitOne C.K (.ref (clsOf C.K c)) cv = some bb) (hnon : PySem.W.kitOne C.K (.type "NoneType") cv = some false) (hm : X.mg "isinstance" = none) (hg : Gl X "isinstance" := by rfl)
    (hs2 : starEach [b] X.env = (false, eval b X.env) :: starEach [] X.env := by rfl)
    (he : starEach [a, b] X.env = (false, eval a X.env) :: starEach [b] X.env := by rfl) (hpl : (backTo pos (starEach [b] X.env)).any (·.1) = false := by rfl) :
    PE X (.Call (.Name "isinstance" p) [a, b] [] pos) (tO C (uop f (isED tb))) :=
  (pe_callB (CallR.or call_isi call_isK) hg hm (by decide +kernel) (pa_cons ha (pa_cons hb pa_nil hs2) he) (by decide) (by decide) he hpl).mono (by
    rintro σ H Q ⟨ρ, F, rl, q⟩
    refine ⟨ρ, F, rl, q.fst fun d v F1 H1 _ q x1 s1 w1 => ?_⟩
    have q := Out.later q x1
    rw [hC]
    cases d with
    | non =>
      obtain rfl : v = V.non := w1
      exact .inl ⟨.non, cV, .type "NoneType", cv, false, rfl, hcl, .base .non, hnon, fin_flat q s1 rfl⟩
    | exn c =>
      obtain ⟨a, CC, rfl, hn, hH⟩ := w1
      have ec := clsOf_eq hn
      unfold isED at q
      cases ht : tb.lookup c with
      | none => simp only [ht] at q; exact q.elim
      | some bb =>
        simp only [ht] at q
        obtain ⟨t1, t2⟩ := htb c bb ht
        rw [ec] at t1 t2
        exact .inr ⟨cV, cv, bb, a, CC, rfl, hH, t1, fun u r => hcl.eq r, t2, fin_flat q s1 rfl⟩
    | _ => exact q.elim)
end
theorem lk_nil {β : Type} {P : Str → β → Prop} : ∀ c i, ([] : List (Str × β)).lookup c = some i → P c i := fun _ _ h => by cases h
theorem lk_cons {β : Type} {P : Str → β → Prop} {r : Str} {j : β} {t : List (Str × β)} (h : P r j) (ht : ∀ c i, t.lookup c = some i → P c i) : ∀ c i, ((r, j) :: t).lookup c = some i → P c i := fun c i e => by
  rw [List.lookup_cons] at e
  cases hc : (c == r) with
  | true =>
    rw [hc] at e
    cases e
    rw [beq_iff_eq.mp hc]; exact h
  | false => rw [hc] at e; exact ht c i e
theorem exm_at {K : PySem.W.Frag} {r x : Str} {a b : Addr} {t : Bool} (h1 : PySem.W.nsIn K mainGlobals r = some (some (.ref a))) (h2 : PySem.W.nsIn K mainGlobals x = some (some (.ref b))) (h : PySem.W.exmOne K (.ref a) (.ref b) = some t) : PySem.W.exmOne K (.ref (clsOf K r)) (.ref (clsOf K x)) = some t := by
  rw [clsOf_eq h1, clsOf_eq h2]; exact h
theorem kit_at {K : PySem.W.Frag} {r x : Str} {a b : Addr} {t : Bool} (h1 : PySem.W.nsIn K mainGlobals r = some (some (.ref a))) (h2 : PySem.W.nsIn K mainGlobals x = some (some (.ref b))) (h : PySem.W.kitOne K (.ref a) (.ref b) = some t) : PySem.W.kitOne K (.ref (clsOf K r)) (.ref (clsOf K x)) = some t := by
  rw [clsOf_eq h1, clsOf_eq h2]; exact h
theorem kitB_at {K : PySem.W.Frag} {r : Str} {a : Addr} {n : String} {t : Bool} (h1 : PySem.W.nsIn K mainGlobals r = some (some (.ref a))) (h : PySem.W.kitOne K (.ref a) (.type n) = some t) : PySem.W.kitOne K (.ref (clsOf K r)) (.type n) = some t := by
  rw [clsOf_eq h1]; exact h
theorem kitN_at {K : PySem.W.Frag} {x : Str} {b : Addr} {t : Bool} (h2 : PySem.W.nsIn K mainGlobals x = some (some (.ref b))) (h : PySem.W.kitOne K (.type "NoneType") (.ref b) = some t) : PySem.W.kitOne K (.type "NoneType") (.ref (clsOf K x)) = some t := by
  rw [clsOf_eq h2]; exact h
theorem excC_at {K : PySem.W.Frag} {r : Str} {D : Addr} (h1 : PySem.W.nsIn K mainGlobals r = some (some (.ref D)))
    (hg : PySem.W.findIn K (.ref D) "__getattribute__" = some (some (.builtin "BaseException.__getattribute__"))) (hk : PySem.W.findIn K (.ref D) "__getattr__" = some none) (hs : PySem.W.subIn K (.ref D) (.type "BaseException") = some true) (hd : PySem.W.hasDictIn K D = true)
    (ha : PySem.W.findIn K (.ref D) "__class__" = some (some (.builtin "object.__class__"))) (hn : PySem.W.specialIn K (.builtin "object.__class__") "__get__" = some (some (.builtin "getset_descriptor.__get__"))) (ht : PySem.W.takesIn K (.builtin "object.__class__") = some true) (hm : PySem.W.mroIn K D (.type "object") = some true) : ExcC K (clsOf K r) := by
  rw [clsOf_eq h1]; exact ⟨hg, hk, hs, hd, ha, hn, ht, hm⟩
theorem names_own {X : Cx} {x : Str} (E : ExcT X.K X.mg x) (hg : Gl X x := by rfl) (hd : (x == ("__debug__" : Str)) = false := by decide) : Names X x (.ref (clsOf X.K x)) := ⟨hg, hd, .inl E.g⟩
section
variable {ρ : En} {f : En → R D} {k : D → En → R Fl} {tbl : List (Str × Nat)} {tb : List (Str × Bool)} {hs : List (En → R Fl)} {h : En → R Fl} {i n N : Nat} {d : D} {ds : List D} {c : Str} {g : En → R Fl}
def tryK (x : R D) (k : D → En → R Fl) (tbl : List (Str × Nat)) (hs : List (En → R Fl)) (ρ : En) : R Fl := match x with
  | .ok d => k d ρ
  | .err c => catchD tbl hs c ρ
  | .bad => .bad
theorem ap_try : sTryE f k tbl hs ρ = tryK (f ρ) k tbl hs ρ := rfl
theorem try_ok : tryK (.ok d) k tbl hs ρ = k d ρ := rfl
theorem try_err : tryK (.err c) k tbl hs ρ = catchD tbl hs c ρ := rfl
def tryAsK (x : R D) (i : Nat) (k : D → En → R Fl) (tbl : List (Str × Bool)) (h : En → R Fl) (ρ : En) : R Fl := match x with
  | .ok d => k d ρ
  | .err c => catchAs i tbl h c ρ
  | .bad => .bad
theorem ap_tryAs : sTryAs i f k tb h ρ = tryAsK (f ρ) i k tb h ρ := rfl
theorem tryAs_ok : tryAsK (.ok d) i k tb h ρ = k d ρ := rfl
theorem tryAs_err : tryAsK (.err c) i k tb h ρ = catchAs i tb h c ρ := rfl
theorem gone_next : gone i (.ok (.next ρ)) = .ok (.next (ρ.set i none)) := rfl
theorem ap_raise : sRaise c ρ = .err c := rfl
theorem ap_bodyD (h : ds.length = n) : bodyD n N g ds = endD (g (args N ds)) := by unfold bodyD; rw [if_pos h]
theorem end_err : endD (.err c) = .err c := rfl
end
end DL
namespace DL
open PySem PySem.Spec PyProof.Rows L2
section
variable {X : Cx} {C : Cd} {e : Expr} {pos p : Pos} {ρ : En} {σ : L2.St} {F H : Hp} {i j : Nat} {d : D} {v : V} {ds : List D} {x : Str} {dd : D} {vv : V}
end
end DL
namespace DL
open PySem PySem.Spec PyProof.Rows L2
section
variable {X : Cx} {C : Cd} {e o : Expr} {pos p apos cpos : Pos} {σ : L2.St} {F H : Hp} {i j : Nat} {x : Str}
end
end DL
namespace DL
open PySem PySem.Spec PyProof.Rows L2
structure TupC (K : PySem.W.Frag) (mg : Str → Option Value) (x : Str) (a : Addr) (ss : List Str) : Prop where
  g : mg x = some (.ref a)
  t : ∀ H, SqT K H a (ss.map V.str)
theorem TupC.of {K : PySem.W.Frag} {mg : Str → Option Value} {x : Str} {a : Addr} {ss : List Str} {o : Obj} {its : Array Value} {n : Nat} (g : mg x = some (.ref a)) (l : K.lookup a = some o) (c : o.cls = .type "tuple") (d : o.data = .seq its n) (hs : its.size ≤ sizeLine) (v : Vals (ss.map V.str) its.toList) : TupC K mg x a ss :=
  ⟨g, fun H => .inr ⟨o, its, n, l, c, d, hs, v⟩⟩
section
variable {X : Cx} {C : Cd} {a : Expr} {f : En → R D} {pos p : Pos} {x : Str} {ad : Addr} {ss : List Str}
end
end DL
namespace DL
open PySem PySem.Spec PyProof.Rows L2
section
variable {K : Kx} {F F' H H' : Hp}
mutual
/-- each place of a tree holds a part with lists -/
theorem OwD.node (s : Same F' H') : ∀ {d : D} {v : V}, Rep K F' d v → dat1 d = true → ∀ b ∈ rch H' d v, ∃ d1, tO1 d1 = false ∧ dat1 d1 = true ∧ Rep K F' d1 (.ref b)
  | _, _, .lst (a := a) (vs := vs) (ds := ds) q t, z, b, hb => by
    simp only [rch, s _ _ q] at hb
    rcases List.mem_cons.mp hb with rfl | hb
    · exact ⟨.lst ds, rfl, z, .lst q t⟩
    · exact OwDs.node s t z b hb
  | _, _, .tup (a := a) (vs := vs) (ds := ds) q t, z, b, hb => by
    simp only [rch, s _ _ q] at hb
    split at hb
    · exact nomatch hb
    · rename_i h
      rcases List.mem_cons.mp hb with rfl | hb
      · exact ⟨.tup ds, Bool.eq_false_iff.mpr h, z, .tup q t⟩
      · exact OwDs.node s t z b hb
  | _, _, .non, _, b, hb => by simp only [rch] at hb; exact nomatch hb
  | _, _, .bl _, _, b, hb => by simp only [rch] at hb; exact nomatch hb
  | _, _, .int _, _, b, hb => by simp only [rch] at hb; exact nomatch hb
  | _, _, .str _, _, b, hb => by simp only [rch] at hb; exact nomatch hb
  | _, _, .scr _, z, _, _ => nomatch z
  | _, _, .dK _ _, z, _, _ => nomatch z
  | _, _, .dT _ _, z, _, _ => nomatch z
  | _, _, .ref _, z, _, _ => nomatch z
  | _, _, .rows _ _, z, _, _ => nomatch z
  | _, _, .exn _ _, z, _, _ => nomatch z
  | _, _, .deep _ _, z, _, _ => nomatch z
  | _, _, .obj _, z, _, _ => nomatch z
theorem OwDs.node (s : Same F' H') : ∀ {ds : List D} {vs : List V}, Reps K F' ds vs → dats ds = true → ∀ b ∈ rchs H' ds vs, ∃ d1, tO1 d1 = false ∧ dat1 d1 = true ∧ Rep K F' d1 (.ref b)
  | _, _, .nil, _, b, hb => by simp only [rchs] at hb; exact nomatch hb
  | _, _, .cons r t, z, b, hb => by
    have z := Bool.and_eq_true_iff.mp z
    simp only [rchs] at hb
    rcases List.mem_append.mp hb with hb | hb
    · exact OwD.node s r z.1 b hb
    · exact OwDs.node s t z.2 b hb
end
mutual
/-- one place holds a list within, or none -/
theorem Rep.same : ∀ {d : D} {v : V}, Rep K F d v → tO1 d = true → ∀ {d' : D}, Rep K F d' v → dat1 d' = true → tO1 d' = true
  | _, _, .non, _, _, r, z => by cases r; rfl
  | _, _, .bl b, _, _, r, z => by cases r; rfl
  | _, _, .int b, _, _, r, z => by cases r; rfl
  | _, _, .str b, _, _, r, z => by cases r; rfl
  | _, _, .tup q t, y, d', r, z => by
    cases r with
    | tup q' t' =>
      rw [q] at q'
      cases q'
      exact Reps.same t y t' z
    | lst q' t' => rw [q] at q'; cases q'
    | rows q' t' => exact nomatch z
    | scr q' => exact nomatch z
    | dK q' t' => exact nomatch z
    | dT q' t' => exact nomatch z
    | ref => exact nomatch z
    | exn q' t' => exact nomatch z
    | deep _ _ => exact nomatch z
    | obj _ => exact nomatch z
  | _, _, .lst _ _, z, _, _, _ => nomatch z
  | _, _, .scr _, z, _, _, _ => nomatch z
  | _, _, .dK _ _, z, _, _, _ => nomatch z
  | _, _, .dT _ _, z, _, _, _ => nomatch z
  | _, _, .ref _, z, _, _, _ => nomatch z
  | _, _, .rows _ _, z, _, _, _ => nomatch z
  | _, _, .exn _ _, z, _, _, _ => nomatch z
  | _, _, .deep _ _, z, _, _, _ => nomatch z
  | _, _, .obj _, z, _, _, _ => nomatch z
theorem Reps.same : ∀ {ds : List D} {vs : List V}, Reps K F ds vs → tOs ds = true → ∀ {ds' : List D}, Reps K F ds' vs → dats ds' = true → tOs ds' = true
  | _, _, .nil, _, _, r, _ => by cases r; rfl
  | _, _, .cons q t, y, _, r, z => by
    cases r with
    | cons q' t' =>
      have y := Bool.and_eq_true_iff.mp y
      have z := Bool.and_eq_true_iff.mp z
      exact Bool.and_eq_true_iff.mpr ⟨Rep.same q y.1 q' z.1, Reps.same t y.2 t' z.2⟩
end
def unF (A B : Hp) : Hp := fun a => match A a with | some o => some o | none => B a
theorem unF_l {A B : Hp} : Same A (unF A B) := fun a o h => by show (match A a with | some o => some o | none => B a) = _; rw [h]
theorem unF_h {A B : Hp} (h1 : Same A H) (h2 : Same B H) : Same (unF A B) H := fun a o h => by
  have h : (match A a with | some o => some o | none => B a) = some o := h
  split at h
  · rename_i e; cases h; exact h1 _ _ e
  · exact h2 _ _ h
theorem unF_r {A B : Hp} (h1 : Same A H) (h2 : Same B H) : Same B (unF A B) := fun a o h => by
  show (match A a with | some o => some o | none => B a) = _
  split
  · rename_i e
    have := h1 _ _ e
    rw [h2 _ _ h] at this
    exact this.symm
  · exact h
theorem unF_of {A B : Hp} {a : Addr} {o : HO} (h : unF A B a = some o) : A a = some o ∨ B a = some o := by
  have h : (match A a with | some o => some o | none => B a) = some o := h
  split at h
  · rename_i e; cases h; exact .inl e
  · exact .inr h
def TupF (K : Kx) (A : Hp) : Prop := ∀ a o, A a = some o → ∃ d0, tO1 d0 = true ∧ Rep K A d0 (.ref a)
theorem TupF.none : TupF K (fun _ => none) := fun _ _ h => nomatch h
theorem TupF.un {A B : Hp} (h1 : Same A H) (h2 : Same B H) (a : TupF K A) (b : TupF K B) : TupF K (unF A B) := fun c o h => by
  rcases unF_of h with h | h
  · obtain ⟨d0, z, r⟩ := a c o h
    exact ⟨d0, z, r.mono unF_l⟩
  · obtain ⟨d0, z, r⟩ := b c o h
    exact ⟨d0, z, r.mono (unF_r h1 h2)⟩
mutual
/-- a tree of tuples, settled: a part of the settled heap that holds tuples alone -/
theorem Rep.tpart : ∀ {d : D} {v : V}, Rep K F d v → tO1 d = true → ∃ A, Same A F ∧ TupF K A ∧ Rep K A d v
  | _, _, .non, _ => ⟨fun _ => none, (fun _ _ h => nomatch h), TupF.none, .non⟩
  | _, _, .bl b, _ => ⟨fun _ => none, (fun _ _ h => nomatch h), TupF.none, .bl b⟩
  | _, _, .int b, _ => ⟨fun _ => none, (fun _ _ h => nomatch h), TupF.none, .int b⟩
  | _, _, .str b, _ => ⟨fun _ => none, (fun _ _ h => nomatch h), TupF.none, .str b⟩
  | _, _, .tup (a := a) (vs := vs) (ds := ds) q t, z => by
    obtain ⟨A, h1, h2, h3⟩ := Reps.tpart t z
    have hB : Same (fun b => if b = a then some (.tup vs) else none : Hp) F := fun b o h => by
      have h : (if b = a then some (HO.tup vs) else none) = some o := h
      by_cases e : b = a
      · subst e; rw [if_pos rfl] at h; rw [q]; exact h
      · rw [if_neg e] at h; cases h
    have hr : Rep K (unF A (fun b => if b = a then some (.tup vs) else none)) (.tup ds) (.ref a) := .tup (unF_r h1 hB _ _ (if_pos rfl)) (h3.mono unF_l)
    refine ⟨_, unF_h h1 hB, fun b o h => ?_, hr⟩
    rcases unF_of h with h | h
    · obtain ⟨d0, y, r⟩ := h2 _ _ h
      exact ⟨d0, y, r.mono unF_l⟩
    · have h : (if b = a then some (HO.tup vs) else none) = some o := h
      by_cases e : b = a
      · subst e
        exact ⟨.tup ds, z, hr⟩
      · rw [if_neg e] at h; cases h
  | _, _, .lst _ _, z => nomatch z
  | _, _, .scr _, z => nomatch z
  | _, _, .dK _ _, z => nomatch z
  | _, _, .dT _ _, z => nomatch z
  | _, _, .ref _, z => nomatch z
  | _, _, .rows _ _, z => nomatch z
  | _, _, .exn _ _, z => nomatch z
  | _, _, .deep _ _, z => nomatch z
  | _, _, .obj _, z => nomatch z
theorem Reps.tpart : ∀ {ds : List D} {vs : List V}, Reps K F ds vs → tOs ds = true → ∃ A, Same A F ∧ TupF K A ∧ Reps K A ds vs
  | _, _, .nil, _ => ⟨fun _ => none, (fun _ _ h => nomatch h), TupF.none, .nil⟩
  | _, _, .cons r t, z => by
    have z := Bool.and_eq_true_iff.mp z
    obtain ⟨A, h1, h2, h3⟩ := Rep.tpart r z.1
    obtain ⟨B, g1, g2, g3⟩ := Reps.tpart t z.2
    exact ⟨unF A B, unF_h h1 g1, h2.un h1 g1 g2, .cons (h3.mono unF_l) (g3.mono (unF_r h1 g1))⟩
end
mutual
/-- what holds no list is settled anew beside the rest -/
theorem OwD.mix (s1 : Same F H') (s2 : Same F' H') : ∀ {d : D} {v : V}, Rep K F' d v → dat1 d = true → (∃ A, Same A F' ∧ TupF K A ∧ OwD K A H' d v)
  | _, _, .non, _ => ⟨fun _ => none, (fun _ _ h => nomatch h), TupF.none, .set rfl .non⟩
  | _, _, .bl b, _ => ⟨fun _ => none, (fun _ _ h => nomatch h), TupF.none, .set rfl (.bl b)⟩
  | _, _, .int b, _ => ⟨fun _ => none, (fun _ _ h => nomatch h), TupF.none, .set rfl (.int b)⟩
  | _, _, .str b, _ => ⟨fun _ => none, (fun _ _ h => nomatch h), TupF.none, .set rfl (.str b)⟩
  | _, _, .lst (ds := ds) q t, z => by
    obtain ⟨A, a1, a2, a3⟩ := OwDs.mix s1 s2 t z
    exact ⟨A, a1, a2, .lst (s2 _ _ q) a3⟩
  | _, _, .tup (ds := ds) q t, z => by
    cases h : tOs ds with
    | true =>
      obtain ⟨B, b1, b2, b3⟩ := Rep.tpart (.tup q t) (show tO1 (.tup ds) = true from h)
      exact ⟨B, b1, b2, .set h b3⟩
    | false =>
      obtain ⟨A, a1, a2, a3⟩ := OwDs.mix s1 s2 t z
      exact ⟨A, a1, a2, .tup h (s2 _ _ q) a3⟩
  | _, _, .scr _, z => nomatch z
  | _, _, .dK _ _, z => nomatch z
  | _, _, .dT _ _, z => nomatch z
  | _, _, .ref _, z => nomatch z
  | _, _, .rows _ _, z => nomatch z
  | _, _, .exn _ _, z => nomatch z
  | _, _, .deep _ _, z => nomatch z
  | _, _, .obj _, z => nomatch z
theorem OwDs.mix (s1 : Same F H') (s2 : Same F' H') : ∀ {ds : List D} {vs : List V}, Reps K F' ds vs → dats ds = true → (∃ A, Same A F' ∧ TupF K A ∧ OwDs K A H' ds vs)
  | _, _, .nil, _ => ⟨fun _ => none, (fun _ _ h => nomatch h), TupF.none, .nil⟩
  | _, _, .cons r t, z => by
    have z := Bool.and_eq_true_iff.mp z
    obtain ⟨A, a1, a2, a3⟩ := OwD.mix s1 s2 r z.1
    obtain ⟨B, b1, b2, b3⟩ := OwDs.mix s1 s2 t z.2
    exact ⟨unF A B, unF_h a1 b1, a2.un a1 b1 b2, .cons (OwD.mono unF_l (Same.refl _) a3) (OwDs.mono (unF_r a1 b1) (Same.refl _) b3)⟩
end
def rowT : D → Bool
  | .lst xs => tOs xs
  | _ => false
def argOk : D → Bool
  | .lst ds => tOs ds
  | .rows rs => rs.all rowT
  | d => tO1 d
theorem rows_part (s : Same F H) : ∀ {rs : List D} {vs : List V}, rs.all rowT = true → (Reps K F rs vs ∨ RowsAt K F H rs vs) → ∃ A, Same A F ∧ TupF K A ∧ RowsAt K A H rs vs
  | [], _, _, w => by
    rcases w with w | w <;> cases w <;> exact ⟨fun _ => none, (fun _ _ h => nomatch h), TupF.none, .nil⟩
  | r :: rs, _, z, w => by
    have z := Bool.and_eq_true_iff.mp (by rw [List.all_cons] at z; exact z)
    have step : ∀ {b : Addr} {us vs : List V} {xs : List D}, r = .lst xs → H b = some (.lst us) → Reps K F xs us → (Reps K F rs vs ∨ RowsAt K F H rs vs) → ∃ A, Same A F ∧ TupF K A ∧ RowsAt K A H (r :: rs) (.ref b :: vs) := fun {b us vs xs} e q t w' => by
      subst e
      obtain ⟨A, a1, a2, a3⟩ := Reps.tpart t (show tOs xs = true from z.1)
      obtain ⟨B, b1, b2, b3⟩ := rows_part s z.2 w'
      exact ⟨unF A B, unF_h a1 b1, a2.un a1 b1 b2, .cons q (a3.mono unF_l) (RowsAt.mono (unF_r a1 b1) b3 fun _ _ _ h => h)⟩
    rcases w with w | w
    · cases w with
      | cons q t =>
        cases q with
        | lst q' t' => exact step rfl (s _ _ q') t' (.inl t)
        | _ => exact nomatch z.1
    · cases w with
      | cons q t u => exact step rfl q t (.inr u)
theorem View.part (s : Same F H) {d : D} {v : V} (w : View K F H d v) (z : argOk d = true) : ∃ A, Same A F ∧ TupF K A ∧ View K A H d v := by
  cases d with
  | non => exact ⟨fun _ => none, (fun _ _ h => nomatch h), TupF.none, w⟩
  | bl b => exact ⟨fun _ => none, (fun _ _ h => nomatch h), TupF.none, w⟩
  | int b => exact ⟨fun _ => none, (fun _ _ h => nomatch h), TupF.none, w⟩
  | str b => exact ⟨fun _ => none, (fun _ _ h => nomatch h), TupF.none, w⟩
  | lst ds =>
    obtain ⟨a, vs, e, q, t⟩ := w
    obtain ⟨A, a1, a2, a3⟩ := Reps.tpart t z
    exact ⟨A, a1, a2, a, vs, e, q, a3⟩
  | tup ds =>
    obtain ⟨a, vs, e, q, t⟩ := w
    obtain ⟨A, a1, a2, a3⟩ := Reps.tpart t (show tOs ds = true from z)
    exact ⟨A, a1, a2, a, vs, e, q, a3⟩
  | rows rs =>
    obtain ⟨a, vs, e, q, t⟩ := w
    obtain ⟨A, a1, a2, a3⟩ := rows_part s z t
    exact ⟨A, a1, a2, a, vs, e, q, .inr a3⟩
  | _ => exact nomatch z
theorem Views.part (s : Same F H) : ∀ {ds : List D} {vs : List V}, Views K F H ds vs → ds.all argOk = true → ∃ A, Same A F ∧ TupF K A ∧ Views K A H ds vs
  | _, _, .nil, _ => ⟨fun _ => none, (fun _ _ h => nomatch h), TupF.none, .nil⟩
  | _, _, .cons w t, z => by
    have z := Bool.and_eq_true_iff.mp (by rw [List.all_cons] at z; exact z)
    obtain ⟨A, a1, a2, a3⟩ := w.part s z.1
    obtain ⟨B, b1, b2, b3⟩ := Views.part s t z.2
    refine ⟨unF A B, unF_h a1 b1, a2.un a1 b1 b2, .cons (a3.mono unF_l (Same.refl _)) ?_⟩
    have go : ∀ {ds : List D} {vs : List V}, Views K B H ds vs → Views K (unF A B) H ds vs := fun {ds vs} h => by
      induction h with
      | nil => exact .nil
      | cons w t ih => exact .cons (w.mono (unF_r a1 b1) (Same.refl _)) ih
    exact go b3
end
section
variable {X : Cx} {C : Cd} {e a : Expr} {es : List Expr} {fs : En → R (List D)} {f : En → R D} {pos p p1 apos cpos : Pos} {kk n : Nat} {fa : Addr} {fd : FuncData} {ps : List Str} {x : Str} {cls : Str → Addr} {den : Den} {CX : CXT} {E : XK} {ρ : En} {σ : L2.St} {F H : Hp}
end
mutual
def jkB : D → Nat
  | .lst ds => ds.length
  | .junk n => n
  | .tup ds => jkBs ds
  | _ => 0
def jkBs : List D → Nat
  | [] => 0
  | d :: ds => max (jkB d) (jkBs ds)
end
mutual
def jkD (N : Nat) : D → D
  | .lst _ => .junk N
  | .junk _ => .junk N
  | .tup ds => .tup (jkDs N ds)
  | d => d
def jkDs (N : Nat) : List D → List D
  | [] => []
  | d :: ds => jkD N d :: jkDs N ds
end
mutual
theorem jkD_id {N : Nat} : ∀ {d : D}, tO1 d = true → jkD N d = d
  | .tup ds, h => by
    simp only [jkD]
    rw [jkDs_id (show tOs ds = true from h)]
  | .non, _ => by simp only [jkD]
  | .bl _, _ => by simp only [jkD]
  | .int _, _ => by simp only [jkD]
  | .str _, _ => by simp only [jkD]
theorem jkDs_id {N : Nat} : ∀ {ds : List D}, tOs ds = true → jkDs N ds = ds
  | [], _ => by simp only [jkDs]
  | d :: ds, h => by
    have h := Bool.and_eq_true_iff.mp h
    simp only [jkDs]
    rw [jkD_id h.1, jkDs_id h.2]
end
theorem rch_flat {H : Hp} {d : D} {v : V} (h : tO1 d = true) : rch H d v = [] := by
  cases d with
  | tup ds =>
    have h : tOs ds = true := h
    cases v <;> simp only [rch, h, if_true]
  | lst ds => exact nomatch h
  | junk n => exact nomatch h
  | _ => cases v <;> simp only [rch]
theorem OwDs.length {K : Kx} {F H : Hp} : ∀ {ds : List D} {vs : List V}, OwDs K F H ds vs → vs.length = ds.length
  | _, _, .nil => rfl
  | _, _, .cons _ t => congrArg (· + 1) (OwDs.length t)
section
variable {K : Kx} {F H H' : Hp} {c : Addr} {us us' : List V} {N : Nat}
mutual
theorem OwD.jk (hH : ∀ b, b ≠ c → H' b = H b) (hc : H c = some (.lst us)) (hc' : H' c = some (.lst us')) (hl : us'.length ≤ us.length + 1) : ∀ {d : D} {v : V}, OwD K F H d v → jkB d + 1 ≤ N →
    OwD K F H' (jkD N d) v ∧ (∀ b ∈ rch H' (jkD N d) v, b ∈ rch H d v) ∧ tO1 (jkD N d) = tO1 d
  | d, v, .set z r, _ => by
    rw [jkD_id z]
    exact ⟨.set z r, (fun b hb => by rw [rch_flat z] at hb; exact nomatch hb), rfl⟩
  | _, _, .lst (a := a) (vs := vs) (ds := ds) q t, hN => by
    simp only [jkB] at hN
    simp only [jkD]
    refine ⟨?_, fun b hb => ?_, rfl⟩
    · by_cases e : a = c
      · subst e
        rw [q] at hc
        cases hc
        exact .junk hc' (by have := t.length; omega)
      · exact .junk ((hH a e).trans q) (by have := t.length; omega)
    · simp only [rch] at hb ⊢
      rw [List.mem_singleton.mp hb]
      exact List.mem_cons_self
  | _, _, .junk (a := a) (vs := vs) (n := n) q l, hN => by
    simp only [jkB] at hN
    simp only [jkD]
    refine ⟨?_, fun b hb => ?_, rfl⟩
    · by_cases e : a = c
      · subst e
        rw [q] at hc
        cases hc
        exact .junk hc' (by omega)
      · exact .junk ((hH a e).trans q) (by omega)
    · simp only [rch] at hb ⊢
      exact hb
  | _, _, .tup (a := a) (vs := vs) (ds := ds) z q t, hN => by
    simp only [jkB] at hN
    have ha : H' a = H a := hH a fun e => by subst e; rw [q] at hc; cases hc
    obtain ⟨t1, t2, t3⟩ := OwDs.jk hH hc hc' hl t hN
    have z' : tOs (jkDs N ds) = false := t3.trans z
    refine ⟨?_, fun b hb => ?_, ?_⟩
    · simp only [jkD]
      exact .tup z' (ha.trans q) t1
    · simp only [jkD, rch, z', z, Bool.false_eq_true, if_false, ha, q] at hb ⊢
      rcases List.mem_cons.mp hb with rfl | hb
      · exact List.mem_cons_self
      · exact List.mem_cons_of_mem _ (t2 b hb)
    · simp only [jkD]
      exact t3
theorem OwDs.jk (hH : ∀ b, b ≠ c → H' b = H b) (hc : H c = some (.lst us)) (hc' : H' c = some (.lst us')) (hl : us'.length ≤ us.length + 1) : ∀ {ds : List D} {vs : List V}, OwDs K F H ds vs → jkBs ds + 1 ≤ N →
    OwDs K F H' (jkDs N ds) vs ∧ (∀ b ∈ rchs H' (jkDs N ds) vs, b ∈ rchs H ds vs) ∧ tOs (jkDs N ds) = tOs ds
  | _, _, .nil, _ => by
    simp only [jkDs]
    exact ⟨.nil, (fun b hb => by simp only [rchs] at hb; exact nomatch hb), trivial⟩
  | _, _, .cons (d := d) (ds := ds) r t, hN => by
    simp only [jkBs] at hN
    obtain ⟨r1, r2, r3⟩ := OwD.jk hH hc hc' hl r (by omega)
    obtain ⟨t1, t2, t3⟩ := OwDs.jk hH hc hc' hl t (by omega)
    simp only [jkDs]
    refine ⟨.cons r1 t1, fun b hb => ?_, ?_⟩
    · simp only [rchs] at hb ⊢
      rcases List.mem_append.mp hb with hb | hb
      · exact List.mem_append_left _ (r2 b hb)
      · exact List.mem_append_right _ (t2 b hb)
    · show (tO1 (jkD N d) && tOs (jkDs N ds)) = (tO1 d && tOs ds)
      rw [r3, t3]
end
end
section
variable {X : Cx} {C : Cd} {e a o : Expr} {es : List Expr} {f : En → R D} {pos p p1 p2 apos cpos : Pos} {ρ : En} {σ : L2.St} {F H : Hp} {i : Nat} {ks : List Nat}
theorem Rel.jk {d : D} {l c : Addr} {us us' : List V} (r : Rel C ρ σ F H) (h : ρ[i]? = some (some (true, .deep d))) (q : σ[i]? = some (some (.ref l))) (hm : c ∈ rch H d (.ref l)) (hc : H c = some (.lst us)) (hl : us'.length ≤ us.length + 1) :
    Rel C (ρ.set i (some (true, .deep (jkD (jkB d + 1) d)))) σ F (upd H c (.lst us')) := by
  obtain ⟨a', q', n, nd, o⟩ := r.ownF i _ h
  rw [q] at q'
  cases q'
  obtain ⟨o1, o2, o3⟩ := OwD.jk (H' := upd H c (.lst us')) (N := jkB d + 1) (fun b hb => upd_ne hb) hc upd_same hl o.1 (Nat.le_refl _)
  have sub : ∀ b ∈ foot (upd H c (.lst us')) l (.deep (jkD (jkB d + 1) d)), b ∈ foot H l (.deep d) := fun b hb => by
    rcases deep_mem hb with rfl | hb
    · exact foot_head
    · exact mem_deep (o2 b hb)
  refine r.writeF h q (fun b hb => ?_) ⟨o1, o3.trans o.2⟩ (fun b hb => n b (sub b hb)) deep_nodup fun b hb => .inl (sub b hb)
  have : b = c := by
    by_cases z : b = c
    · exact z
    · exact absurd (upd_ne z) hb
  subst this
  exact ⟨.inl (mem_deep hm), n b (mem_deep hm)⟩
theorem OwDs.get {K : Kx} : ∀ {ds : List D} {vs : List V} {k : Nat} {d : D}, OwDs K F H ds vs → ds[k]? = some d → ∃ v, vs[k]? = some v ∧ OwD K F H d v ∧ ∀ b ∈ rch H d v, b ∈ rchs H ds vs
  | _, _, 0, _, .cons r t, h => by cases h; exact ⟨_, rfl, r, fun b hb => by simp only [rchs]; exact List.mem_append_left _ hb⟩
  | _, _, k + 1, _, .cons r t, h => by
    obtain ⟨v, h1, h2, h3⟩ := OwDs.get (k := k) t h
    exact ⟨v, h1, h2, fun b hb => by simp only [rchs]; exact List.mem_append_right _ (h3 b hb)⟩
end
section
variable {ρ ρ' : En} {i n : Nat} {d d0 : D} {den : Den} {ds : List D} {o : Bool} {ks : List Nat}
end
end DL
namespace DL
open PySem PySem.Spec PyProof.Rows L2
section
variable {M : Model} {A : Around} {E : Value → Shared → Prop} {s : Shared} {Z : Obj → Prop} {base : Heap} {env : Env} {outer l : List Env} {L C e : Addr}
theorem looks_onF {fl : Value} {Q : Unit → Shared → Prop} (hZ : HandSPX.Steady Z) (hfr : A.frames = some (env :: outer)) (hf : env.frame = some L) (hkb : base.StaysIn s.heap) (hen : base.get? e = none) (hl : s.heap.FunFrames base (env :: outer)) (ht : HandSPX.TracedZ s.heap base e Z fl) (hne : (fl == rawInt L) = false)
    (hQ : ∀ h', HandSPX.HeldZ base (env :: outer) e Z L h' → s.heap.UpToSlots h' → Q () { s with heap := h' }) : wpAny M A (noteFrame (.ref e) env) Q E s := by
  obtain ⟨oe, vs, T, oT, ts, he, hz, hd, h1, hnT, hTe, hT, hdT, h3⟩ := ht
  unfold noteFrame
  simp only [hf]
  refine wpAny_bind (wpAny_field he hd h1 ?_)
  rw [if_pos (show (Value.ref T != Value.none) = true from by simp)]
  refine wpAny_bind (wpAny_field hT hdT h3 ?_)
  rw [if_neg (show ¬ ((fl == rawInt L) = true) from by rw [hne]; exact Bool.false_ne_true)]
  refine wpAny_bind (wpAny_setField hT hdT (Array.getElem?_eq_some_iff.mp h3).1 ?_)
  have other : ∀ b, b ≠ T → (s.heap.update T (Obj.mapFields (·.setIfInBounds 3 Value.none))).get? b = s.heap.get? b := fun b hb => Heap.get?_update_other _ _ (Ne.symm hb)
  have noRecord : ∀ b o, s.heap.get? b = some o → (∀ vs, o.data ≠ .fields vs) → b ≠ T := fun b o hb hnf q => by
    rw [q, hT] at hb; injection hb with hb; subst hb; exact hnf ts hdT
  refine HandSPX.wpAny_entryZ hZ hfr (hl.of_keeps fun b o hb hnf => ⟨o, (other b (noRecord b o hb hnf)).trans hb, rfl⟩) hf ((other e (Ne.symm hTe)).trans he)
    (fun b o hbo => (other b fun q => by rw [q, hnT] at hbo; cases hbo).trans (hkb b o hbo)) hen hd (Array.getElem?_eq_some_iff.mp h1).1 hz fun h' hN => ?_
  obtain ⟨x1, x2, x3, x4⟩ := hN
  exact hQ h' ⟨x1, hen, x2, x3⟩ fun b o hb hnf => x4 b o ((other b (noRecord b o hb hnf)).trans hb) hnf
theorem raw_ne (h : C ≠ L) : (rawInt C == rawInt L) = false := by
  rw [Bool.eq_false_iff]
  intro z
  unfold rawInt at z
  simp only [beq_iff_eq] at z
  injection z with z
  exact h (by first | exact z | exact Int.ofNat_inj.mp z | omega | (simp at z; exact z))
end
section
variable {X : Cx} {W : WX}
theorem fly_out {pins : List (Addr × Obj)} {σ : L2.St} {H3 : Hp} {s3 : Shared} {scope : Scope} {ce : Env} {fp : List Addr} {pn : List (Addr × Obj)} {xe : Value → Shared → Prop} {u : Value} {s' : Shared}
    (I3 : Inv X pins σ H3 s3) (hst : X.stack = X.env :: X.outer) (hfm : X.env.frame = some X.env.locals) (tk : Takes X W) (cL : ce.locals = s3.heap.objs.size) (cF : ce.frame = X.env.frame)
    (hch : ∀ b ∈ fp, (b ∈ X.ex ∨ X.s_0.heap.objs.size ≤ b) ∧ b ≠ X.env.locals ∧ (∀ x c, X.env.cells.lookup x = some c → c ≠ b) ∧ ∀ p ∈ X.pn ++ pins, p.1 ≠ b)
    (fly : XE ((X.blk s3 H3 scope ce fp).tr pn xe) (fun cls d _ H' => W cls d σ H') u s') :
    notedBy (model X.prog X.w) X.A ce (CompFails (model X.prog X.w) X.A X.xe ce) u s' := by
  obtain ⟨a, B, sI, pins1, σ1, H1, cls, dd, rfl, Ib, inB, upS, air, fresh, hos, hgens, hw⟩ := fly
  have okX := I3.ok
  have frm : X.A.frames = some (X.env :: X.outer) := by rw [okX.frames, hst]
  have inB : ∀ b o, sI.heap.get? b = some o → b ∉ frs X.stack → B.get? b = some o := inB
  have air : Sky B X.stack a (Zc cls dd) ce.locals s'.heap := air
  rw [hst] at air
  have cne : ce.locals ≠ X.env.locals := by
    rw [cL]
    exact Nat.ne_of_gt I3.lt
  show wpAny (model X.prog X.w) X.A (noteFrame (.ref a) ce) _ _ _
  rw [noteFrame_env _ cF]
  have fin : ∀ h1, HandSPX.HeldZ B (X.env :: X.outer) a (Zc cls dd) X.env.locals h1 → s'.heap.UpToSlots h1 → CompFails (model X.prog X.w) X.A X.xe ce (.ref a) { s' with heap := h1 } := by
    intro h1 hh up1
    obtain ⟨m, hn, _⟩ := Ib.loc
    have hn : sI.heap.Ns ce.locals m := hn
    have up : sI.heap.UpToSlots h1 := upS.trans up1
    have hn1 : h1.Ns ce.locals m := hn.upToSlots fun b o hb hnf => up b o hb hnf
    refine ⟨m, hn1, fun h2 m2 hn2 hs2 => ?_⟩
    obtain ⟨B', g1, g2⟩ := restrict B fun b => decide (b ≠ ce.locals)
    have gB : ∀ b o, B'.get? b = some o → b ≠ ce.locals ∧ B.get? b = some o := fun b o e => by
      by_cases hb : b = ce.locals
      · rw [g2 b (by simp [hb])] at e; cases e
      · exact ⟨hb, by rw [← g1 b (by simp [hb])]; exact e⟩
    have gN : ∀ b, B.get? b = none → B'.get? b = none := fun b e => by
      cases q : B'.get? b with
      | none => rfl
      | some o => rw [(gB b o q).2] at e; cases e
    obtain ⟨k1, k2, k3, k4⟩ := hh
    have noC : ∀ {b o vs}, h1.get? b = some o → o.data = .fields vs → b ≠ ce.locals := fun {b o vs} hb hd z => by
      obtain ⟨oL, es, ep, hoL, hdL, r⟩ := hn1
      rw [z, hoL] at hb
      cases hb
      rw [hdL] at hd
      cases hd
    have hh2 : HandSPX.HeldZ B' (X.env :: X.outer) a (Zc cls dd) X.env.locals h2 := by
      refine ⟨fun b o hb => (hs2.2 b (gB b o hb).1).trans (k1 b o (gB b o hb).2), gN a k2, ?_, ?_⟩
      · have ff : h2.FunFrames B (X.env :: X.outer) := Heap.FunFrames.sameBut hs2 hn2 k3
        exact funFrames_none ff fun b hb => gN b (k3.mem hb).1
      · obtain ⟨oe, vs, T, oT, ts, he, hz, hd, e1, hnT, hTe, hT, hdT, e3⟩ := k4
        exact ⟨oe, vs, T, oT, ts, (hs2.2 a (noC he hd)).trans he, hz, hd, e1, gN T hnT, hTe, (hs2.2 T (noC hT hdT)).trans hT, hdT, e3⟩
    have hh2' := hh2
    obtain ⟨_, _, _, oe, vs, T, oT, ts, he, hz, hd, e1, hnT, hTe, hT, hdT, e3⟩ := hh2
    unfold PySem.passOn
    refine wpAny_bind (wpAny_field he hd e1 ?_)
    rw [if_neg (show ¬ ((Value.ref T == Value.none) = true) from by simp)]
    rw [cF, hfm]
    refine wpAny_bind (HandSPX.setFlight_onZ hh2' fun h3 hh3 up3 => ?_)
    refine wpAny_throw ?_
    refine tk _ _ ?_
    -- the def's state without the block
    obtain ⟨G, q1, q2⟩ := restrict sI.heap fun b => decide (b ≠ ce.locals)
    have gG : ∀ b o, G.get? b = some o → b ≠ ce.locals ∧ sI.heap.get? b = some o := fun b o e => by
      by_cases hb : b = ce.locals
      · rw [q2 b (by simp [hb])] at e; cases e
      · exact ⟨hb, by rw [← q1 b (by simp [hb])]; exact e⟩
    have Gg : ∀ b o, b ≠ ce.locals → sI.heap.get? b = some o → G.get? b = some o := fun b o hb e => by rw [q1 b (by simp [hb])]; exact e
    have s3C : ∀ b o, s3.heap.get? b = some o → b ≠ ce.locals := fun b o e z => by
      have := Heap.lt_size e
      rw [z, cL] at this
      exact absurd this (Nat.lt_irrefl _)
    have H1C : H1 ce.locals = none := Ib.free
    have un : Un (frs X.stack) fp H3 H1 s3.heap sI.heap := Ib.base
    have hokI : HOk X.prog X.w H1 sI.heap := Ib.hok
    have I' : Inv X pins σ H1 { sI with heap := G } := by
      refine I3.call' (ch := fp) (show sI.os = s3.os from Ib.os) ⟨fun b o e n hb hx => Gg b o (s3C b o e) (un.keep b o e n hb hx), fun b o e n hb hx => ?_, un.free, fun b o e hx => ?_, un.tups, un.frzs, un.tbls⟩ ?_ Ib.bare hch
      · obtain ⟨sl, q⟩ := un.slot b o e n hb hx
        exact ⟨sl, Gg b _ (s3C b o e) q⟩
      · obtain ⟨o', q⟩ := un.there b o e hx
        exact ⟨o', Gg b _ (s3C b o e) q⟩
      · intro b o q
        refine (hokI b o q).stay (fun c v hc r => Gg c v (fun z => ?_) r) (fun _ r => r) fun _ _ r => r
        rcases hc with hc | hc
        · rw [← hc, z, H1C] at q; cases q
        · rw [z, H1C] at hc; cases hc
    refine ⟨a, B', { sI with heap := G }, pins, σ, H1, cls, dd, rfl, I', fun b o e hb => ?_, fun b o hb hnf => ?_, ?_, fresh, hos, hgens, hw⟩
    · obtain ⟨hbC, e'⟩ := gG b o e
      rw [g1 b (by simp [hbC])]
      exact inB b o e' hb
    · obtain ⟨hbC, e'⟩ := gG b o hb
      obtain ⟨sl, e2⟩ := up b o e' hnf
      have e2' : h2.get? b = some { o with slots := sl } := (hs2.2 b hbC).trans e2
      obtain ⟨sl', e3'⟩ := up3 b _ e2' hnf
      exact ⟨sl', e3'⟩
    · rw [hst]
      exact .inr (.inr hh3)
  rcases air with ⟨hB, hn, hl, oe, vs, he, hz, hd, h1⟩ | fl | hh
  · exact HandSPX.look_newZ Zc.steady frm hl hfm he hB hn hd h1 hz fin
  · exact HandSPX.looks_onZ Zc.steady frm hfm fl fin
  · exact looks_onF Zc.steady frm hfm hh.1 hh.2.1 hh.2.2.1 hh.2.2.2 (raw_ne cne) fin
def tLcX (wi : TI) (g : TG) (tt : TT) (te : WX → TE) (vs : List Nat) (W : WX) : TE := fun σ H Q => tLc wi g tt (te fun cls d _ H' => W cls d σ H') vs σ H Q
theorem pe_lcX {elt tg iter : Expr} {ifs : List Expr} {scope : Scope} {own : List (Str × Nat)} {pos : Pos} {wi : TI} {g : TG} {tt : TT} {te : WX → TE} (hc : X.calm = true) (hN : X.N.Nodup) (hst : X.stack = X.env :: X.outer) (hfm : X.env.frame = some X.env.locals) (tk : Takes X W) (hi : PI X tg iter wi) (ok : BlkOk X.N X.env.scope scope own)
    (hg : ∀ (s : Shared) (H : Hp) (C : Addr) (cl : List (Str × Addr)) (fp : List Addr), PG (X.blk s H scope (compEnvC scope cl C X.env) fp) tg g) (ht : ∀ (s : Shared) (H : Hp) (C : Addr) (cl : List (Str × Addr)) (fp : List Addr), PTs (X.blk s H scope (compEnvC scope cl C X.env) fp) ifs tt)
    (he : ∀ (Wb : WX) (s : Shared) (H : Hp) (C : Addr) (cl : List (Str × Addr)) (fp : List Addr) (pn : List (Addr × Obj)) (xe : Value → Shared → Prop), Takes ((X.blk s H scope (compEnvC scope cl C X.env) fp).tr pn xe) Wb → PE ((X.blk s H scope (compEnvC scope cl C X.env) fp).tr pn xe) elt (te Wb)) (hs : ∀ x, foldedSetIterable iter X.env x = pure x := by intro _; rfl) :
    PE X (.ListComp elt [⟨tg, iter, ifs, 0⟩] scope pos) (tLcX wi g tt te (own.map (·.2)) W) := by
  refine ⟨fun pins s σ H Q I h => ?_⟩
  rw [eval_ListComp]
  have hfree : ∀ y ∈ scope.names, y.2 = .free → ∃ c, X.env.cells.lookup y.1 = some c := fun y hy e => by
    rcases ok.free y hy e with k | k
    · exact I.ok.has _ (.inl k)
    · exact I.ok.has _ (.inr k)
  have h : tLc wi g tt (te fun cls d _ H' => W cls d σ H') (own.map (·.2)) σ H Q := h
  refine comprehension_at (use := none) rfl hs (closure_ok hfree) ok.kind (fun y hy e => by rw [ok.uniq y hy, e])
    (thn (hi.run pins s σ H _ I h) fun xv s1 hx => thn hx fun itv s2 h2 => ?_)
  obtain ⟨it, fp, tn, J, H2, e, I2, T, st2, f2, q⟩ := h2
  subst e
  refine wpAny_newObj_type (newEnv_comp ?_) (by show 0 ≤ sizeLine; decide)
  generalize hD : s2.heap.objs.size = D
  have hDn : H2 D = none := I2.hok.fresh (Nat.le_of_eq hD)
  obtain ⟨Wm, ⟨m0, w0⟩, turn⟩ := q D hDn
  generalize hs3 : ({ s2 with heap := s2.heap.push { cls := .type "list", data := .seq ([] : List Value).toArray } } : Shared) = s3
  have I3 : Inv X pins σ (upd H2 D (.lst [])) s3 := by
    rw [← hs3]
    refine I2.laid (t' := s2.toks) (fun b o e => Heap.get?_push_of_some _ e) (Nat.le_of_eq hD) ⟨Nat.zero_le _, [], 0, .nil, ?_⟩
    rw [← hD]
    exact Heap.get?_push_size _ rfl
  have h3 : s3.heap = s2.heap.push { cls := .type "list", data := .seq ([] : List Value).toArray } := by rw [← hs3]
  have sz : ∀ b ∈ fp, b < s2.heap.objs.size := fun b hb => by
    obtain ⟨o, e, _⟩ := T.obj _ _ st2 b hb
    exact Heap.lt_size e
  have f3 : ∀ b ∈ fp, FpOk X pins (upd H2 D (.lst [])) b ∧ b < s3.heap.objs.size := fun b hb => by
    have hlt := sz b hb
    refine ⟨⟨?_, (f2 b hb).2⟩, by rw [h3, Heap.size_push]; exact Nat.lt_succ_of_lt hlt⟩
    rw [upd_ne (by rw [← hD]; exact Nat.ne_of_lt hlt)]
    exact (f2 b hb).1
  have st3 : tn 0 s3.heap := T.keep _ _ _ st2 fun b _ o e => by rw [h3]; exact Heap.get?_push_of_some _ e
  have I4 := block_start I3 ok hN f3
  have pg := hg s3 (upd H2 D (.lst [])) s3.heap.objs.size (cellsFrom (s3.heap.objs.size + 1) scope.names (cloFrom X.env.cells scope.names [])) fp
  have pt := ht s3 (upd H2 D (.lst [])) s3.heap.objs.size (cellsFrom (s3.heap.objs.size + 1) scope.names (cloFrom X.env.cells scope.names [])) fp
  have pe := fun Wb => he Wb s3 (upd H2 D (.lst [])) s3.heap.objs.size (cellsFrom (s3.heap.objs.size + 1) scope.names (cloFrom X.env.cells scope.names [])) fp
  show codeAny _ _ (.compStart (.ListComp elt [⟨tg, iter, ifs, 0⟩] scope pos) 0 (.ref it) (.ref D) (compEnvC scope (cellsFrom (s3.heap.objs.size + 1) scope.names (cloFrom X.env.cells scope.names [])) s3.heap.objs.size X.env)) (compEnds (model X.prog X.w) X.A X.xe none _ (.ref D) (compEnvC scope (cellsFrom (s3.heap.objs.size + 1) scope.names (cloFrom X.env.cells scope.names [])) s3.heap.objs.size X.env)) { s3 with heap := pushCells (s3.heap.push { cls := .type "dict", data := .dict #[] }) scope.names }
  have nfp : ∀ b ∈ fp, (upd H2 D (.lst [])) b = none := fun b hb => (f3 b hb).1.1
  have cF0 : (compEnvC scope (cellsFrom (s3.heap.objs.size + 1) scope.names (cloFrom X.env.cells scope.names [])) s3.heap.objs.size X.env).frame = X.env.frame := rfl
  generalize hce : compEnvC scope (cellsFrom (s3.heap.objs.size + 1) scope.names (cloFrom X.env.cells scope.names [])) s3.heap.objs.size X.env = ce at I4 pg pt pe cF0 ⊢
  have cL : ce.locals = s3.heap.objs.size := by subst hce; rfl
  generalize hH3 : upd H2 D (.lst []) = H3 at I3 I4 pg pt pe w0 nfp f3
  generalize hs4 : ({ s3 with heap := pushCells (s3.heap.push { cls := .type "dict", data := .dict #[] }) scope.names } : Shared) = s4 at I4 ⊢
  have st4 : tn 0 s4.heap := T.keep _ _ _ st3 fun b _ o e => by rw [← hs4]; exact pushCells_keeps _ _ _ _ (Heap.get?_push_of_some _ e)
  have stat : ∀ {σ' : L2.St} {H' : Hp} {s' : Shared}, Inv (X.blk s3 H3 scope ce fp) [] σ' H' s' → (∀ b ∈ fp, H' b = none) → ∀ b ∈ fp, FpOk (X.blk s3 H3 scope ce fp) [] H' b := fun {σ' H' s'} I' hn b hb =>
    ⟨hn b hb, (I'.ok.exf b hb).1, I'.ok.exfs b hb, .inl hb, fun x c e => (I'.ok.exf b hb).2 x c e, fun p hp => absurd (show p ∈ ([] : List (Addr × Obj)) ++ [] from hp) (by simp)⟩
  have hchf : ∀ b ∈ fp, (b ∈ X.ex ∨ X.s_0.heap.objs.size ≤ b) ∧ b ≠ X.env.locals ∧ (∀ x c, X.env.cells.lookup x = some c → c ≠ b) ∧ ∀ p ∈ X.pn ++ pins, p.1 ≠ b := fun b hb => ⟨(f3 b hb).1.2.2.2.1, (f3 b hb).1.2.1, (f3 b hb).1.2.2.2.2.1, (f3 b hb).1.2.2.2.2.2⟩
  have loop : codeAny (model X.prog X.w) X.A (.compLoop (.ListComp elt [⟨tg, iter, ifs, 0⟩] scope pos) 0 (.ref it) (.ref D) ce) (compEnds (model X.prog X.w) X.A X.xe none (EP X pins σ Q) (.ref D) ce) s4 := by
    refine compLoop_any (fun n s' => ∃ i H', Inv (X.blk s3 H3 scope ce fp) [] (wipe σ (own.map (·.2))) H' s' ∧ tn i s'.heap ∧ (∀ b ∈ fp, H' b = none) ∧ Wm i n H') ?_ m0 ⟨0, H3, I4, st4, nfp, w0⟩
    rintro n s5 ⟨i, H5, I5, st5, n5, w5⟩
    rcases turn i n H5 w5 with ⟨stop, qq⟩ | ⟨go, Nx, hNx, step⟩
    · have td := T.done (X.blk s3 H3 scope ce fp) rfl rfl rfl hc i [] s5 _ H5 (fun _ _ => False) I5 (stat I5 n5) st5 stop
      refine thnF td fun r s6 ⟨hr, I6⟩ => ?_
      subst hr
      have I7 : Inv X pins σ H5 s6 := I3.call' (ch := fp) I6.os I6.base I6.hok I6.bare hchf
      have nC : H5 s3.heap.objs.size = none := by
        have z : H5 ce.locals = none := I6.free
        rw [cL] at z
        exact z
      obtain ⟨m, hn, _⟩ := I6.loc
      have hn : s6.heap.Ns ce.locals m := hn
      have f := I3.fpOk (Nat.le_refl _) nC
      obtain ⟨f0, f1, f2', f3', f4, f5⟩ := f
      refine ⟨m, hn, fun h'' sb => ?_⟩
      rw [cL] at sb
      exact ⟨.ref D, H5, I7.turned (t' := s6.toks) (fun b o hb e => (sb.2 b hb).trans e) f0 f1 f3' f4 f5, rfl, qq⟩
    · have ti := T.item (X.blk s3 H3 scope ce fp) rfl rfl rfl hc i [] s5 _ H5 (fun _ _ => False) I5 (stat I5 n5) st5 go
      refine thnF ti fun r s6 ⟨u, hr, h6⟩ => ?_
      subst hr
      refine thnF h6 fun _ s7 ⟨x, H7, I7, r7, y7, st7, n7⟩ => ?_
      have I7' := I7.pinned (stat I7 n7) (T.obj _ _ st7)
      refine thnF (pg.run _ s7 _ H7 x u _ I7' r7 (step x H7 y7)) fun _ s8 ⟨σ8, H8, I8, hw8, q8⟩ => ?_
      refine thnF (pt.run _ s8 σ8 H8 _ I8 q8) fun b s9 ⟨H9, I9, q9⟩ => ?_
      have fin : ∀ {s' : Shared} {H' : Hp}, Inv (X.blk s3 H3 scope ce fp) ([] ++ pinsAt fp s7.heap) σ8 H' s' → Nx H' → ∃ m, m < n ∧ ∃ i H', Inv (X.blk s3 H3 scope ce fp) [] (wipe σ (own.map (·.2))) H' s' ∧ tn i s'.heap ∧ (∀ b ∈ fp, H' b = none) ∧ Wm i m H' := fun {s' H'} I' nx => by
        obtain ⟨m', hm, w'⟩ := hNx H' nx
        have pin' : ∀ b ∈ fp, ∀ o, s7.heap.get? b = some o → s'.heap.get? b = some o ∧ H' b = none := fun b hb o e =>
          let z := I'.pin (b, o) (List.mem_append_right _ (List.mem_append_right _ (mem_pinsAt hb e)))
          ⟨z.1, z.2.1⟩
        have hl : (wipe σ (own.map (·.2))).length = σ8.length := by rw [← hw8, wipe_length]
        refine ⟨m', hm, i + 1, H', (I'.unpinned (pins := [])).weak hl (fun j v e => ?_), T.keep _ _ _ st7 fun b hb o e => (pin' b hb o e).1, fun b hb => ?_, w'⟩
        · rw [← hw8] at e
          exact (wipe_some e).1
        · obtain ⟨o, e, _⟩ := T.obj _ _ st7 b hb
          exact (pin' b hb o e).2
      cases b with
      | false =>
        simp only [Bool.false_eq_true, if_false] at q9 ⊢
        exact fin I9 q9
      | true =>
        simp only [if_true] at q9 ⊢
        have okB := I9.ok
        have pe9 := pe (fun cls d _ H' => W cls d σ H') ((X.blk s3 H3 scope ce fp).pn ++ ([] ++ pinsAt fp s7.heap)) (notedBy (model X.prog X.w) X.A ce (CompFails (model X.prog X.w) X.A X.xe ce)) (fun u s' fl => fly_out I3 hst hfm tk cL cF0 hchf fl)
        refine wpAny_mono (pe9.run [] s9 σ8 H9 _ (I9.toTry _) q9) (fun z s10 ⟨yv, H10, I10, r10, acc, hD10, hz10, nx⟩ => ?_) fun _ _ e => e
        exact L2.app_ok (X := X.blk s3 H3 scope ce fp) (I10.ofTry okB) hD10 hz10 r10 fun s11 I11 => fin I11 nx
  exact codeAny_compStart_list loop (T.self X.A 0 _ _ _ st4 loop)
end
def Cd.wxb (C : Cd) (cls : Str → Addr) (Wb : WX) : Cd := { C with XW := fun c σ H => Wb (.ref (cls c)) none σ H }
section
variable {X : Cx} {C : Cd} {W : WX} {f : En → R D} {e elt tg iter : Expr} {pos : Pos}
theorem Rel.wxb {cls : Str → Addr} {Wb : WX} {ρ : En} {σ : L2.St} {F H : Hp} (r : Rel C ρ σ F H) : Rel (C.wxb cls Wb) ρ σ F H := ⟨r.ext, r.sub, r.len, r.slot, r.ownF, r.apartF, r.lend, r.wok⟩
theorem Rel.nox_wxb {cls : Str → Addr} {Wb : WX} {ρ : En} {σ : L2.St} {F H : Hp} (r : Rel C.nox ρ σ F H) : Rel (C.wxb cls Wb) ρ σ F H := ⟨r.ext, r.sub, r.len, r.slot, r.ownF, r.apartF, r.lend, r.wok⟩
def lcXGo (g : D → En → Option En) (f : En → R D) (ρ : En) : List D → R (List D)
  | [] => .ok []
  | d :: ds => match g d ρ with
    | none => .bad
    | some ρ1 => bd (f ρ1) fun z => bd (lcXGo g f ρ ds) fun zs => .ok (z :: zs)
def lcX (own : List Nat) (fi : En → R (List D)) (g : D → En → Option En) (f : En → R D) : En → R D := fun ρ => bd (fi ρ) fun ds =>
  grd (decide (ds.length < sizeLine)) (bd (lcXGo g f (wipeR ρ own) ds) fun zs => .ok (.lst zs))
theorem lc_okX {cls : Str → Addr} {st : Bool} {fi : En → R (List D)} {gg : D → En → Option En} {own : List Nat} (hln : (own.all fun v => (C.ln v).isNone) = true) (hout : ∀ c σ H, C.XW c σ H → W (.ref (cls c)) none σ H) : ∀ σ H Q, tO C (lcX own fi gg f) σ H Q → tLcX (tI C st fi) (tG C.nox own gg) (tT C.nox tYesD) (fun Wb => tE (C.wxb cls Wb) f) own W σ H Q := by
  rintro σ H Q ⟨ρ, F, r, q⟩
  refine ⟨ρ, F, r, ?_⟩
  unfold lcX at q
  cases hfi : fi ρ with
  | bad => rw [hfi] at q; exact q
  | err c => rw [hfi] at q; exact q
  | ok ds =>
    rw [hfi, bd_ok] at q
    intro J F1 H1 x1 s1 it
    replace it : IterOk C.K J H1 F1 ds := by
      cases st with
      | true => rw [if_pos rfl] at it; exact it.base (jn_in s1 (r.ext.h.trans x1.h))
      | false => rw [if_neg Bool.false_ne_true] at it; exact it
    obtain ⟨z, q⟩ := grd_out q
    have z := of_decide_eq_true z
    intro D hD
    have q := Out.later q x1
    have r1 := r.grow x1 s1
    have d0 : C.H0 D = none := r1.ext.h.free hD
    have fd : F1 D = none := s1.free hD
    have ap : ∀ H', Same H1 H' → ∀ (j : Nat) (e : DL.D) (b : Addr), ρ[j]? = some (some (true, e)) → σ[j]? = some (some (.ref b)) → D ∉ foot H' b e := fun H' s' j e b h1 h2 h3 => by
      obtain ⟨a, q1, _, _, o⟩ := r1.ownF j e h1
      rw [h2] at q1
      cases q1
      rw [foot_grow s' o] at h3
      obtain ⟨u, hu⟩ := o.foot D h3
      rw [hD] at hu
      cases hu
    -- what is wished of the rest
    let Want : List DL.D → List DL.D → Prop := fun zs rest => Out C σ F1 H1 (fun F' H' => New C.K H F' H') (bd (lcXGo gg f (wipeR ρ own) rest) fun ws => .ok (.lst (zs ++ ws))) Q
    have q0 : Want [] ds := q
    refine ⟨fun i m H => m = ds.length - i ∧ i ≤ ds.length ∧ ∃ F2 acc zs, Rel C ρ σ F2 H ∧ Ext F1 H1 F2 H ∧ F2 D = none ∧ H D = some (.lst acc) ∧ Reps C.K F2 zs acc ∧ zs.length ≤ i ∧ Want zs (ds.drop i),
      ⟨_, rfl, Nat.zero_le _, F1, [], [], r1.other fd d0 (ap H1 (Same.refl _)), Ext.heap (same_upd hD), fd, upd_same, .nil, Nat.zero_le _, q0⟩, ?_⟩
    rintro i m H2 ⟨rfl, hi, F2, acc, zs, r2, x2, f2, h2, rz, lz, hw⟩
    obtain ⟨it1, it2⟩ := it i F2 H2 x2.h x2.f r2.sub
    by_cases hlt : i < ds.length
    · obtain ⟨go, y⟩ := it1 hlt
      have e : ds.drop i = ds[i] :: ds.drop (i + 1) := List.drop_eq_getElem_cons hlt
      rw [e] at hw
      refine .inr ⟨go, fun H => ∃ F2 acc zs, Rel C ρ σ F2 H ∧ Ext F1 H1 F2 H ∧ F2 D = none ∧ H D = some (.lst acc) ∧ Reps C.K F2 zs acc ∧ zs.length ≤ i + 1 ∧ Want zs (ds.drop (i + 1)),
        fun H' p => ⟨_, by omega, rfl, hlt, p⟩, fun v H3 yy => ?_⟩
      obtain ⟨F3, d, hd, x3, s3, w3⟩ := y v H3 yy
      rw [List.getElem?_eq_getElem hlt] at hd
      cases hd
      have r3 := r2.grow x3 s3
      refine ⟨wipeR ρ own, F3, ds[i], (r3.nox).wipe own hln, w3, ?_⟩
      have hw : Out C σ F1 H1 (fun F' H' => New C.K H F' H') (bd (match gg ds[i] (wipeR ρ own) with | none => .bad | some ρ1 => bd (f ρ1) fun z => bd (lcXGo gg f (wipeR ρ own) (ds.drop (i + 1))) fun zs => .ok (z :: zs)) fun ws => .ok (.lst (zs ++ ws))) Q := hw
      cases hgg : gg ds[i] (wipeR ρ own) with
      | none => rw [hgg] at hw; exact hw.elim
      | some ρ1 =>
        rw [hgg] at hw
        intro σ4 e4 r4
        refine ⟨e4.trans (wipe_wipe own own σ fun _ h => h), ρ1, F3, r4, ?_⟩
        intro F5 H5 x5 s5
        have x35 := x3.trans x5
        have hD5 : H5 D = some (.lst acc) := x35.h _ _ h2
        have fD5 : F5 D = none := x35.keepN h2 f2
        rw [if_pos rfl]
        refine ⟨ρ1, F5, (r4.grow x5 s5).nox_wxb, ?_⟩
        dsimp only at hw
        have hw : Out C σ F1 H1 (fun F' H' => New C.K H F' H') (bd (bd (f ρ1) fun z => bd (lcXGo gg f (wipeR ρ own) (ds.drop (i + 1))) fun zs => .ok (z :: zs)) fun ws => .ok (.lst (zs ++ ws))) Q := hw
        cases hf : f ρ1 with
        | bad => rw [hf] at hw; exact hw.elim
        | err c =>
          rw [hf] at hw
          intro F6 H6 x6 s6
          have x26 := x35.trans x6
          exact hout c σ H6 (hw F6 H6 (x2.trans x26) s6)
        | ok zz =>
          rw [hf] at hw
          intro yv F6 H6 x6 s6 w6
          have x26 := x35.trans x6
          have hD6 : H6 D = some (.lst acc) := x26.h _ _ h2
          have fD6 : F6 D = none := x26.keepN h2 f2
          refine ⟨acc, hD6, by rw [rz.length]; omega, F6, acc ++ [yv], zs ++ [zz], ((r3.grow x5 s5).grow x6 s6).other fD6 d0 (ap H6 (x2.trans x26).h), ?_, fD6, upd_same, (rz.mono x26.f).append (.cons w6 .nil), by rw [List.length_append]; exact Nat.succ_le_succ lz, ?_⟩
          · have x16 := x2.trans x26
            exact ⟨x16.f, fun b u h => by rw [upd_ne (ne_of_none h hD)]; exact x16.h b u h, x16.n⟩
          · show Out C σ F1 H1 _ (bd (lcXGo gg f (wipeR ρ own) (ds.drop (i + 1))) fun ws => .ok (.lst ((zs ++ [zz]) ++ ws))) Q
            cases hgo : lcXGo gg f (wipeR ρ own) (ds.drop (i + 1)) with
            | bad => rw [hgo] at hw; exact hw.elim
            | err c => rw [hgo] at hw; exact hw
            | ok ws =>
              rw [hgo] at hw
              show Out C σ F1 H1 _ (.ok (.lst ((zs ++ [zz]) ++ ws))) Q
              rw [List.append_assoc]
              exact hw
    · have e : i = ds.length := by omega
      subst e
      rw [List.drop_length] at hw
      have hw : Out C σ F1 H1 (fun F' H' => New C.K H F' H') (.ok (.lst (zs ++ []))) Q := hw
      rw [List.append_nil] at hw
      refine .inl ⟨it2 rfl, hw (.ref D) F2 H2 x2 r2.sub ⟨D, rfl, x1.h.free hD, f2, acc, h2, rz⟩⟩
theorem d_lcX {cls : Str → Addr} {st : Bool} {scope : Scope} {own : List (Str × Nat)} {fi : En → R (List D)} {gg : D → En → Option En} (hc : X.calm = true) (hN : X.N.Nodup) (hst : X.stack = X.env :: X.outer) (hfm : X.env.frame = some X.env.locals) (tk : Takes X W) (hout : ∀ c σ H, C.XW c σ H → W (.ref (cls c)) none σ H) (hi : PI X tg iter (tI C st fi)) (ok : BlkOk X.N X.env.scope scope own)
    (hg : ∀ (s : Shared) (H : Hp) (A : Addr) (cl : List (Str × Addr)) (fp : List Addr), PG (X.blk s H scope (compEnvC scope cl A X.env) fp) tg (tG C.nox (own.map (·.2)) gg))
    (he : ∀ (Wb : WX) (s : Shared) (H : Hp) (A : Addr) (cl : List (Str × Addr)) (fp : List Addr) (pn : List (Addr × Obj)) (xe : Value → Shared → Prop), Takes ((X.blk s H scope (compEnvC scope cl A X.env) fp).tr pn xe) Wb → PE ((X.blk s H scope (compEnvC scope cl A X.env) fp).tr pn xe) elt (tE (C.wxb cls Wb) f)) (hs : ∀ x, foldedSetIterable iter X.env x = pure x := by intro _; rfl) (hw : ((own.map (·.2)).all fun v => (C.ln v).isNone) = true := by rfl) :
    PE X (.ListComp elt [⟨tg, iter, [], 0⟩] scope pos) (tO C (lcX (own.map (·.2)) fi gg f)) :=
  (pe_lcX (W := W) hc hN hst hfm tk hi ok hg (fun _ _ _ _ _ => ts_nil) he hs).mono (lc_okX hw hout)
end
def lcXK (x : R (List D)) (own : List Nat) (g : D → En → Option En) (f : En → R D) (ρ : En) : R D := bd x fun ds => grd (decide (ds.length < sizeLine)) (bd (lcXGo g f (wipeR ρ own) ds) fun zs => .ok (.lst zs))
theorem ap_lcX {own : List Nat} {fi : En → R (List D)} {g : D → En → Option En} {f : En → R D} {ρ : En} : lcX own fi g f ρ = lcXK (fi ρ) own g f ρ := rfl
end DL
namespace DL
open PySem PySem.Spec PyProof.Rows L2
def repS (x : Str) (n : Int) : Str := ⟨(List.replicate n.toNat x.cps).foldl (· ++ ·) #[]⟩
def dMulS : D → D → R D
  | .str x, .int n => grd (decide (x.length = 1) && decide (2 ≤ n) && decide (n ≤ 1000) && decide ((repS x n).length ≤ 1000000)) (.ok (.str (repS x n)))
  | _, _ => .bad
section
variable {X : Cx}
theorem op_mulS : OpR X (binaryOp .Mult) (fun x y H Q => ∃ i n, x = .str i ∧ y = .int n ∧ i.length = 1 ∧ 2 ≤ n ∧ n ≤ 1000 ∧ (repS i n).length ≤ 1000000 ∧ Q (.str (repS i n)) H) := by
  intro pins s σ H x y v u Q I rx ry h
  obtain ⟨i, n, rfl, rfl, h1, h2, h3, h4, q⟩ := h
  obtain ⟨t, rfl⟩ := rx
  obtain ⟨t', rfl⟩ := ry
  refine PySem.P.mul_str (by rw [decide_eq_false (by omega), decide_eq_false (by omega)]; rfl) (fun _ _ => ?_) (fun _ _ => ?_) ?_
  · have : (1 : Int) ≤ (2 ^ 63 - 1) / n := by
      rw [Int.le_ediv_iff_mul_le (by omega)]
      omega
    omega
  · unfold PySem.Builtin.Str.tooLong
    rw [h1, sizeLine_eq]
    exact decide_eq_false (by omega)
  · rw [if_neg (by omega), if_neg (by
      rw [Bool.or_eq_true, beq_iff_eq, beq_iff_eq]
      omega)]
    exact ⟨by rw [sizeLine_eq]; have h4 : (⟨(List.replicate n.toNat i.cps).foldl (· ++ ·) #[]⟩ : Str).length ≤ 1000000 := h4; omega, ⟨.str (repS i n), H, I.tok _, ⟨_, rfl⟩, q⟩⟩
end
section
variable {X : Cx} {C : Cd} {f g : En → R D} {a b : Expr} {pos : Pos}
theorem d_mulS (ha : PE X a (tR C f)) (hb : PE X b (tR C g)) : PE X (.BinOp a .Mult b pos) (tO C (bop f g dMulS)) :=
  d_op op_mulS (by
    intro σ F H Q d e x y o s w1 w2
    unfold dMulS at o
    split at o
    · cases w1; cases w2
      obtain ⟨z, o⟩ := grd_out o
      rw [Bool.and_eq_true, Bool.and_eq_true, Bool.and_eq_true] at z
      exact ⟨_, _, rfl, rfl, of_decide_eq_true z.1.1.1, of_decide_eq_true z.1.1.2, of_decide_eq_true z.1.2, of_decide_eq_true z.2, fin_flat o s rfl⟩
    · exact o.elim) ha hb
end
end DL
namespace Fn
open PySem DL
def number_of_7739_b1 : En → R Fl :=
  (sIf (tst (bop (rd 1) (cst (.str (Str.ofString "0123456789"))) (dIn true))) (sRaise (Str.ofString "NoText")) sSkip)
def number_of_7739_g : En → R Fl :=
  (sSeq (sIf (bOr (bNot (tst (eChain dLe dLe (cst (.int 1)) (nop (aCons (rd 0) aNil) dLen) (cst (.int 60))))) (bAnd (tst (bop (bop (rd 0) (cst (.int 0)) dIxA) (cst (.str (Str.ofString "0"))) (dEq false))) (tst (bop (nop (aCons (rd 0) aNil) dLen) (cst (.int 1)) dGt)))) (sRaise (Str.ofString "NoText")) sSkip)
  (sSeq (sFor (itr (rdE 0)) (gSet 1) number_of_7739_b1)
  (sRetO (nop (aCons (rd 0) aNil) dIntT))))
def number_of_7739 : Den := bodyD 1 2 number_of_7739_g
end Fn
namespace Fn
open PySem DL
def parts_of_97dc_b1 : En → R Fl :=
  (sIf (tst (bop (bop (rd 0) (rd 4) dIxA) (cst (.str (Str.ofString "("))) (dEq false))) (sSeq (sIf (tst (bop (rd 2) (cst (.int 0)) (dEq false))) (sSet 3 (bop (rd 4) (cst (.int 1)) dAdd)) sSkip)
  (sSet 2 (bop (rd 2) (cst (.int 1)) dAdd))) (sIf (tst (bop (rd 2) (cst (.int 0)) (dEq false))) (sRaise (Str.ofString "NoText")) (sIf (tst (bop (bop (rd 0) (rd 4) dIxA) (cst (.str (Str.ofString ")"))) (dEq false))) (sSeq (sSet 2 (bop (rd 2) (cst (.int 1)) dSub))
  (sIf (tst (bop (rd 2) (cst (.int 0)) (dEq false))) (sAppend 1 (slc (rd 0) (pSome (uop (rdE 3) flatO)) (pSome (uop (rdE 4) flatO)))) sSkip)) sSkip)))
def parts_of_97dc_g : En → R Fl :=
  (sSeq (sSetO 1 (nop aNil mkLst))
  (sSeq (sSet 2 (cst (.int 0)))
  (sSeq (sSet 3 (cst (.int 0)))
  (sSeq (sFor (irg (aCons (nop (aCons (rd 0) aNil) dLen) aNil) rng1) (gSet 4) parts_of_97dc_b1)
  (sSeq (sIf (bOr (tst (bop (rd 2) (cst (.int 0)) dGt)) (tst (bop (rd 1) (nop aNil mkLst) (dEq false)))) (sRaise (Str.ofString "NoText")) sSkip)
  (sRetO (rdO 1)))))))
def parts_of_97dc : Den := bodyD 1 5 parts_of_97dc_g
end Fn
namespace Fn
open PySem DL
def law_cell_cb3a_g : En → R Fl :=
  (sSeq (sIf (tst (bop (rd 1) (nop (aCons (rd 0) aNil) dLen) dLt)) (sRet (bop (rd 0) (rd 1) dIxA)) sSkip)
  (sRetO (cst (.int 0))))
def law_cell_cb3a : Den := bodyN 2 2 law_cell_cb3a_g
end Fn
namespace Fn
open PySem DL
def law_entries_7bb9_b1 : En → R Fl :=
  (sSet 2 (bop (bop (bop (rd 2) (cst (.int 31)) dMul) (rd 3) dAdd) (cst (.int 2147483647)) dMod))
def law_entries_7bb9_b2 : En → R Fl :=
  (sSeq (sSet 2 (bop (bop (bop (bop (bop (rd 2) (rd 2) dMul) (bop (cst (.int 48271)) (rd 2) dMul) dAdd) (rd 5) dAdd) (cst (.int 7)) dAdd) (cst (.int 2147483647)) dMod))
  (sAppend 4 (rdE 2)))
def law_entries_7bb9_b3 : En → R Fl :=
  (sPut 4 (bop (rd 0) (rd 5) dIxA) (bop (bop (rd 5) (cst (.int 4)) dSub) (rd 1) dMod))
def law_entries_7bb9_g : En → R Fl :=
  (sSeq (sSet 2 (cst (.int 1)))
  (sSeq (sFor (itr (slc (rd 0) pNone (pSome (cst (.int 4))))) (gSet 3) law_entries_7bb9_b1)
  (sSeq (sSetO 4 (nop aNil mkLst))
  (sSeq (sFor (irg (aCons (rd 1) aNil) rng1) (gSet 5) law_entries_7bb9_b2)
  (sSeq (sFor (irg (aCons (cst (.int 4)) (aCons (nop (aCons (rd 0) aNil) dLen) aNil)) rng2) (gSet 5) law_entries_7bb9_b3)
  (sRetO (rdO 4)))))))
def law_entries_7bb9 : Den := bodyN 2 6 law_entries_7bb9_g
end Fn
namespace Fn
open PySem DL
def law_whole_9e39_g : En → R Fl :=
  (sRetO (eAnd (uop (rd 0) (isiD "int")) (uop (uop (rd 0) (isiD "bool")) eNot)))
def law_whole_9e39 : Den := bodyN 1 1 law_whole_9e39_g
end Fn
namespace Fn
open PySem DL
def law_number_4c34_g : En → R Fl :=
  (sSeq (sSet 1 (bop (nop (aCons (cst (.int 10)) (aCons (bop (cst (.int 10)) (cst (.int 60)) dPow) (aCons (bop (cst (.int 10)) (cst (.int 18)) dPow) (aCons (cst (.int 3)) aNil)))) mkLst) (bop (bop (rd 0) (cst (.int 5)) dDiv) (cst (.int 4)) dMod) dIxA))
  (sSeq (sIf (tst (bop (bop (bop (rd 0) (cst (.int 20)) dDiv) (cst (.int 5)) dMod) (cst (.int 4)) (dEq false))) (sRetO (bop (rd 1) (cst (.int 1)) dSub)) sSkip)
  (sRetO (bop (bop (rd 0) (cst (.int 100)) dDiv) (rd 1) dMod))))
def law_number_4c34 : Den := bodyN 1 2 law_number_4c34_g
end Fn
namespace Fn
open PySem DL
def law_written_a355_e1 (self : Den) : En → R D :=
  (bop (bop (cst (.str (Str.ofString "("))) (nop (aCons (rdE 5) aNil) (callE self)) dAdd) (cst (.str (Str.ofString ")"))) dAdd)
def law_written_a355_b2 (self : Den) : En → R Fl :=
  (sSet 1 (bop (bop (rd 1) (cst (.str (Str.ofString " "))) dAdd) (nop (aCons (rd 2) aNil) dStr) dAdd))
def law_written_a355_b3 (self : Den) : En → R Fl :=
  (sSet 1 (bop (bop (bop (bop (rd 1) (cst (.str (Str.ofString " "))) dAdd) (nop (aCons (rd 3) aNil) dStr) dAdd) (cst (.str (Str.ofString "="))) dAdd) (nop (aCons (rd 4) aNil) dStr) dAdd))
def law_written_a355_g (self : Den) : En → R Fl :=
  (sSeq (sIf (tst (bop (bop (rd 0) (cst (.int 0)) dIxA) (cst (.str (Str.ofString "split"))) (dEq false))) (sRetO (bop (cst (.str (Str.ofString "split "))) (jop (cst (.str (Str.ofString ""))) (lcD [5] (itr (bop (rd 0) (cst (.int 1)) dIxA)) (gSet 5) tYesD (law_written_a355_e1 self))) dAdd)) sSkip)
  (sSeq (sIf (tst (bop (bop (rd 0) (cst (.int 0)) dIxA) (cst (.str (Str.ofString "tie"))) (dEq false))) (sRetO (bop (cst (.str (Str.ofString "tie "))) (nop (aCons (bop (rd 0) (cst (.int 1)) dIxA) aNil) dStr) dAdd)) sSkip)
  (sSeq (sSet 1 (bop (rd 0) (cst (.int 0)) dIxA))
  (sSeq (sFor (itr (bop (rd 0) (cst (.int 1)) dIxA)) (gSet 2) (law_written_a355_b2 self))
  (sSeq (sIf (tst (bop (bop (rd 0) (cst (.int 0)) dIxA) (cst (.str (Str.ofString "dear"))) (dEq false))) (sSeq (sSet 1 (bop (rd 1) (cst (.str (Str.ofString " /"))) dAdd))
  (sFor (itr (bop (rd 0) (cst (.int 2)) dIxA)) (gSeqD 2 (gsCons (gSet 3) (gsCons (gSet 4) gsNil))) (law_written_a355_b3 self))) sSkip)
  (sRet (rdE 1)))))))
def law_written_a355 : Nat → Den
  | 0 => fun _ => .bad
  | n + 1 => bodyN 1 6 (law_written_a355_g (law_written_a355 n))
theorem law_written_a355_len : ∀ (n : Nat) (ds : List D), law_written_a355 n ds ≠ .bad → ds.length = 1
  | 0, _, h => absurd rfl h
  | n + 1, ds, h => bodyN_len (n := 1) (N := 6) (g := law_written_a355_g (law_written_a355 n)) ds h
end Fn
namespace Fn
open PySem DL
def law_bad_1e63_g : En → R Fl :=
  (sSeq (sSet 1 (nop (aCons (cst (.str (Str.ofString "tie"))) (aCons (cst (.str (Str.ofString "tie "))) (aCons (cst (.str (Str.ofString "tie 01"))) (aCons (cst (.str (Str.ofString "tie -1"))) (aCons (cst (.str (Str.ofString "tie +1"))) (aCons (cst (.str (Str.ofString "tie 1_0"))) (aCons (cst (.str (Str.ofString "tie 1 2"))) (aCons (cst (.str (Str.ofString "tie x"))) (aCons (cst (.str (Str.ofString "tie 00"))) (aCons (cst (.str (Str.ofString "tie0"))) (aCons (cst (.str (Str.ofString "Tie 0"))) aNil))))))))))) mkLst))
  (sSeq (sSet 1 (bop (rd 1) (nop (aCons (cst (.str (Str.ofString "tie 0=1"))) (aCons (bop (cst (.str (Str.ofString "tie "))) (bop (cst (.str (Str.ofString "1"))) (cst (.int 61)) dMulS) dAdd) (aCons (cst (.str (Str.ofString "tie  1"))) (aCons (cst (.str (Str.ofString "short -1"))) (aCons (cst (.str (Str.ofString "short 01"))) (aCons (cst (.str (Str.ofString "short 1,2"))) (aCons (cst (.str (Str.ofString "short  1"))) (aCons (cst (.str (Str.ofString "short x"))) aNil)))))))) mkLst) dAdd))
  (sSeq (sSet 1 (bop (rd 1) (nop (aCons (cst (.str (Str.ofString "short /"))) (aCons (bop (bop (cst (.str (Str.ofString "short "))) (bop (cst (.str (Str.ofString "9"))) (cst (.int 61)) dMulS) dAdd) (cst (.str (Str.ofString " 1"))) dAdd) (aCons (bop (bop (cst (.str (Str.ofString "dear 1 "))) (bop (cst (.str (Str.ofString "9"))) (cst (.int 61)) dMulS) dAdd) (cst (.str (Str.ofString " /"))) dAdd) (aCons (cst (.str (Str.ofString "dear / 1=2 / 3=4"))) aNil)))) mkLst) dAdd))
  (sSeq (sSet 1 (bop (rd 1) (nop (aCons (bop (cst (.str (Str.ofString "short "))) (bop (cst (.str (Str.ofString "9"))) (cst (.int 61)) dMulS) dAdd) (aCons (cst (.str (Str.ofString "shortest"))) (aCons (cst (.str (Str.ofString "short1"))) (aCons (cst (.str (Str.ofString "dear"))) (aCons (cst (.str (Str.ofString "dear 1"))) (aCons (cst (.str (Str.ofString "dear 1 2"))) (aCons (cst (.str (Str.ofString "dear / 1"))) (aCons (cst (.str (Str.ofString "dear /1=2"))) aNil)))))))) mkLst) dAdd))
  (sSeq (sSet 1 (bop (rd 1) (nop (aCons (cst (.str (Str.ofString "dear 1/ 1=2"))) (aCons (cst (.str (Str.ofString "dear -0 /"))) (aCons (cst (.str (Str.ofString "dear --1 /"))) (aCons (cst (.str (Str.ofString "dear - /"))) (aCons (cst (.str (Str.ofString "dear -01 /"))) (aCons (cst (.str (Str.ofString "dear 01 /"))) (aCons (cst (.str (Str.ofString "dear / ="))) aNil))))))) mkLst) dAdd))
  (sSeq (sSet 1 (bop (rd 1) (nop (aCons (cst (.str (Str.ofString "dear / 1="))) (aCons (cst (.str (Str.ofString "dear / =1"))) (aCons (cst (.str (Str.ofString "dear / 1=-1"))) (aCons (cst (.str (Str.ofString "dear / -1=1"))) (aCons (cst (.str (Str.ofString "dear / 1=2=3"))) (aCons (cst (.str (Str.ofString "dear / 01=1"))) aNil)))))) mkLst) dAdd))
  (sSeq (sSet 1 (bop (rd 1) (nop (aCons (cst (.str (Str.ofString "dear / 1=01"))) (aCons (cst (.str (Str.ofString "dear / 1 = 2"))) (aCons (cst (.str (Str.ofString "dear / /"))) (aCons (cst (.str (Str.ofString "dear 1 / 2=3 /"))) (aCons (cst (.str (Str.ofString "dear  /"))) (aCons (bop (bop (cst (.str (Str.ofString "dear -"))) (bop (cst (.str (Str.ofString "1"))) (cst (.int 61)) dMulS) dAdd) (cst (.str (Str.ofString " /"))) dAdd) aNil)))))) mkLst) dAdd))
  (sSeq (sSet 1 (bop (rd 1) (nop (aCons (bop (cst (.str (Str.ofString "dear / 1="))) (bop (cst (.str (Str.ofString "1"))) (cst (.int 61)) dMulS) dAdd) (aCons (bop (bop (cst (.str (Str.ofString "dear / "))) (bop (cst (.str (Str.ofString "1"))) (cst (.int 61)) dMulS) dAdd) (cst (.str (Str.ofString "=1"))) dAdd) (aCons (cst (.str (Str.ofString "plan 1"))) aNil))) mkLst) dAdd))
  (sSeq (sSet 1 (bop (rd 1) (nop (aCons (cst (.str (Str.ofString "split"))) (aCons (cst (.str (Str.ofString "split "))) (aCons (cst (.str (Str.ofString "split ()"))) (aCons (cst (.str (Str.ofString "split()"))) (aCons (cst (.str (Str.ofString "split (tie 0) (tie 1)"))) (aCons (cst (.str (Str.ofString "split (tie 0)tie 1"))) aNil)))))) mkLst) dAdd))
  (sSeq (sSet 1 (bop (rd 1) (nop (aCons (cst (.str (Str.ofString "split tie 0"))) (aCons (cst (.str (Str.ofString "split [tie 0]"))) (aCons (cst (.str (Str.ofString "split ((tie 0))"))) (aCons (cst (.str (Str.ofString "split (tie 0"))) (aCons (cst (.str (Str.ofString "split tie 0)"))) (aCons (cst (.str (Str.ofString "split (tie 0))"))) aNil)))))) mkLst) dAdd))
  (sSeq (sSet 1 (bop (rd 1) (nop (aCons (cst (.str (Str.ofString ""))) (aCons (cst (.str (Str.ofString " "))) (aCons (cst (.str (Str.ofString "(tie 0)"))) (aCons (cst (.str (Str.ofString "split (tie 0)()"))) (aCons (cst (.str (Str.ofString "split (tie 0)(tie)"))) (aCons (cst (.str (Str.ofString "split(tie 0)"))) (aCons (cst (.str (Str.ofString "tie 0 (tie 0)"))) aNil))))))) mkLst) dAdd))
  (sSeq (sSet 1 (bop (rd 1) (nop (aCons (cst (.str (Str.ofString "short 1 (tie 0)"))) (aCons (cst (.str (Str.ofString "/"))) (aCons (cst (.str (Str.ofString "0"))) (aCons (cst (.str (Str.ofString "-1"))) aNil)))) mkLst) dAdd))
  (sRet (bop (rd 1) (bop (rd 0) (nop (aCons (rd 1) aNil) dLen) dMod) dIxA))))))))))))))
def law_bad_1e63 : Den := bodyN 1 2 law_bad_1e63_g
end Fn
namespace Fn
open PySem DL
def law_deep_c3cf_b1 : En → R Fl :=
  (sSet 1 (bop (bop (cst (.str (Str.ofString "split ("))) (rd 1) dAdd) (cst (.str (Str.ofString ")"))) dAdd))
def law_deep_c3cf_g : En → R Fl :=
  (sSeq (sSet 1 (cst (.str (Str.ofString "tie 0"))))
  (sSeq (sFor (irg (aCons (rd 0) aNil) rng1) (gSet 2) law_deep_c3cf_b1)
  (sRet (rdE 1))))
def law_deep_c3cf : Den := bodyN 1 3 law_deep_c3cf_g
end Fn
namespace Fn
open PySem DL
def price_of_acc9_g : En → R Fl :=
  (sSeq (sIf (tst (bop (slc (rd 0) pNone (pSome (cst (.int 1)))) (cst (.str (Str.ofString "-"))) (dEq true))) (sRetO (nop (aCons (rdE 0) aNil) (callO Fn.number_of_7739))) sSkip)
  (sSeq (sIf (tst (bop (rd 0) (cst (.str (Str.ofString "-0"))) (dEq false))) (sRaise (Str.ofString "NoText")) sSkip)
  (sRetO (uop (nop (aCons (slc (rd 0) (pSome (cst (.int 1))) pNone) aNil) (callE Fn.number_of_7739)) dNeg))))
def price_of_acc9 : Den := bodyD 1 1 price_of_acc9_g
end Fn
namespace Fn
open PySem DL
def due_of_8468_g : En → R Fl :=
  (sSeq (sUnp (txop (rd 0) (cst (.str (Str.ofString "="))) dPart) (gSeqD 3 (gsCons (gSet 1) (gsCons (gSet 2) (gsCons (gSet 3) gsNil)))))
  (sRetO (nop (aCons (nop (aCons (rdE 1) aNil) (callE Fn.number_of_7739)) (aCons (nop (aCons (rdE 3) aNil) (callE Fn.number_of_7739)) aNil)) mkTup)))
def due_of_8468 : Den := bodyD 1 4 due_of_8468_g
end Fn
namespace Fn
open PySem DL
def law_tree_0852_b1 (self : Den) : En → R Fl :=
  (sSeq (sUnp (nop (aCons (rdE 0) (aCons (bop (rd 1) (cst (.int 1)) dAdd) (aCons (bop (rd 2) (cst (.int 1)) dSub) aNil))) (callE self)) (gSeqD 2 (gsCons (gSet 11) (gsCons (gSet 1) gsNil))))
  (sAppend 8 (rdE 11)))
def law_tree_0852_e2 (self : Den) : En → R D :=
  (bop (rd 0) (bop (bop (bop (rd 1) (cst (.int 1)) dAdd) (rd 9) dAdd) (nop (aCons (rd 0) aNil) dLen) dMod) dIxA)
def law_tree_0852_e3 (self : Den) : En → R D :=
  (nop (aCons (rdE 10) aNil) (callE Fn.law_number_4c34))
def law_tree_0852_e4 (self : Den) : En → R D :=
  (bop (nop (aCons (rdE 10) aNil) (callE Fn.law_number_4c34)) (bop (cst (.int 1)) (bop (cst (.int 2)) (bop (bop (rd 10) (cst (.int 3)) dDiv) (cst (.int 2)) dMod) dMul) dSub) dMul)
def law_tree_0852_e5 (self : Den) : En → R D :=
  (nop (aCons (nop (aCons (bop (rd 10) (cst (.int 7)) dDiv) aNil) (callE Fn.law_number_4c34)) (aCons (nop (aCons (rdE 10) aNil) (callE Fn.law_number_4c34)) aNil)) mkTup)
def law_tree_0852_g (self : Den) : En → R Fl :=
  (sSeq (sSet 3 (bop (rd 0) (bop (rd 1) (nop (aCons (rd 0) aNil) dLen) dMod) dIxA))
  (sSeq (sIf (bAnd (tst (bop (bop (rd 3) (cst (.int 5)) dMod) (cst (.int 2)) dLt)) (bAnd (tst (bop (rd 2) (cst (.int 0)) dGt)) (tst (bop (rd 1) (nop (aCons (rd 0) aNil) dLen) dLt)))) (sSeq (sSet 4 (bop (cst (.int 1)) (bop (bop (rd 3) (cst (.int 5)) dDiv) (cst (.int 3)) dMod) dAdd))
  (sSeq (sIf (bAnd (tst (bop (rd 1) (cst (.int 0)) (dEq false))) (tst (bop (bop (bop (rd 3) (cst (.int 15)) dDiv) (cst (.int 4)) dMod) (cst (.int 1)) (dEq false)))) (sSet 4 (cst (.int 7))) sSkip)
  (sSeq (sSetO 8 (nop aNil mkLst))
  (sSeq (sFor (irg (aCons (rd 4) aNil) rng1) (gSet 9) (law_tree_0852_b1 self))
  (sStl [8] (sRetO (nop (aCons (nop (aCons (cst (.str (Str.ofString "split"))) (aCons (rdE 8) aNil)) mkTup) (aCons (rdE 1) aNil)) mkTup))))))) sSkip)
  (sSeq (sIf (tst (bop (bop (rd 3) (cst (.int 5)) dMod) (cst (.int 3)) dLt)) (sRetO (nop (aCons (nop (aCons (cst (.str (Str.ofString "tie"))) (aCons (nop (aCons (bop (rd 3) (cst (.int 5)) dDiv) aNil) (callE Fn.law_number_4c34)) aNil)) mkTup) (aCons (rdE 1) aNil)) mkTup)) sSkip)
  (sSeq (sSet 4 (bop (bop (rd 3) (cst (.int 5)) dDiv) (cst (.int 5)) dMod))
  (sSeq (sSet 5 (lcD [9] (irg (aCons (rd 4) aNil) rng1) (gSet 9) tYesD (law_tree_0852_e2 self)))
  (sSeq (sIf (tst (bop (bop (rd 3) (cst (.int 5)) dMod) (cst (.int 3)) (dEq false))) (sRetO (nop (aCons (nop (aCons (cst (.str (Str.ofString "short"))) (aCons (lcD [10] (itr (rd 5)) (gSet 10) tYesD (law_tree_0852_e3 self)) aNil)) mkTup) (aCons (bop (rd 1) (rd 4) dAdd) aNil)) mkTup)) sSkip)
  (sSeq (sSet 6 (lcD [10] (itr (slc (rd 5) pNone (pSome (bop (bop (rd 3) (cst (.int 25)) dDiv) (cst (.int 4)) dMod)))) (gSet 10) tYesD (law_tree_0852_e4 self)))
  (sSeq (sSet 7 (lcD [10] (itr (slc (rd 5) (pSome (bop (bop (rd 3) (cst (.int 25)) dDiv) (cst (.int 4)) dMod)) pNone)) (gSet 10) tYesD (law_tree_0852_e5 self)))
  (sRetO (nop (aCons (nop (aCons (cst (.str (Str.ofString "dear"))) (aCons (rdE 6) (aCons (rdE 7) aNil))) mkTup) (aCons (bop (rd 1) (rd 4) dAdd) aNil)) mkTup))))))))))
def law_tree_0852 : Nat → Den
  | 0 => fun _ => .bad
  | n + 1 => bodyN 3 12 (law_tree_0852_g (law_tree_0852 n))
theorem law_tree_0852_len : ∀ (n : Nat) (ds : List D), law_tree_0852 n ds ≠ .bad → ds.length = 3
  | 0, _, h => absurd rfl h
  | n + 1, ds, h => bodyN_len (n := 3) (N := 12) (g := law_tree_0852_g (law_tree_0852 n)) ds h
end Fn
namespace Fn
open PySem DL
def law_same_b939_b1 (self : Den) : En → R Fl :=
  (sSeq (sIf (bAnd (tst (bop (bop (rd 1) (cst (.int 0)) dIxA) (cst (.str (Str.ofString "split"))) (dEq false))) (bNot (tst (nop (aCons (bop (bop (rd 0) (cst (.int 1)) dIxA) (rd 2) dIxA) (aCons (bop (bop (rd 1) (cst (.int 1)) dIxA) (rd 2) dIxA) aNil)) (callO self))))) (sRetO (cst (.bl false))) sSkip)
  (sIf (bAnd (tst (bop (bop (rd 1) (cst (.int 0)) dIxA) (cst (.str (Str.ofString "split"))) (dEq true))) (bNot (bAnd (tst (nop (aCons (bop (bop (rd 0) (cst (.int 1)) dIxA) (rd 2) dIxA) aNil) (callO Fn.law_whole_9e39))) (tst (bop (bop (bop (rd 0) (cst (.int 1)) dIxA) (rd 2) dIxA) (bop (bop (rd 1) (cst (.int 1)) dIxA) (rd 2) dIxA) (dEq false)))))) (sRetO (cst (.bl false))) sSkip))
def law_same_b939_b2 (self : Den) : En → R Fl :=
  (sIf (bOr (bNot (tst (uop (rd 3) (isiD "tuple")))) (bOr (tst (bop (nop (aCons (rd 3) aNil) dLen) (cst (.int 2)) (dEq true))) (bOr (bNot (tst (nop (aCons (bop (rd 3) (cst (.int 0)) dIxA) aNil) (callO Fn.law_whole_9e39)))) (bNot (tst (nop (aCons (bop (rd 3) (cst (.int 1)) dIxA) aNil) (callO Fn.law_whole_9e39))))))) (sRetO (cst (.bl false))) sSkip)
def law_same_b939_g (self : Den) : En → R Fl :=
  (sSeq (sIf (bOr (bNot (tst (uop (rd 0) (isiD "tuple")))) (bOr (tst (bop (nop (aCons (rd 0) aNil) dLen) (nop (aCons (rd 1) aNil) dLen) (dEq true))) (tst (bop (bop (rd 0) (cst (.int 0)) dIxA) (bop (rd 1) (cst (.int 0)) dIxA) (dEq true))))) (sRetO (cst (.bl false))) sSkip)
  (sSeq (sIf (tst (bop (bop (rd 1) (cst (.int 0)) dIxA) (cst (.str (Str.ofString "tie"))) (dEq false))) (sRetO (eAnd (nop (aCons (bop (rd 0) (cst (.int 1)) dIxA) aNil) (callO Fn.law_whole_9e39)) (bop (bop (rd 0) (cst (.int 1)) dIxA) (bop (rd 1) (cst (.int 1)) dIxA) (dEq false)))) sSkip)
  (sSeq (sIf (bOr (bNot (tst (uop (bop (rd 0) (cst (.int 1)) dIxA) (isiD "list")))) (tst (bop (nop (aCons (bop (rd 0) (cst (.int 1)) dIxA) aNil) dLen) (nop (aCons (bop (rd 1) (cst (.int 1)) dIxA) aNil) dLen) (dEq true)))) (sRetO (cst (.bl false))) sSkip)
  (sSeq (sFor (irg (aCons (nop (aCons (bop (rd 1) (cst (.int 1)) dIxA) aNil) dLen) aNil) rng1) (gSet 2) (law_same_b939_b1 self))
  (sSeq (sIf (tst (bop (bop (rd 1) (cst (.int 0)) dIxA) (cst (.str (Str.ofString "dear"))) (dEq true))) (sRetO (cst (.bl true))) sSkip)
  (sSeq (sIf (bNot (tst (uop (bop (rd 0) (cst (.int 2)) dIxA) (isiD "list")))) (sRetO (cst (.bl false))) sSkip)
  (sSeq (sFor (itr (bop (rd 0) (cst (.int 2)) dIxA)) (gSet 3) (law_same_b939_b2 self))
  (sRetO (bop (bop (rd 0) (cst (.int 2)) dIxA) (bop (rd 1) (cst (.int 2)) dIxA) (dEq false))))))))))
def law_same_b939 : Nat → Den
  | 0 => fun _ => .bad
  | n + 1 => bodyN 2 4 (law_same_b939_g (law_same_b939 n))
theorem law_same_b939_len : ∀ (n : Nat) (ds : List D), law_same_b939 n ds ≠ .bad → ds.length = 2
  | 0, _, h => absurd rfl h
  | n + 1, ds, h => bodyN_len (n := 2) (N := 4) (g := law_same_b939_g (law_same_b939 n)) ds h
end Fn
namespace Fn
open PySem DL
def law_put_in_df41_b1 (self : Den) : En → R Fl :=
  (sSeq (sSet 7 (nop (aCons (bop (bop (rd 0) (cst (.int 1)) dIxA) (rd 6) dIxA) aNil) (callE (Fn.law_written_a355 12))))
  (sSeq (sIf (tst (bop (rd 6) (rd 4) (dEq false))) (sSet 7 (nop (aCons (bop (bop (rd 0) (cst (.int 1)) dIxA) (rd 6) dIxA) (aCons (rdE 1) (aCons (bop (rd 3) (nop (aCons (bop (rd 0) (cst (.int 1)) dIxA) aNil) dLen) dDiv) aNil))) (callE self))) sSkip)
  (sSet 5 (bop (bop (bop (rd 5) (cst (.str (Str.ofString "("))) dAdd) (rd 7) dAdd) (cst (.str (Str.ofString ")"))) dAdd))))
def law_put_in_df41_g (self : Den) : En → R Fl :=
  (sSeq (sIf (bOr (tst (bop (bop (rd 0) (cst (.int 0)) dIxA) (cst (.str (Str.ofString "split"))) (dEq true))) (tst (bop (bop (rd 2) (cst (.int 4)) dMod) (cst (.int 0)) (dEq false)))) (sRet (rdE 1)) sSkip)
  (sSeq (sSet 3 (bop (rd 2) (cst (.int 4)) dDiv))
  (sSeq (sSet 4 (bop (rd 3) (nop (aCons (bop (rd 0) (cst (.int 1)) dIxA) aNil) dLen) dMod))
  (sSeq (sSet 5 (cst (.str (Str.ofString "split "))))
  (sSeq (sFor (irg (aCons (nop (aCons (bop (rd 0) (cst (.int 1)) dIxA) aNil) dLen) aNil) rng1) (gSet 6) (law_put_in_df41_b1 self))
  (sRet (rdE 5)))))))
def law_put_in_df41 : Nat → Den
  | 0 => fun _ => .bad
  | n + 1 => bodyN 3 8 (law_put_in_df41_g (law_put_in_df41 n))
theorem law_put_in_df41_len : ∀ (n : Nat) (ds : List D), law_put_in_df41 n ds ≠ .bad → ds.length = 3
  | 0, _, h => absurd rfl h
  | n + 1, ds, h => bodyN_len (n := 3) (N := 8) (g := law_put_in_df41_g (law_put_in_df41 n)) ds h
end Fn
namespace Fn
open PySem DL
def read_at_3388_e1 (self : Den) : En → R D :=
  (nop (aCons (rdE 4) (aCons (bop (rd 1) (cst (.int 1)) dSub) aNil)) (callE self))
def read_at_3388_e2 (self : Den) : En → R D :=
  (nop (aCons (rdE 5) aNil) (callE Fn.number_of_7739))
def read_at_3388_e3 (self : Den) : En → R D :=
  (nop (aCons (rdE 5) aNil) (callE Fn.price_of_acc9))
def read_at_3388_e4 (self : Den) : En → R D :=
  (nop (aCons (rdE 5) aNil) (callE Fn.due_of_8468))
def read_at_3388_g (self : Den) : En → R Fl :=
  (sSeq (sSet 2 (txop (rd 0) (cst (.str (Str.ofString " "))) dSplit))
  (sSeq (sIf (bAnd (tst (bop (bop (rd 2) (cst (.int 0)) dIxA) (cst (.str (Str.ofString "split"))) (dEq false))) (bAnd (tst (bop (nop (aCons (rd 2) aNil) dLen) (cst (.int 1)) dGt)) (tst (bop (rd 1) (cst (.int 0)) dGt)))) (sRetO (nop (aCons (cst (.str (Str.ofString "split"))) (aCons (lcX [4] (itr (nop (aCons (slc (rd 0) (pSome (cst (.int 6))) pNone) aNil) (callE Fn.parts_of_97dc))) (gSet 4) (read_at_3388_e1 self)) aNil)) mkTup)) sSkip)
  (sSeq (sIf (bAnd (tst (bop (bop (rd 2) (cst (.int 0)) dIxA) (cst (.str (Str.ofString "tie"))) (dEq false))) (tst (bop (nop (aCons (rd 2) aNil) dLen) (cst (.int 2)) (dEq false)))) (sRetO (nop (aCons (cst (.str (Str.ofString "tie"))) (aCons (nop (aCons (bop (rd 2) (cst (.int 1)) dIxA) aNil) (callE Fn.number_of_7739)) aNil)) mkTup)) sSkip)
  (sSeq (sIf (tst (bop (bop (rd 2) (cst (.int 0)) dIxA) (cst (.str (Str.ofString "short"))) (dEq false))) (sRetO (nop (aCons (cst (.str (Str.ofString "short"))) (aCons (lcX [5] (itr (slc (rd 2) (pSome (cst (.int 1))) pNone)) (gSet 5) (read_at_3388_e2 self)) aNil)) mkTup)) sSkip)
  (sSeq (sIf (bAnd (tst (bop (bop (rd 2) (cst (.int 0)) dIxA) (cst (.str (Str.ofString "dear"))) (dEq false))) (tst (bop (cst (.str (Str.ofString "/"))) (rd 2) (dIn false)))) (sSeq (sSet 3 (idx (rd 2) (cst (.str (Str.ofString "/")))))
  (sRetO (nop (aCons (cst (.str (Str.ofString "dear"))) (aCons (lcX [5] (itr (slc (rd 2) (pSome (cst (.int 1))) (pSome (uop (rdE 3) flatO)))) (gSet 5) (read_at_3388_e3 self)) (aCons (lcX [5] (itr (slc (rd 2) (pSome (bop (rd 3) (cst (.int 1)) dAdd)) pNone)) (gSet 5) (read_at_3388_e4 self)) aNil))) mkTup))) sSkip)
  (sRaise (Str.ofString "NoText")))))))
def read_at_3388 : Nat → Den
  | 0 => fun _ => .bad
  | n + 1 => bodyD 2 6 (read_at_3388_g (read_at_3388 n))
theorem read_at_3388_len : ∀ (n : Nat) (ds : List D), read_at_3388 n ds ≠ .bad → ds.length = 2
  | 0, _, h => absurd rfl h
  | n + 1, ds, h => bodyD_len (n := 2) (N := 6) (g := read_at_3388_g (read_at_3388 n)) ds h
end Fn
namespace Fn
open PySem DL
def law_spoilt_ed1f_e1 : En → R D :=
  (rdE 7)
def law_spoilt_ed1f_t2 : En → R Bool :=
  (tst (bop (bop (rd 2) (rd 7) dIxA) (cst (.str (Str.ofString " "))) (dEq false)))
def law_spoilt_ed1f_g : En → R Fl :=
  (sSeq (sSet 2 (nop (aCons (rdE 0) aNil) (callE (Fn.law_written_a355 12))))
  (sSeq (sSet 3 (bop (rd 1) (cst (.int 6)) dDiv))
  (sSeq (sIf (tst (bop (bop (rd 1) (cst (.int 6)) dMod) (cst (.int 2)) dLt)) (sRetO (nop (aCons (rdE 0) (aCons (nop (aCons (rdE 3) aNil) (callE Fn.law_bad_1e63)) (aCons (bop (rd 3) (cst (.int 80)) dDiv) aNil))) (callO (Fn.law_put_in_df41 12)))) sSkip)
  (sSeq (sIf (tst (bop (bop (rd 1) (cst (.int 6)) dMod) (cst (.int 2)) (dEq false))) (sSeq (sSet 4 (bop (rd 3) (bop (nop (aCons (rd 2) aNil) dLen) (cst (.int 1)) dAdd) dMod))
  (sSeq (sSet 5 (nop (aCons (cst (.str (Str.ofString "+"))) (aCons (cst (.str (Str.ofString "_"))) (aCons (cst (.str (Str.ofString ","))) (aCons (cst (.str (Str.ofString "."))) (aCons (cst (.str (Str.ofString "A"))) (aCons (cst (.str (Str.ofString "\t"))) (aCons (cst (.str (Str.ofString "\n"))) (aCons (cst (.str (Str.ofString ":"))) (aCons (cst (.str (Str.ofString "["))) (aCons (cst (.str (Str.ofString "*"))) (aCons (cst (.str (Str.ofString "z"))) (aCons (cst (.str (Str.ofString "~"))) (aCons (cst (.str (Str.ofString "\\"))) (aCons (cst (.str (Str.ofString "'"))) aNil)))))))))))))) mkLst))
  (sRetO (bop (bop (slc (rd 2) pNone (pSome (uop (rdE 4) flatO))) (bop (rd 5) (bop (bop (rd 3) (cst (.int 7)) dDiv) (cst (.int 14)) dMod) dIxA) dAdd) (slc (rd 2) (pSome (uop (rdE 4) flatO)) pNone) dAdd)))) sSkip)
  (sSeq (sIf (tst (bop (bop (rd 1) (cst (.int 6)) dMod) (cst (.int 3)) (dEq false))) (sSeq (sSet 6 (bop (lcD [7] (irg (aCons (nop (aCons (rd 2) aNil) dLen) aNil) rng1) (gSet 7) law_spoilt_ed1f_t2 law_spoilt_ed1f_e1) (nop (aCons (cst (.int 0)) (aCons (nop (aCons (rd 2) aNil) dLen) aNil)) mkLst) dAdd))
  (sSeq (sSet 4 (bop (rd 6) (bop (rd 3) (nop (aCons (rd 6) aNil) dLen) dMod) dIxA))
  (sRetO (bop (bop (slc (rd 2) pNone (pSome (uop (rdE 4) flatO))) (cst (.str (Str.ofString " "))) dAdd) (slc (rd 2) (pSome (uop (rdE 4) flatO)) pNone) dAdd)))) sSkip)
  (sSeq (sIf (tst (bop (bop (rd 1) (cst (.int 6)) dMod) (cst (.int 4)) (dEq false))) (sRetO (nop (aCons (bop (cst (.int 9)) (bop (nop (aCons (cst (.int 0)) (aCons (bop (rd 3) (cst (.int 32)) dMod) aNil)) mkLst) (bop (bop (rd 3) (cst (.int 32)) dDiv) (cst (.int 2)) dMod) dIxA) dAdd) aNil) (callO Fn.law_deep_c3cf))) sSkip)
  (sRet (bop (nop (aCons (cst .non) (aCons (cst (.int 0)) (aCons (cst (.bl true)) (aCons (nop (aCons (cst (.str (Str.ofString "tie 0"))) aNil) mkLst) (aCons (nop (aCons (cst (.str (Str.ofString "tie"))) (aCons (cst (.int 0)) aNil)) mkTup) (aCons (bop (cst (.int 10)) (cst (.int 30)) dPow) (aCons (cst (.bl false)) (aCons (nop aNil mkLst) (aCons (nop aNil mkTup) (aCons (uop (cst (.int 1)) dNeg) aNil)))))))))) mkLst) (bop (rd 3) (cst (.int 10)) dMod) dIxA))))))))
def law_spoilt_ed1f : Den := bodyN 2 8 law_spoilt_ed1f_g
end Fn
namespace Fn
open PySem DL
def read_paper_f09b_g : En → R Fl :=
  (sSeq (sIf (bNot (tst (uop (rd 0) (isiD "str")))) (sRaise (Str.ofString "NoText")) sSkip)
  (sRetO (nop (aCons (rdE 0) (aCons (cst (.int 8)) aNil)) (callO (Fn.read_at_3388 12)))))
def read_paper_f09b : Den := bodyD 1 1 read_paper_f09b_g
end Fn
namespace Fn
open PySem DL
def law_refused_5ec6_y1 : En → R D :=
  (nop (aCons (rdE 0) aNil) (callE Fn.read_paper_f09b))
def law_refused_5ec6_h2 : En → R Fl :=
  (sSet 1 (cst (.bl true)))
def law_refused_5ec6_g : En → R Fl :=
  (sSeq (sSet 1 (cst (.bl false)))
  (sSeq (sTryE law_refused_5ec6_y1 (fun _ ρ => .ok (.next ρ)) [(Str.ofString "NoText", 0)] [law_refused_5ec6_h2])
  (sRet (rdE 1))))
def law_refused_5ec6 : Den := bodyN 1 2 law_refused_5ec6_g
end Fn
namespace Fn
open PySem DL
def law_class_ba70_y1 : En → R D :=
  (nop (aCons (rdE 0) aNil) (callE Fn.read_paper_f09b))
def law_class_ba70_h2 : En → R Fl :=
  (sSet 1 (eAnd (uop (rd 2) (isED [(Str.ofString "NoText", true)])) (eAnd (uop (rd 2) (isED [(Str.ofString "NoText", true)])) (uop (uop (rd 2) (isED [(Str.ofString "NoText", false)])) eNot))))
def law_class_ba70_g : En → R Fl :=
  (sSeq (sSet 1 (cst (.bl false)))
  (sSeq (sTryAs 2 law_class_ba70_y1 (fun _ ρ => .ok (.next ρ)) [(Str.ofString "NoText", true)] law_class_ba70_h2)
  (sRet (rdE 1))))
def law_class_ba70 : Den := bodyN 1 3 law_class_ba70_g
end Fn
namespace Fn
open PySem DL
def law_89dc_b1 : En → R Fl :=
  (sSet 5 (nop (aCons (cst (.str (Str.ofString "split"))) (aCons (nop (aCons (rdE 5) aNil) mkLst) aNil)) mkTup))
def law_89dc_g : En → R Fl :=
  (sSeq (sSet 1 (bop (nop (aCons (cst (.int 8)) (aCons (cst (.int 3)) (aCons (cst (.int 0)) (aCons (cst (.int 8)) (aCons (cst (.int 1)) aNil))))) mkLst) (bop (nop (aCons (rdE 0) (aCons (cst (.int 0)) aNil)) (callE Fn.law_cell_cb3a)) (cst (.int 5)) dMod) dIxA))
  (sSeq (sSet 2 (bop (nop (aCons (nop (aCons (rdE 0) (aCons (cst (.int 16)) aNil)) (callE Fn.law_entries_7bb9)) (aCons (cst (.int 0)) (aCons (rdE 1) aNil))) (callE (Fn.law_tree_0852 12))) (cst (.int 0)) dIxA))
  (sSeq (sSet 3 (nop (aCons (rdE 2) aNil) (callE (Fn.law_written_a355 12))))
  (sSeq (sSet 4 (nop (aCons (rdE 2) (aCons (nop (aCons (rdE 0) (aCons (cst (.int 2)) aNil)) (callE Fn.law_cell_cb3a)) aNil)) (callE Fn.law_spoilt_ed1f)))
  (sSeq (sIf (bOr (tst (nop (aCons (rdE 3) aNil) (callO Fn.law_refused_5ec6))) (bOr (bNot (tst (nop (aCons (rdE 4) aNil) (callO Fn.law_refused_5ec6)))) (bNot (tst (nop (aCons (rdE 4) aNil) (callO Fn.law_class_ba70)))))) (sRetO (cst (.bl false))) sSkip)
  (sSeq (sSet 5 (nop (aCons (cst (.str (Str.ofString "tie"))) (aCons (cst (.int 0)) aNil)) mkTup))
  (sSeq (sFor (irg (aCons (cst (.int 8)) aNil) rng1) (gSet 6) law_89dc_b1)
  (sRetO (eAnd (nop (aCons (nop (aCons (nop (aCons (cst (.int 8)) aNil) (callE Fn.law_deep_c3cf)) aNil) (callE Fn.read_paper_f09b)) (aCons (rdE 5) aNil)) (callO (Fn.law_same_b939 12))) (nop (aCons (nop (aCons (rdE 3) aNil) (callE Fn.read_paper_f09b)) (aCons (rdE 2) aNil)) (callO (Fn.law_same_b939 12))))))))))))
def law_89dc : Den := bodyN 1 7 law_89dc_g
end Fn
namespace Lk73
open PySem PySem.Spec PyProof.Rows L2 DL
def topS (i : Nat) : Stmt := PySem.Challenge.pw_deskround_k73_no_paper.main.body.getD i (.Pass ⟨0, 0, 0, 0⟩)
abbrev s_number_of : Stmt := topS 8
abbrev N_number_of : List Str := ["word", "sign"]
theorem sc_number_of : FnScope N_number_of ["word"] (defScope s_number_of) := ⟨rfl, rfl, rfl, by decide +kernel, rfl, by decide +kernel, by decide +kernel⟩
abbrev s_parts_of : Stmt := topS 11
abbrev N_parts_of : List Str := ["text", "parts", "deep", "start", "at"]
theorem sc_parts_of : FnScope N_parts_of ["text"] (defScope s_parts_of) := ⟨rfl, rfl, rfl, by decide +kernel, rfl, by decide +kernel, by decide +kernel⟩
abbrev s__law_cell : Stmt := topS 15
abbrev N__law_cell : List Str := ["script", "k"]
theorem sc__law_cell : FnScope N__law_cell ["script", "k"] (defScope s__law_cell) := ⟨rfl, rfl, rfl, by decide +kernel, rfl, by decide +kernel, by decide +kernel⟩
abbrev s__law_entries : Stmt := topS 16
abbrev N__law_entries : List Str := ["script", "size", "mixed", "cell", "found", "k"]
theorem sc__law_entries : FnScope N__law_entries ["script", "size"] (defScope s__law_entries) := ⟨rfl, rfl, rfl, by decide +kernel, rfl, by decide +kernel, by decide +kernel⟩
abbrev s__law_whole : Stmt := topS 17
abbrev N__law_whole : List Str := ["found"]
theorem sc__law_whole : FnScope N__law_whole ["found"] (defScope s__law_whole) := ⟨rfl, rfl, rfl, by decide +kernel, rfl, by decide +kernel, by decide +kernel⟩
abbrev s__law_number : Stmt := topS 18
abbrev N__law_number : List Str := ["cell", "top"]
theorem sc__law_number : FnScope N__law_number ["cell"] (defScope s__law_number) := ⟨rfl, rfl, rfl, by decide +kernel, rfl, by decide +kernel, by decide +kernel⟩
abbrev s__law_written : Stmt := topS 20
abbrev N__law_written : List Str := ["paper", "text", "number", "badge", "due", "part"]
theorem sc__law_written : FnScope N__law_written ["paper"] (defScope s__law_written) := ⟨rfl, rfl, rfl, by decide +kernel, rfl, by decide +kernel, by decide +kernel⟩
abbrev s__law_bad : Stmt := topS 22
abbrev N__law_bad : List Str := ["cell", "bad"]
theorem sc__law_bad : FnScope N__law_bad ["cell"] (defScope s__law_bad) := ⟨rfl, rfl, rfl, by decide +kernel, rfl, by decide +kernel, by decide +kernel⟩
abbrev s__law_deep : Stmt := topS 24
abbrev N__law_deep : List Str := ["many", "text", "k"]
theorem sc__law_deep : FnScope N__law_deep ["many"] (defScope s__law_deep) := ⟨rfl, rfl, rfl, by decide +kernel, rfl, by decide +kernel, by decide +kernel⟩
abbrev s_price_of : Stmt := topS 9
abbrev N_price_of : List Str := ["word"]
theorem sc_price_of : FnScope N_price_of ["word"] (defScope s_price_of) := ⟨rfl, rfl, rfl, by decide +kernel, rfl, by decide +kernel, by decide +kernel⟩
abbrev s_due_of : Stmt := topS 10
abbrev N_due_of : List Str := ["word", "badge", "sign", "due"]
theorem sc_due_of : FnScope N_due_of ["word"] (defScope s_due_of) := ⟨rfl, rfl, rfl, by decide +kernel, rfl, by decide +kernel, by decide +kernel⟩
abbrev s__law_tree : Stmt := topS 19
abbrev N__law_tree : List Str := ["cells", "at", "room", "cell", "many", "numbers", "prices", "dues", "parts", "k", "one", "part"]
theorem sc__law_tree : FnScope N__law_tree ["cells", "at", "room"] (defScope s__law_tree) := ⟨rfl, rfl, rfl, by decide +kernel, rfl, by decide +kernel, by decide +kernel⟩
abbrev s__law_same : Stmt := topS 21
abbrev N__law_same : List Str := ["found", "due", "k", "pair"]
theorem sc__law_same : FnScope N__law_same ["found", "due"] (defScope s__law_same) := ⟨rfl, rfl, rfl, by decide +kernel, rfl, by decide +kernel, by decide +kernel⟩
abbrev s__law_put_in : Stmt := topS 23
abbrev N__law_put_in : List Str := ["paper", "bad", "cell", "rest", "at", "text", "k", "part"]
theorem sc__law_put_in : FnScope N__law_put_in ["paper", "bad", "cell"] (defScope s__law_put_in) := ⟨rfl, rfl, rfl, by decide +kernel, rfl, by decide +kernel, by decide +kernel⟩
abbrev s_read_at : Stmt := topS 12
abbrev N_read_at : List Str := ["text", "room", "words", "at", "part", "word"]
theorem sc_read_at : FnScope N_read_at ["text", "room"] (defScope s_read_at) := ⟨rfl, rfl, rfl, by decide +kernel, rfl, by decide +kernel, by decide +kernel⟩
abbrev s__law_spoilt : Stmt := topS 25
abbrev N__law_spoilt : List Str := ["paper", "cell", "text", "rest", "at", "signs", "spots", "k"]
theorem sc__law_spoilt : FnScope N__law_spoilt ["paper", "cell"] (defScope s__law_spoilt) := ⟨rfl, rfl, rfl, by decide +kernel, rfl, by decide +kernel, by decide +kernel⟩
abbrev s_read_paper : Stmt := topS 13
abbrev N_read_paper : List Str := ["text"]
theorem sc_read_paper : FnScope N_read_paper ["text"] (defScope s_read_paper) := ⟨rfl, rfl, rfl, by decide +kernel, rfl, by decide +kernel, by decide +kernel⟩
abbrev s__law_refused : Stmt := topS 26
abbrev N__law_refused : List Str := ["text", "refused"]
theorem sc__law_refused : FnScope N__law_refused ["text"] (defScope s__law_refused) := ⟨rfl, rfl, rfl, by decide +kernel, rfl, by decide +kernel, by decide +kernel⟩
abbrev s__law_class : Stmt := topS 27
abbrev N__law_class : List Str := ["text", "kind", "e"]
theorem sc__law_class : FnScope N__law_class ["text"] (defScope s__law_class) := ⟨rfl, rfl, rfl, by decide +kernel, rfl, by decide +kernel, by decide +kernel⟩
abbrev s_law : Stmt := topS 28
abbrev N_law : List Str := ["script", "room", "paper", "text", "spoilt", "deep", "k"]
theorem sc_law : FnScope N_law ["script"] (defScope s_law) := ⟨rfl, rfl, rfl, by decide +kernel, rfl, by decide +kernel, by decide +kernel⟩
structure Txt (K : PySem.W.Frag) (mg : Str → Option Value) where
  a_number_of : Addr
  d_number_of : FuncData
  F_number_of : Fun K "number_of" "number_of" s_number_of a_number_of d_number_of
  m_number_of : mg "number_of" = some (.ref a_number_of)
  b_number_of : Binds K d_number_of ["word"] []
  a_parts_of : Addr
  d_parts_of : FuncData
  F_parts_of : Fun K "parts_of" "parts_of" s_parts_of a_parts_of d_parts_of
  m_parts_of : mg "parts_of" = some (.ref a_parts_of)
  b_parts_of : Binds K d_parts_of ["text"] []
  a__law_cell : Addr
  d__law_cell : FuncData
  F__law_cell : Fun K "_law_cell" "_law_cell" s__law_cell a__law_cell d__law_cell
  m__law_cell : mg "_law_cell" = some (.ref a__law_cell)
  b__law_cell : Binds K d__law_cell ["script", "k"] []
  a__law_entries : Addr
  d__law_entries : FuncData
  F__law_entries : Fun K "_law_entries" "_law_entries" s__law_entries a__law_entries d__law_entries
  m__law_entries : mg "_law_entries" = some (.ref a__law_entries)
  b__law_entries : Binds K d__law_entries ["script", "size"] []
  a__law_whole : Addr
  d__law_whole : FuncData
  F__law_whole : Fun K "_law_whole" "_law_whole" s__law_whole a__law_whole d__law_whole
  m__law_whole : mg "_law_whole" = some (.ref a__law_whole)
  b__law_whole : Binds K d__law_whole ["found"] []
  a__law_number : Addr
  d__law_number : FuncData
  F__law_number : Fun K "_law_number" "_law_number" s__law_number a__law_number d__law_number
  m__law_number : mg "_law_number" = some (.ref a__law_number)
  b__law_number : Binds K d__law_number ["cell"] []
  a__law_written : Addr
  d__law_written : FuncData
  F__law_written : Fun K "_law_written" "_law_written" s__law_written a__law_written d__law_written
  m__law_written : mg "_law_written" = some (.ref a__law_written)
  b__law_written : Binds K d__law_written ["paper"] []
  a__law_bad : Addr
  d__law_bad : FuncData
  F__law_bad : Fun K "_law_bad" "_law_bad" s__law_bad a__law_bad d__law_bad
  m__law_bad : mg "_law_bad" = some (.ref a__law_bad)
  b__law_bad : Binds K d__law_bad ["cell"] []
  a__law_deep : Addr
  d__law_deep : FuncData
  F__law_deep : Fun K "_law_deep" "_law_deep" s__law_deep a__law_deep d__law_deep
  m__law_deep : mg "_law_deep" = some (.ref a__law_deep)
  b__law_deep : Binds K d__law_deep ["many"] []
  a_price_of : Addr
  d_price_of : FuncData
  F_price_of : Fun K "price_of" "price_of" s_price_of a_price_of d_price_of
  m_price_of : mg "price_of" = some (.ref a_price_of)
  b_price_of : Binds K d_price_of ["word"] []
  a_due_of : Addr
  d_due_of : FuncData
  F_due_of : Fun K "due_of" "due_of" s_due_of a_due_of d_due_of
  m_due_of : mg "due_of" = some (.ref a_due_of)
  b_due_of : Binds K d_due_of ["word"] []
  a__law_tree : Addr
  d__law_tree : FuncData
  F__law_tree : Fun K "_law_tree" "_law_tree" s__law_tree a__law_tree d__law_tree
  m__law_tree : mg "_law_tree" = some (.ref a__law_tree)
  b__law_tree : Binds K d__law_tree ["cells", "at", "room"] []
  a__law_same : Addr
  d__law_same : FuncData
  F__law_same : Fun K "_law_same" "_law_same" s__law_same a__law_same d__law_same
  m__law_same : mg "_law_same" = some (.ref a__law_same)
  b__law_same : Binds K d__law_same ["found", "due"] []
  a__law_put_in : Addr
  d__law_put_in : FuncData
  F__law_put_in : Fun K "_law_put_in" "_law_put_in" s__law_put_in a__law_put_in d__law_put_in
  m__law_put_in : mg "_law_put_in" = some (.ref a__law_put_in)
  b__law_put_in : Binds K d__law_put_in ["paper", "bad", "cell"] []
  a_read_at : Addr
  d_read_at : FuncData
  F_read_at : Fun K "read_at" "read_at" s_read_at a_read_at d_read_at
  m_read_at : mg "read_at" = some (.ref a_read_at)
  b_read_at : Binds K d_read_at ["text", "room"] []
  a__law_spoilt : Addr
  d__law_spoilt : FuncData
  F__law_spoilt : Fun K "_law_spoilt" "_law_spoilt" s__law_spoilt a__law_spoilt d__law_spoilt
  m__law_spoilt : mg "_law_spoilt" = some (.ref a__law_spoilt)
  b__law_spoilt : Binds K d__law_spoilt ["paper", "cell"] []
  a_read_paper : Addr
  d_read_paper : FuncData
  F_read_paper : Fun K "read_paper" "read_paper" s_read_paper a_read_paper d_read_paper
  m_read_paper : mg "read_paper" = some (.ref a_read_paper)
  b_read_paper : Binds K d_read_paper ["text"] []
  a__law_refused : Addr
  d__law_refused : FuncData
  F__law_refused : Fun K "_law_refused" "_law_refused" s__law_refused a__law_refused d__law_refused
  m__law_refused : mg "_law_refused" = some (.ref a__law_refused)
  b__law_refused : Binds K d__law_refused ["text"] []
  a__law_class : Addr
  d__law_class : FuncData
  F__law_class : Fun K "_law_class" "_law_class" s__law_class a__law_class d__law_class
  m__law_class : mg "_law_class" = some (.ref a__law_class)
  b__law_class : Binds K d__law_class ["text"] []
  a_law : Addr
  d_law : FuncData
  F_law : Fun K "law" "law" s_law a_law d_law
  m_law : mg "law" = some (.ref a_law)
  b_law : Binds K d_law ["script"] []
  z_ValueError : mg "ValueError" = none
  z_bool : mg "bool" = none
  z_int : mg "int" = none
  z_isinstance : mg "isinstance" = none
  z_len : mg "len" = none
  z_list : mg "list" = none
  z_range : mg "range" = none
  z_str : mg "str" = none
  z_tuple : mg "tuple" = none
  E_DeskError : ExcT K mg "DeskError"
  E_NoText : ExcT K mg "NoText"
  E_Ring : ExcT K mg "Ring"
  m_NoText_DeskError : PySem.W.exmOne K (.ref (clsOf K "NoText")) (.ref (clsOf K "DeskError")) = some true
  m_NoText_NoText : PySem.W.exmOne K (.ref (clsOf K "NoText")) (.ref (clsOf K "NoText")) = some true
  X_NoText : ExcC K (clsOf K "NoText")
  i_NoText_NoText : PySem.W.kitOne K (.ref (clsOf K "NoText")) (.ref (clsOf K "NoText")) = some true
  i_NoText_Ring : PySem.W.kitOne K (.ref (clsOf K "NoText")) (.ref (clsOf K "Ring")) = some false
  i_NoText_ValueError : PySem.W.kitOne K (.ref (clsOf K "NoText")) (.type "ValueError") = some true
  n_NoText : PySem.W.kitOne K (.type "NoneType") (.ref (clsOf K "NoText")) = some false
  n_Ring : PySem.W.kitOne K (.type "NoneType") (.ref (clsOf K "Ring")) = some false
  n_ValueError : PySem.W.kitOne K (.type "NoneType") (.type "ValueError") = some false
  t_DEEPEST : Tok
  c_DEEPEST : mg "DEEPEST" = some (.int 8 t_DEEPEST)
  t_FIGURES : Tok
  c_FIGURES : mg "FIGURES" = some (.str (Str.ofString "0123456789") t_FIGURES)
  t_LONGEST : Tok
  c_LONGEST : mg "LONGEST" = some (.int 60 t_LONGEST)
section
variable {P : Program} {w : World} {K : PySem.W.Frag} {mg : Str → Option Value} {base : Heap}
theorem ok_number_of (T : Txt K mg) : FnOk P w K mg base (L2.CX P w) 1 T.a_number_of T.d_number_of ["word"] (spD K (clsOf K) 1 Fn.number_of_7739) :=
  ok_defX T.F_number_of sc_number_of fun cdv A outer s H E F0 as hr tk =>
  (ss_cons (s_if (t_w (w_or (t_not (dt_chain (DL.OpR.or op_le op_le_str) (DL.OpR.or op_le op_le_str) rLe_ok rLe_ok (r_of_o c_int) (r_of_o (DL.d_len rfl T.z_len (w_cons (v_R (pv 0)) w_nil))) (r_of_o (c_globI T.c_LONGEST)))) (w_or1 (t_w (w_and (dt_eq rfl hr (r_of_e (d_ixA rfl (eu1 hr) (v_R (pv 0)) (r_of_o c_int))) (r_of_o c_str)) (w_and1 (dt_gt (r_of_o (DL.d_len rfl T.z_len (w_cons (v_R (pv 0)) w_nil))) (r_of_o c_int)))))))) (ss_one (s_raise rfl tk T.E_NoText (fun _ _ h => h))) ss_nil)
  (ss_cons (s_for rfl (i_seqE rfl (v_E (pv 0))) (g_name (i := 1) (own := [1]) sc_number_of.nd) (ss_one (s_if (dt_notin rfl hr (v_R (pv 1)) (r_of_o (c_globS T.c_FIGURES))) (ss_one (s_raise rfl tk T.E_NoText (fun _ _ h => h))) ss_nil)) (passes_of rfl))
  (ss_one (s_retO (DL.d_intT T.z_int (w_cons (v_R (pv 0)) w_nil))))))
theorem ok_parts_of (T : Txt K mg) : FnOk P w K mg base (L2.CX P w) 1 T.a_parts_of T.d_parts_of ["text"] (spD K (clsOf K) 1 Fn.parts_of_97dc) :=
  ok_defX T.F_parts_of sc_parts_of fun cdv A outer s H E F0 as hr tk =>
  (ss_cons (s_setO (i := 1) (d_lst a_nil) sc_parts_of.nd)
  (ss_cons (s_set (i := 2) (e_of_o c_int) sc_parts_of.nd)
  (ss_cons (s_set (i := 3) (e_of_o c_int) sc_parts_of.nd)
  (ss_cons (s_for rfl (i_range1 T.z_range (w_cons (r_of_o (DL.d_len rfl T.z_len (w_cons (v_R (pv 0)) w_nil))) w_nil)) (g_name (i := 4) (own := [4]) sc_parts_of.nd) (ss_one (s_if (dt_eq rfl hr (r_of_e (d_ixA rfl (eu1 hr) (v_R (pv 0)) (v_R (pv 4)))) (r_of_o c_str)) (ss_cons (s_if (dt_eq rfl hr (v_R (pv 2)) (r_of_o c_int)) (ss_one (s_set (i := 3) (e_of_o (d_add rfl (v_R (pv 4)) (r_of_o c_int))) sc_parts_of.nd)) ss_nil)
  (ss_one (s_set (i := 2) (e_of_o (d_add rfl (v_R (pv 2)) (r_of_o c_int))) sc_parts_of.nd))) (ss_one (s_if (dt_eq rfl hr (v_R (pv 2)) (r_of_o c_int)) (ss_one (s_raise rfl tk T.E_NoText (fun _ _ h => h))) (ss_one (s_if (dt_eq rfl hr (r_of_e (d_ixA rfl (eu1 hr) (v_R (pv 0)) (v_R (pv 4)))) (r_of_o c_str)) (ss_cons (s_set (i := 2) (e_of_o (d_sub (v_R (pv 2)) (r_of_o c_int))) sc_parts_of.nd)
  (ss_one (s_if (dt_eq rfl hr (v_R (pv 2)) (r_of_o c_int)) (ss_one (s_append (pv 1) (e_of_o (d_slice rfl (v_R (pv 0)) (p_some (o_of_e (v_E (pv 3)))) (p_some (o_of_e (v_E (pv 4)))))))) ss_nil))) ss_nil)))))) (passes_of rfl))
  (ss_cons (s_if (t_w (w_or (dt_gt (v_R (pv 2)) (r_of_o c_int)) (w_or1 (dt_eq rfl hr (v_R (pv 1)) (r_of_o (d_lst a_nil)))))) (ss_one (s_raise rfl tk T.E_NoText (fun _ _ h => h))) ss_nil)
  (ss_one (s_retN (pv 1))))))))
theorem ok__law_cell (T : Txt K mg) : FnOk P w K mg base CX0 1 T.a__law_cell T.d__law_cell ["script", "k"] (spD K (fun _ => 0) 2 Fn.law_cell_cb3a) :=
  ok_def T.F__law_cell sc__law_cell fun cdv A outer s H E F0 as hr =>
  (ss_cons (s_if (dt_lt (v_R (pv 1)) (r_of_o (DL.d_len rfl T.z_len (w_cons (v_R (pv 0)) w_nil)))) (ss_one (s_ret (d_ixA rfl (eu1 hr) (v_R (pv 0)) (v_R (pv 1))))) ss_nil)
  (ss_one (s_retO c_int)))
theorem ok__law_entries (T : Txt K mg) : FnOk P w K mg base CX0 1 T.a__law_entries T.d__law_entries ["script", "size"] (spD K (fun _ => 0) 2 Fn.law_entries_7bb9) :=
  ok_def T.F__law_entries sc__law_entries fun cdv A outer s H E F0 as hr =>
  (ss_cons (s_set (i := 2) (e_of_o c_int) sc__law_entries.nd)
  (ss_cons (s_for rfl (i_seqE rfl (e_of_o (d_slice rfl (v_R (pv 0)) p_none (p_some c_int)))) (g_name (i := 3) (own := [3]) sc__law_entries.nd) (ss_one (s_set (i := 2) (e_of_o (d_mod (r_of_o (d_add rfl (r_of_o (d_mul (v_R (pv 2)) (r_of_o c_int))) (v_R (pv 3)))) (r_of_o c_int))) sc__law_entries.nd)) PassesOwn.never)
  (ss_cons (s_setO (i := 4) (d_lst a_nil) sc__law_entries.nd)
  (ss_cons (s_for rfl (i_range1 T.z_range (w_cons (v_R (pv 1)) w_nil)) (g_name (i := 5) (own := [5]) sc__law_entries.nd) (ss_cons (s_set (i := 2) (e_of_o (d_mod (r_of_o (d_add rfl (r_of_o (d_add rfl (r_of_o (d_add rfl (r_of_o (d_mul (v_R (pv 2)) (v_R (pv 2)))) (r_of_o (d_mul (r_of_o c_int) (v_R (pv 2)))))) (v_R (pv 5)))) (r_of_o c_int))) (r_of_o c_int))) sc__law_entries.nd)
  (ss_one (s_append (pv 4) (v_E (pv 2))))) PassesOwn.never)
  (ss_cons (s_for rfl (i_range2 T.z_range (w_cons (r_of_o c_int) (w_cons (r_of_o (DL.d_len rfl T.z_len (w_cons (v_R (pv 0)) w_nil))) w_nil))) (g_name (i := 5) (own := [5]) sc__law_entries.nd) (ss_one (s_put (eu1 hr) (pv 4) (d_ixA rfl (eu1 hr) (v_R (pv 0)) (v_R (pv 5))) (r_of_o (d_mod (r_of_o (d_sub (v_R (pv 5)) (r_of_o c_int))) (v_R (pv 1)))))) PassesOwn.never)
  (ss_one (s_retN (pv 4))))))))
theorem ok__law_whole (T : Txt K mg) : FnOk P w K mg base CX0 1 T.a__law_whole T.d__law_whole ["found"] (spD K (fun _ => 0) 1 Fn.law_whole_9e39) :=
  ok_def T.F__law_whole sc__law_whole fun cdv A outer s H E F0 as hr =>
  (ss_one (s_retO (d_and (d_isi rfl (v_R (pv 0)) (ty_of T.z_int (by decide +kernel)) (by decide +kernel) T.z_isinstance) (d_one (d_not (d_isi rfl (v_R (pv 0)) (ty_of T.z_bool (by decide +kernel)) (by decide +kernel) T.z_isinstance))))))
theorem ok__law_number (T : Txt K mg) : FnOk P w K mg base CX0 1 T.a__law_number T.d__law_number ["cell"] (spD K (fun _ => 0) 1 Fn.law_number_4c34) :=
  ok_def T.F__law_number sc__law_number fun cdv A outer s H E F0 as hr =>
  (ss_cons (s_set (i := 1) (d_ixA rfl (eu1 hr) (r_of_o (d_lst (a_cons (e_of_o c_int) (a_cons (e_of_o (d_pow (r_of_o c_int) (r_of_o c_int))) (a_cons (e_of_o (d_pow (r_of_o c_int) (r_of_o c_int))) (a_cons (e_of_o c_int) a_nil)))))) (r_of_o (d_mod (r_of_o (d_div (v_R (pv 0)) (r_of_o c_int))) (r_of_o c_int)))) sc__law_number.nd)
  (ss_cons (s_if (dt_eq rfl hr (r_of_o (d_mod (r_of_o (d_div (v_R (pv 0)) (r_of_o c_int))) (r_of_o c_int))) (r_of_o c_int)) (ss_one (s_retO (d_sub (v_R (pv 1)) (r_of_o c_int)))) ss_nil)
  (ss_one (s_retO (d_mod (r_of_o (d_div (v_R (pv 0)) (r_of_o c_int))) (v_R (pv 1)))))))
theorem ok__law_written (T : Txt K mg) : ∀ n : Nat, FnOk P w K mg base CX0 (1 + n) T.a__law_written T.d__law_written ["paper"] (spD K (fun _ => 0) 1 (Fn.law_written_a355 n))
  | 0 => ok_bad rfl
  | n + 1 =>
  have IH := ok__law_written T n
  ok_def T.F__law_written sc__law_written fun cdv A outer s H E F0 as hr =>
  (ss_cons (s_if (dt_eq rfl hr (r_of_e (d_ixA rfl (eu1 hr) (v_R (pv 0)) (r_of_o c_int))) (r_of_o c_str)) (ss_one (s_retO (d_add rfl (r_of_o c_str) (r_of_o (d_join rfl (r_of_o c_str) (r_of_o (d_lc (own := [("part", 5)]) rfl sc__law_written.nd (i_seqR rfl (r_of_e (d_ixA rfl (eu1 hr) (v_R (pv 0)) (r_of_o c_int)))) (blkOk_by (own := [("part", 5)]) (N := N__law_written) (sc := defScope s__law_written) (by decide +kernel)) (fun _ _ _ _ _ => (g_name (i := 5) (own := [5]) sc__law_written.nd)) (fun _ _ _ _ _ => ts_nil) (fun _ _ _ _ _ => (e_of_o (d_add rfl (r_of_o (d_add rfl (r_of_o c_str) (r_of_e (d_callE IH (Fn.law_written_a355_len n) hr T.m__law_written T.F__law_written.kp T.b__law_written passN (fun _ _ _ _ => trivial) (a_cons (v_E (pv 5)) a_nil))))) (r_of_o c_str))))))))))) ss_nil)
  (ss_cons (s_if (dt_eq rfl hr (r_of_e (d_ixA rfl (eu1 hr) (v_R (pv 0)) (r_of_o c_int))) (r_of_o c_str)) (ss_one (s_retO (d_add rfl (r_of_o c_str) (r_of_o (DL.d_str T.z_str (w_cons (r_of_e (d_ixA rfl (eu1 hr) (v_R (pv 0)) (r_of_o c_int))) w_nil)))))) ss_nil)
  (ss_cons (s_set (i := 1) (d_ixA rfl (eu1 hr) (v_R (pv 0)) (r_of_o c_int)) sc__law_written.nd)
  (ss_cons (s_for rfl (i_seqE rfl (d_ixA rfl (eu1 hr) (v_R (pv 0)) (r_of_o c_int))) (g_name (i := 2) (own := [2]) sc__law_written.nd) (ss_one (s_set (i := 1) (e_of_o (d_add rfl (r_of_o (d_add rfl (v_R (pv 1)) (r_of_o c_str))) (r_of_o (DL.d_str T.z_str (w_cons (v_R (pv 2)) w_nil))))) sc__law_written.nd)) PassesOwn.never)
  (ss_cons (s_if (dt_eq rfl hr (r_of_e (d_ixA rfl (eu1 hr) (v_R (pv 0)) (r_of_o c_int))) (r_of_o c_str)) (ss_cons (s_set (i := 1) (e_of_o (d_add rfl (v_R (pv 1)) (r_of_o c_str))) sc__law_written.nd)
  (ss_one (s_for rfl (i_seqE rfl (d_ixA rfl (eu1 hr) (v_R (pv 0)) (r_of_o c_int))) (g_seq rfl (gs_cons (g_name (i := 3) (own := [3, 4]) sc__law_written.nd) (gs_cons (g_name (i := 4) (own := [3, 4]) sc__law_written.nd) gs_nil))) (ss_one (s_set (i := 1) (e_of_o (d_add rfl (r_of_o (d_add rfl (r_of_o (d_add rfl (r_of_o (d_add rfl (v_R (pv 1)) (r_of_o c_str))) (r_of_o (DL.d_str T.z_str (w_cons (v_R (pv 3)) w_nil))))) (r_of_o c_str))) (r_of_o (DL.d_str T.z_str (w_cons (v_R (pv 4)) w_nil))))) sc__law_written.nd)) PassesOwn.never))) ss_nil)
  (ss_one (s_ret (v_E (pv 1)))))))))
theorem ok__law_bad (T : Txt K mg) : FnOk P w K mg base CX0 1 T.a__law_bad T.d__law_bad ["cell"] (spD K (fun _ => 0) 1 Fn.law_bad_1e63) :=
  ok_def T.F__law_bad sc__law_bad fun cdv A outer s H E F0 as hr =>
  (ss_cons (s_set (i := 1) (e_of_o (d_lst (a_cons (e_of_o c_str) (a_cons (e_of_o c_str) (a_cons (e_of_o c_str) (a_cons (e_of_o c_str) (a_cons (e_of_o c_str) (a_cons (e_of_o c_str) (a_cons (e_of_o c_str) (a_cons (e_of_o c_str) (a_cons (e_of_o c_str) (a_cons (e_of_o c_str) (a_cons (e_of_o c_str) a_nil))))))))))))) sc__law_bad.nd)
  (ss_cons (s_set (i := 1) (e_of_o (d_add rfl (v_R (pv 1)) (r_of_o (d_lst (a_cons (e_of_o c_str) (a_cons (e_of_o (d_add rfl (r_of_o c_str) (r_of_o (d_mulS (r_of_o c_str) (r_of_o c_int))))) (a_cons (e_of_o c_str) (a_cons (e_of_o c_str) (a_cons (e_of_o c_str) (a_cons (e_of_o c_str) (a_cons (e_of_o c_str) (a_cons (e_of_o c_str) a_nil)))))))))))) sc__law_bad.nd)
  (ss_cons (s_set (i := 1) (e_of_o (d_add rfl (v_R (pv 1)) (r_of_o (d_lst (a_cons (e_of_o c_str) (a_cons (e_of_o (d_add rfl (r_of_o (d_add rfl (r_of_o c_str) (r_of_o (d_mulS (r_of_o c_str) (r_of_o c_int))))) (r_of_o c_str))) (a_cons (e_of_o (d_add rfl (r_of_o (d_add rfl (r_of_o c_str) (r_of_o (d_mulS (r_of_o c_str) (r_of_o c_int))))) (r_of_o c_str))) (a_cons (e_of_o c_str) a_nil)))))))) sc__law_bad.nd)
  (ss_cons (s_set (i := 1) (e_of_o (d_add rfl (v_R (pv 1)) (r_of_o (d_lst (a_cons (e_of_o (d_add rfl (r_of_o c_str) (r_of_o (d_mulS (r_of_o c_str) (r_of_o c_int))))) (a_cons (e_of_o c_str) (a_cons (e_of_o c_str) (a_cons (e_of_o c_str) (a_cons (e_of_o c_str) (a_cons (e_of_o c_str) (a_cons (e_of_o c_str) (a_cons (e_of_o c_str) a_nil)))))))))))) sc__law_bad.nd)
  (ss_cons (s_set (i := 1) (e_of_o (d_add rfl (v_R (pv 1)) (r_of_o (d_lst (a_cons (e_of_o c_str) (a_cons (e_of_o c_str) (a_cons (e_of_o c_str) (a_cons (e_of_o c_str) (a_cons (e_of_o c_str) (a_cons (e_of_o c_str) (a_cons (e_of_o c_str) a_nil))))))))))) sc__law_bad.nd)
  (ss_cons (s_set (i := 1) (e_of_o (d_add rfl (v_R (pv 1)) (r_of_o (d_lst (a_cons (e_of_o c_str) (a_cons (e_of_o c_str) (a_cons (e_of_o c_str) (a_cons (e_of_o c_str) (a_cons (e_of_o c_str) (a_cons (e_of_o c_str) a_nil)))))))))) sc__law_bad.nd)
  (ss_cons (s_set (i := 1) (e_of_o (d_add rfl (v_R (pv 1)) (r_of_o (d_lst (a_cons (e_of_o c_str) (a_cons (e_of_o c_str) (a_cons (e_of_o c_str) (a_cons (e_of_o c_str) (a_cons (e_of_o c_str) (a_cons (e_of_o (d_add rfl (r_of_o (d_add rfl (r_of_o c_str) (r_of_o (d_mulS (r_of_o c_str) (r_of_o c_int))))) (r_of_o c_str))) a_nil)))))))))) sc__law_bad.nd)
  (ss_cons (s_set (i := 1) (e_of_o (d_add rfl (v_R (pv 1)) (r_of_o (d_lst (a_cons (e_of_o (d_add rfl (r_of_o c_str) (r_of_o (d_mulS (r_of_o c_str) (r_of_o c_int))))) (a_cons (e_of_o (d_add rfl (r_of_o (d_add rfl (r_of_o c_str) (r_of_o (d_mulS (r_of_o c_str) (r_of_o c_int))))) (r_of_o c_str))) (a_cons (e_of_o c_str) a_nil))))))) sc__law_bad.nd)
  (ss_cons (s_set (i := 1) (e_of_o (d_add rfl (v_R (pv 1)) (r_of_o (d_lst (a_cons (e_of_o c_str) (a_cons (e_of_o c_str) (a_cons (e_of_o c_str) (a_cons (e_of_o c_str) (a_cons (e_of_o c_str) (a_cons (e_of_o c_str) a_nil)))))))))) sc__law_bad.nd)
  (ss_cons (s_set (i := 1) (e_of_o (d_add rfl (v_R (pv 1)) (r_of_o (d_lst (a_cons (e_of_o c_str) (a_cons (e_of_o c_str) (a_cons (e_of_o c_str) (a_cons (e_of_o c_str) (a_cons (e_of_o c_str) (a_cons (e_of_o c_str) a_nil)))))))))) sc__law_bad.nd)
  (ss_cons (s_set (i := 1) (e_of_o (d_add rfl (v_R (pv 1)) (r_of_o (d_lst (a_cons (e_of_o c_str) (a_cons (e_of_o c_str) (a_cons (e_of_o c_str) (a_cons (e_of_o c_str) (a_cons (e_of_o c_str) (a_cons (e_of_o c_str) (a_cons (e_of_o c_str) a_nil))))))))))) sc__law_bad.nd)
  (ss_cons (s_set (i := 1) (e_of_o (d_add rfl (v_R (pv 1)) (r_of_o (d_lst (a_cons (e_of_o c_str) (a_cons (e_of_o c_str) (a_cons (e_of_o c_str) (a_cons (e_of_o c_str) a_nil)))))))) sc__law_bad.nd)
  (ss_one (s_ret (d_ixA rfl (eu1 hr) (v_R (pv 1)) (r_of_o (d_mod (v_R (pv 0)) (r_of_o (DL.d_len rfl T.z_len (w_cons (v_R (pv 1)) w_nil))))))))))))))))))))
theorem ok__law_deep (T : Txt K mg) : FnOk P w K mg base CX0 1 T.a__law_deep T.d__law_deep ["many"] (spD K (fun _ => 0) 1 Fn.law_deep_c3cf) :=
  ok_def T.F__law_deep sc__law_deep fun cdv A outer s H E F0 as hr =>
  (ss_cons (s_set (i := 1) (e_of_o c_str) sc__law_deep.nd)
  (ss_cons (s_for rfl (i_range1 T.z_range (w_cons (v_R (pv 0)) w_nil)) (g_name (i := 2) (own := [2]) sc__law_deep.nd) (ss_one (s_set (i := 1) (e_of_o (d_add rfl (r_of_o (d_add rfl (r_of_o c_str) (v_R (pv 1)))) (r_of_o c_str))) sc__law_deep.nd)) PassesOwn.never)
  (ss_one (s_ret (v_E (pv 1))))))
theorem ok_price_of (T : Txt K mg) : FnOk P w K mg base (L2.CX P w) 2 T.a_price_of T.d_price_of ["word"] (spD K (clsOf K) 1 Fn.price_of_acc9) :=
  ok_defX T.F_price_of sc_price_of fun cdv A outer s H E F0 as hr tk =>
  (ss_cons (s_if (dt_ne rfl hr (r_of_o (d_slice rfl (v_R (pv 0)) p_none (p_some c_int))) (r_of_o c_str)) (ss_one (s_retO (d_callOX (ok_number_of T) bodyD_len (hr.mono (by decide)) T.m_number_of T.F_number_of.kp T.b_number_of tk (fun _ _ _ h => h) (a_cons (v_E (pv 0)) a_nil)))) ss_nil)
  (ss_cons (s_if (dt_eq rfl hr (v_R (pv 0)) (r_of_o c_str)) (ss_one (s_raise rfl tk T.E_NoText (fun _ _ h => h))) ss_nil)
  (ss_one (s_retO (d_neg (r_of_e (d_callEX (ok_number_of T) bodyD_len (hr.mono (by decide)) T.m_number_of T.F_number_of.kp T.b_number_of tk (fun _ _ _ h => h) (a_cons (e_of_o (d_slice rfl (v_R (pv 0)) (p_some c_int) p_none)) a_nil))))))))
theorem ok_due_of (T : Txt K mg) : FnOk P w K mg base (L2.CX P w) 2 T.a_due_of T.d_due_of ["word"] (spD K (clsOf K) 1 Fn.due_of_8468) :=
  ok_defX T.F_due_of sc_due_of fun cdv A outer s H E F0 as hr tk =>
  (ss_cons (s_unp (e_of_o (d_partition (v_R (pv 0)) (r_of_o c_str))) (g_seq rfl (gs_cons (g_name (i := 1) (own := [1, 2, 3]) sc_due_of.nd) (gs_cons (g_name (i := 2) (own := [1, 2, 3]) sc_due_of.nd) (gs_cons (g_name (i := 3) (own := [1, 2, 3]) sc_due_of.nd) gs_nil)))))
  (ss_one (s_retO (d_tup (a_cons (d_callEX (ok_number_of T) bodyD_len (hr.mono (by decide)) T.m_number_of T.F_number_of.kp T.b_number_of tk (fun _ _ _ h => h) (a_cons (v_E (pv 1)) a_nil)) (a_cons (d_callEX (ok_number_of T) bodyD_len (hr.mono (by decide)) T.m_number_of T.F_number_of.kp T.b_number_of tk (fun _ _ _ h => h) (a_cons (v_E (pv 3)) a_nil)) a_nil))))))
theorem ok__law_tree (T : Txt K mg) : ∀ n : Nat, FnOk P w K mg base CX0 (2 + n) T.a__law_tree T.d__law_tree ["cells", "at", "room"] (spD K (fun _ => 0) 3 (Fn.law_tree_0852 n))
  | 0 => ok_bad rfl
  | n + 1 =>
  have IH := ok__law_tree T n
  ok_def T.F__law_tree sc__law_tree fun cdv A outer s H E F0 as hr =>
  (ss_cons (s_set (i := 3) (d_ixA rfl (eu1 hr) (v_R (pv 0)) (r_of_o (d_mod (v_R (pv 1)) (r_of_o (DL.d_len rfl T.z_len (w_cons (v_R (pv 0)) w_nil)))))) sc__law_tree.nd)
  (ss_cons (s_if (t_w (w_and (dt_lt (r_of_o (d_mod (v_R (pv 3)) (r_of_o c_int))) (r_of_o c_int)) (w_and (dt_gt (v_R (pv 2)) (r_of_o c_int)) (w_and1 (dt_lt (v_R (pv 1)) (r_of_o (DL.d_len rfl T.z_len (w_cons (v_R (pv 0)) w_nil)))))))) (ss_cons (s_set (i := 4) (e_of_o (d_add rfl (r_of_o c_int) (r_of_o (d_mod (r_of_o (d_div (v_R (pv 3)) (r_of_o c_int))) (r_of_o c_int))))) sc__law_tree.nd)
  (ss_cons (s_if (t_w (w_and (dt_eq rfl hr (v_R (pv 1)) (r_of_o c_int)) (w_and1 (dt_eq rfl hr (r_of_o (d_mod (r_of_o (d_div (v_R (pv 3)) (r_of_o c_int))) (r_of_o c_int))) (r_of_o c_int))))) (ss_one (s_set (i := 4) (e_of_o c_int) sc__law_tree.nd)) ss_nil)
  (ss_cons (s_setO (i := 8) (d_lst a_nil) sc__law_tree.nd)
  (ss_cons (s_for rfl (i_range1 T.z_range (w_cons (v_R (pv 4)) w_nil)) (g_name (i := 9) (own := [9]) sc__law_tree.nd) (ss_cons (s_unp (d_callE IH (Fn.law_tree_0852_len n) hr T.m__law_tree T.F__law_tree.kp T.b__law_tree passN (fun _ _ _ _ => trivial) (a_cons (v_E (pv 0)) (a_cons (e_of_o (d_add rfl (v_R (pv 1)) (r_of_o c_int))) (a_cons (e_of_o (d_sub (v_R (pv 2)) (r_of_o c_int))) a_nil)))) (g_seq rfl (gs_cons (g_name (i := 11) (own := [11, 1]) sc__law_tree.nd) (gs_cons (g_name (i := 1) (own := [11, 1]) sc__law_tree.nd) gs_nil))))
  (ss_one (s_append (pv 8) (v_E (pv 11))))) PassesOwn.never)
  (ss_one (s_settle [8] (s_retO (d_tup (a_cons (e_of_o (d_tup (a_cons (e_of_o c_str) (a_cons (v_E (pv 8)) a_nil)))) (a_cons (v_E (pv 1)) a_nil)))))))))) ss_nil)
  (ss_cons (s_if (dt_lt (r_of_o (d_mod (v_R (pv 3)) (r_of_o c_int))) (r_of_o c_int)) (ss_one (s_retO (d_tup (a_cons (e_of_o (d_tup (a_cons (e_of_o c_str) (a_cons (d_callE (ok__law_number T) bodyN_len (hr.mono (Nat.le_trans (by decide) (Nat.le_add_right 2 _))) T.m__law_number T.F__law_number.kp T.b__law_number passN (fun _ _ _ _ => trivial) (a_cons (e_of_o (d_div (v_R (pv 3)) (r_of_o c_int))) a_nil)) a_nil)))) (a_cons (v_E (pv 1)) a_nil))))) ss_nil)
  (ss_cons (s_set (i := 4) (e_of_o (d_mod (r_of_o (d_div (v_R (pv 3)) (r_of_o c_int))) (r_of_o c_int))) sc__law_tree.nd)
  (ss_cons (s_toC (s_setLc (i := 5) (own := [("k", 9)]) rfl sc__law_tree.nd (i_range1 T.z_range (w_cons (v_R (pv 4)) w_nil)) (blkOk_by (own := [("k", 9)]) (N := N__law_tree) (sc := defScope s__law_tree) (by decide +kernel)) (fun _ _ _ _ _ => (g_name (i := 9) (own := [9]) sc__law_tree.nd)) (fun _ _ _ _ _ => ts_nil) (fun _ _ _ _ _ => (d_ixA rfl (eu1 hr) (v_R (pv 0)) (r_of_o (d_mod (r_of_o (d_add rfl (r_of_o (d_add rfl (v_R (pv 1)) (r_of_o c_int))) (v_R (pv 9)))) (r_of_o (DL.d_len rfl T.z_len (w_cons (v_R (pv 0)) w_nil))))))) (sw_true rfl rfl rfl (by decide +kernel))))
  (ss_cons (s_if (dt_eq rfl hr (r_of_o (d_mod (v_R (pv 3)) (r_of_o c_int))) (r_of_o c_int)) (ss_one (s_retO (d_tup (a_cons (e_of_o (d_tup (a_cons (e_of_o c_str) (a_cons (e_of_o (d_lc (own := [("one", 10)]) rfl sc__law_tree.nd (i_seqR rfl (v_R (pv 5))) (blkOk_by (own := [("one", 10)]) (N := N__law_tree) (sc := defScope s__law_tree) (by decide +kernel)) (fun _ _ _ _ _ => (g_name (i := 10) (own := [10]) sc__law_tree.nd)) (fun _ _ _ _ _ => ts_nil) (fun _ _ _ _ _ => (d_callE (ok__law_number T) bodyN_len (hr.mono (Nat.le_trans (by decide) (Nat.le_add_right 2 _))) T.m__law_number T.F__law_number.kp T.b__law_number passN (fun _ _ _ _ => trivial) (a_cons (v_E (pv 10)) a_nil))))) a_nil)))) (a_cons (e_of_o (d_add rfl (v_R (pv 1)) (v_R (pv 4)))) a_nil))))) ss_nil)
  (ss_cons (s_toC (s_setLc (i := 6) (own := [("one", 10)]) rfl sc__law_tree.nd (i_seqR rfl (r_of_o (d_slice rfl (v_R (pv 5)) p_none (p_some (d_mod (r_of_o (d_div (v_R (pv 3)) (r_of_o c_int))) (r_of_o c_int)))))) (blkOk_by (own := [("one", 10)]) (N := N__law_tree) (sc := defScope s__law_tree) (by decide +kernel)) (fun _ _ _ _ _ => (g_name (i := 10) (own := [10]) sc__law_tree.nd)) (fun _ _ _ _ _ => ts_nil) (fun _ _ _ _ _ => (e_of_o (d_mul (r_of_e (d_callE (ok__law_number T) bodyN_len (hr.mono (Nat.le_trans (by decide) (Nat.le_add_right 2 _))) T.m__law_number T.F__law_number.kp T.b__law_number passN (fun _ _ _ _ => trivial) (a_cons (v_E (pv 10)) a_nil))) (r_of_o (d_sub (r_of_o c_int) (r_of_o (d_mul (r_of_o c_int) (r_of_o (d_mod (r_of_o (d_div (v_R (pv 10)) (r_of_o c_int))) (r_of_o c_int)))))))))) (sw_true rfl rfl rfl (by decide +kernel))))
  (ss_cons (s_toC (s_setLc (i := 7) (own := [("one", 10)]) rfl sc__law_tree.nd (i_seqR rfl (r_of_o (d_slice rfl (v_R (pv 5)) (p_some (d_mod (r_of_o (d_div (v_R (pv 3)) (r_of_o c_int))) (r_of_o c_int))) p_none))) (blkOk_by (own := [("one", 10)]) (N := N__law_tree) (sc := defScope s__law_tree) (by decide +kernel)) (fun _ _ _ _ _ => (g_name (i := 10) (own := [10]) sc__law_tree.nd)) (fun _ _ _ _ _ => ts_nil) (fun _ _ _ _ _ => (e_of_o (d_tup (a_cons (d_callE (ok__law_number T) bodyN_len (hr.mono (Nat.le_trans (by decide) (Nat.le_add_right 2 _))) T.m__law_number T.F__law_number.kp T.b__law_number passN (fun _ _ _ _ => trivial) (a_cons (e_of_o (d_div (v_R (pv 10)) (r_of_o c_int))) a_nil)) (a_cons (d_callE (ok__law_number T) bodyN_len (hr.mono (Nat.le_trans (by decide) (Nat.le_add_right 2 _))) T.m__law_number T.F__law_number.kp T.b__law_number passN (fun _ _ _ _ => trivial) (a_cons (v_E (pv 10)) a_nil)) a_nil))))) (sw_true rfl rfl rfl (by decide +kernel))))
  (ss_one (s_retO (d_tup (a_cons (e_of_o (d_tup (a_cons (e_of_o c_str) (a_cons (v_E (pv 6)) (a_cons (v_E (pv 7)) a_nil))))) (a_cons (e_of_o (d_add rfl (v_R (pv 1)) (v_R (pv 4)))) a_nil)))))))))))))
theorem ok__law_same (T : Txt K mg) : ∀ n : Nat, FnOk P w K mg base CX0 (2 + n) T.a__law_same T.d__law_same ["found", "due"] (spD K (fun _ => 0) 2 (Fn.law_same_b939 n))
  | 0 => ok_bad rfl
  | n + 1 =>
  have IH := ok__law_same T n
  ok_def T.F__law_same sc__law_same fun cdv A outer s H E F0 as hr =>
  (ss_cons (s_if (t_w (w_or (t_not (dt_val (d_isi rfl (v_R (pv 0)) (ty_of T.z_tuple (by decide +kernel)) (by decide +kernel) T.z_isinstance))) (w_or (dt_ne rfl hr (r_of_o (DL.d_len rfl T.z_len (w_cons (v_R (pv 0)) w_nil))) (r_of_o (DL.d_len rfl T.z_len (w_cons (v_R (pv 1)) w_nil)))) (w_or1 (dt_ne rfl hr (r_of_e (d_ixA rfl (eu1 hr) (v_R (pv 0)) (r_of_o c_int))) (r_of_e (d_ixA rfl (eu1 hr) (v_R (pv 1)) (r_of_o c_int)))))))) (ss_one (s_retO c_bl)) ss_nil)
  (ss_cons (s_if (dt_eq rfl hr (r_of_e (d_ixA rfl (eu1 hr) (v_R (pv 1)) (r_of_o c_int))) (r_of_o c_str)) (ss_one (s_retO (d_and (d_callO (ok__law_whole T) bodyN_len (hr.mono (Nat.le_trans (by decide) (Nat.le_add_right 2 _))) T.m__law_whole T.F__law_whole.kp T.b__law_whole passN (fun _ _ _ _ => trivial) (a_cons (d_ixA rfl (eu1 hr) (v_R (pv 0)) (r_of_o c_int)) a_nil)) (d_one (d_eq rfl hr (r_of_e (d_ixA rfl (eu1 hr) (v_R (pv 0)) (r_of_o c_int))) (r_of_e (d_ixA rfl (eu1 hr) (v_R (pv 1)) (r_of_o c_int)))))))) ss_nil)
  (ss_cons (s_if (t_w (w_or (t_not (dt_val (d_isi rfl (r_of_e (d_ixA rfl (eu1 hr) (v_R (pv 0)) (r_of_o c_int))) (ty_of T.z_list (by decide +kernel)) (by decide +kernel) T.z_isinstance))) (w_or1 (dt_ne rfl hr (r_of_o (DL.d_len rfl T.z_len (w_cons (r_of_e (d_ixA rfl (eu1 hr) (v_R (pv 0)) (r_of_o c_int))) w_nil))) (r_of_o (DL.d_len rfl T.z_len (w_cons (r_of_e (d_ixA rfl (eu1 hr) (v_R (pv 1)) (r_of_o c_int))) w_nil))))))) (ss_one (s_retO c_bl)) ss_nil)
  (ss_cons (s_for rfl (i_range1 T.z_range (w_cons (r_of_o (DL.d_len rfl T.z_len (w_cons (r_of_e (d_ixA rfl (eu1 hr) (v_R (pv 1)) (r_of_o c_int))) w_nil))) w_nil)) (g_name (i := 2) (own := [2]) sc__law_same.nd) (ss_cons (s_if (t_w (w_and (dt_eq rfl hr (r_of_e (d_ixA rfl (eu1 hr) (v_R (pv 1)) (r_of_o c_int))) (r_of_o c_str)) (w_and1 (t_not (dt_val (d_callO IH (Fn.law_same_b939_len n) hr T.m__law_same T.F__law_same.kp T.b__law_same passN (fun _ _ _ _ => trivial) (a_cons (d_ixA rfl (eu1 hr) (r_of_e (d_ixA rfl (eu1 hr) (v_R (pv 0)) (r_of_o c_int))) (v_R (pv 2))) (a_cons (d_ixA rfl (eu1 hr) (r_of_e (d_ixA rfl (eu1 hr) (v_R (pv 1)) (r_of_o c_int))) (v_R (pv 2))) a_nil)))))))) (ss_one (s_retO c_bl)) ss_nil)
  (ss_one (s_if (t_w (w_and (dt_ne rfl hr (r_of_e (d_ixA rfl (eu1 hr) (v_R (pv 1)) (r_of_o c_int))) (r_of_o c_str)) (w_and1 (t_not (t_w (w_and (dt_val (d_callO (ok__law_whole T) bodyN_len (hr.mono (Nat.le_trans (by decide) (Nat.le_add_right 2 _))) T.m__law_whole T.F__law_whole.kp T.b__law_whole passN (fun _ _ _ _ => trivial) (a_cons (d_ixA rfl (eu1 hr) (r_of_e (d_ixA rfl (eu1 hr) (v_R (pv 0)) (r_of_o c_int))) (v_R (pv 2))) a_nil))) (w_and1 (dt_eq rfl hr (r_of_e (d_ixA rfl (eu1 hr) (r_of_e (d_ixA rfl (eu1 hr) (v_R (pv 0)) (r_of_o c_int))) (v_R (pv 2)))) (r_of_e (d_ixA rfl (eu1 hr) (r_of_e (d_ixA rfl (eu1 hr) (v_R (pv 1)) (r_of_o c_int))) (v_R (pv 2)))))))))))) (ss_one (s_retO c_bl)) ss_nil))) PassesOwn.never)
  (ss_cons (s_if (dt_ne rfl hr (r_of_e (d_ixA rfl (eu1 hr) (v_R (pv 1)) (r_of_o c_int))) (r_of_o c_str)) (ss_one (s_retO c_bl)) ss_nil)
  (ss_cons (s_if (t_not (dt_val (d_isi rfl (r_of_e (d_ixA rfl (eu1 hr) (v_R (pv 0)) (r_of_o c_int))) (ty_of T.z_list (by decide +kernel)) (by decide +kernel) T.z_isinstance))) (ss_one (s_retO c_bl)) ss_nil)
  (ss_cons (s_for rfl (i_seqE rfl (d_ixA rfl (eu1 hr) (v_R (pv 0)) (r_of_o c_int))) (g_name (i := 3) (own := [3]) sc__law_same.nd) (ss_one (s_if (t_w (w_or (t_not (dt_val (d_isi rfl (v_R (pv 3)) (ty_of T.z_tuple (by decide +kernel)) (by decide +kernel) T.z_isinstance))) (w_or (dt_ne rfl hr (r_of_o (DL.d_len rfl T.z_len (w_cons (v_R (pv 3)) w_nil))) (r_of_o c_int)) (w_or (t_not (dt_val (d_callO (ok__law_whole T) bodyN_len (hr.mono (Nat.le_trans (by decide) (Nat.le_add_right 2 _))) T.m__law_whole T.F__law_whole.kp T.b__law_whole passN (fun _ _ _ _ => trivial) (a_cons (d_ixA rfl (eu1 hr) (v_R (pv 3)) (r_of_o c_int)) a_nil)))) (w_or1 (t_not (dt_val (d_callO (ok__law_whole T) bodyN_len (hr.mono (Nat.le_trans (by decide) (Nat.le_add_right 2 _))) T.m__law_whole T.F__law_whole.kp T.b__law_whole passN (fun _ _ _ _ => trivial) (a_cons (d_ixA rfl (eu1 hr) (v_R (pv 3)) (r_of_o c_int)) a_nil))))))))) (ss_one (s_retO c_bl)) ss_nil)) PassesOwn.never)
  (ss_one (s_retO (d_eq rfl hr (r_of_e (d_ixA rfl (eu1 hr) (v_R (pv 0)) (r_of_o c_int))) (r_of_e (d_ixA rfl (eu1 hr) (v_R (pv 1)) (r_of_o c_int)))))))))))))
theorem ok__law_put_in (T : Txt K mg) : ∀ n : Nat, FnOk P w K mg base CX0 (14 + n) T.a__law_put_in T.d__law_put_in ["paper", "bad", "cell"] (spD K (fun _ => 0) 3 (Fn.law_put_in_df41 n))
  | 0 => ok_bad rfl
  | n + 1 =>
  have IH := ok__law_put_in T n
  ok_def T.F__law_put_in sc__law_put_in fun cdv A outer s H E F0 as hr =>
  (ss_cons (s_if (t_w (w_or (dt_ne rfl hr (r_of_e (d_ixA rfl (eu1 hr) (v_R (pv 0)) (r_of_o c_int))) (r_of_o c_str)) (w_or1 (dt_eq rfl hr (r_of_o (d_mod (v_R (pv 2)) (r_of_o c_int))) (r_of_o c_int))))) (ss_one (s_ret (v_E (pv 1)))) ss_nil)
  (ss_cons (s_set (i := 3) (e_of_o (d_div (v_R (pv 2)) (r_of_o c_int))) sc__law_put_in.nd)
  (ss_cons (s_set (i := 4) (e_of_o (d_mod (v_R (pv 3)) (r_of_o (DL.d_len rfl T.z_len (w_cons (r_of_e (d_ixA rfl (eu1 hr) (v_R (pv 0)) (r_of_o c_int))) w_nil))))) sc__law_put_in.nd)
  (ss_cons (s_set (i := 5) (e_of_o c_str) sc__law_put_in.nd)
  (ss_cons (s_for rfl (i_range1 T.z_range (w_cons (r_of_o (DL.d_len rfl T.z_len (w_cons (r_of_e (d_ixA rfl (eu1 hr) (v_R (pv 0)) (r_of_o c_int))) w_nil))) w_nil)) (g_name (i := 6) (own := [6]) sc__law_put_in.nd) (ss_cons (s_set (i := 7) (d_callE (ok__law_written T 12) (Fn.law_written_a355_len 12) (hr.mono (Nat.le_trans (by decide) (Nat.le_add_right 14 _))) T.m__law_written T.F__law_written.kp T.b__law_written passN (fun _ _ _ _ => trivial) (a_cons (d_ixA rfl (eu1 hr) (r_of_e (d_ixA rfl (eu1 hr) (v_R (pv 0)) (r_of_o c_int))) (v_R (pv 6))) a_nil)) sc__law_put_in.nd)
  (ss_cons (s_if (dt_eq rfl hr (v_R (pv 6)) (v_R (pv 4))) (ss_one (s_set (i := 7) (d_callE IH (Fn.law_put_in_df41_len n) hr T.m__law_put_in T.F__law_put_in.kp T.b__law_put_in passN (fun _ _ _ _ => trivial) (a_cons (d_ixA rfl (eu1 hr) (r_of_e (d_ixA rfl (eu1 hr) (v_R (pv 0)) (r_of_o c_int))) (v_R (pv 6))) (a_cons (v_E (pv 1)) (a_cons (e_of_o (d_div (v_R (pv 3)) (r_of_o (DL.d_len rfl T.z_len (w_cons (r_of_e (d_ixA rfl (eu1 hr) (v_R (pv 0)) (r_of_o c_int))) w_nil))))) a_nil)))) sc__law_put_in.nd)) ss_nil)
  (ss_one (s_set (i := 5) (e_of_o (d_add rfl (r_of_o (d_add rfl (r_of_o (d_add rfl (v_R (pv 5)) (r_of_o c_str))) (v_R (pv 7)))) (r_of_o c_str))) sc__law_put_in.nd)))) PassesOwn.never)
  (ss_one (s_ret (v_E (pv 5)))))))))
theorem ok_read_at (T : Txt K mg) : ∀ n : Nat, FnOk P w K mg base (L2.CX P w) (3 + n) T.a_read_at T.d_read_at ["text", "room"] (spD K (clsOf K) 2 (Fn.read_at_3388 n))
  | 0 => ok_bad rfl
  | n + 1 =>
  have IH := ok_read_at T n
  ok_defX T.F_read_at sc_read_at fun cdv A outer s H E F0 as hr tk =>
  (ss_cons (s_set (i := 2) (e_of_o (d_split (v_R (pv 0)) (r_of_o c_str))) sc_read_at.nd)
  (ss_cons (s_if (t_w (w_and (dt_eq rfl hr (r_of_e (d_ixA rfl (eu1 hr) (v_R (pv 2)) (r_of_o c_int))) (r_of_o c_str)) (w_and (dt_gt (r_of_o (DL.d_len rfl T.z_len (w_cons (v_R (pv 2)) w_nil))) (r_of_o c_int)) (w_and1 (dt_gt (v_R (pv 1)) (r_of_o c_int)))))) (ss_one (s_retO (d_tup (a_cons (e_of_o c_str) (a_cons (e_of_o (d_lcX (own := [("part", 4)]) rfl sc_read_at.nd rfl rfl tk (fun _ _ _ h => h) (i_seqR rfl (r_of_e (d_callEX (ok_parts_of T) bodyD_len (hr.mono (Nat.le_trans (by decide) (Nat.le_add_right 3 _))) T.m_parts_of T.F_parts_of.kp T.b_parts_of tk (fun _ _ _ h => h) (a_cons (e_of_o (d_slice rfl (v_R (pv 0)) (p_some c_int) p_none)) a_nil)))) (blkOk_by (own := [("part", 4)]) (N := N_read_at) (sc := defScope s_read_at) (by decide +kernel)) (fun _ _ _ _ _ => (g_name (i := 4) (own := [4]) sc_read_at.nd)) (fun _ _ _ _ _ _ _ _ tk' => (d_callEX IH (Fn.read_at_3388_len n) hr T.m_read_at T.F_read_at.kp T.b_read_at tk' (fun _ _ _ h => h) (a_cons (v_E (pv 4)) (a_cons (e_of_o (d_sub (v_R (pv 1)) (r_of_o c_int))) a_nil)))))) a_nil))))) ss_nil)
  (ss_cons (s_if (t_w (w_and (dt_eq rfl hr (r_of_e (d_ixA rfl (eu1 hr) (v_R (pv 2)) (r_of_o c_int))) (r_of_o c_str)) (w_and1 (dt_eq rfl hr (r_of_o (DL.d_len rfl T.z_len (w_cons (v_R (pv 2)) w_nil))) (r_of_o c_int))))) (ss_one (s_retO (d_tup (a_cons (e_of_o c_str) (a_cons (d_callEX (ok_number_of T) bodyD_len (hr.mono (Nat.le_trans (by decide) (Nat.le_add_right 3 _))) T.m_number_of T.F_number_of.kp T.b_number_of tk (fun _ _ _ h => h) (a_cons (d_ixA rfl (eu1 hr) (v_R (pv 2)) (r_of_o c_int)) a_nil)) a_nil))))) ss_nil)
  (ss_cons (s_if (dt_eq rfl hr (r_of_e (d_ixA rfl (eu1 hr) (v_R (pv 2)) (r_of_o c_int))) (r_of_o c_str)) (ss_one (s_retO (d_tup (a_cons (e_of_o c_str) (a_cons (e_of_o (d_lcX (own := [("word", 5)]) rfl sc_read_at.nd rfl rfl tk (fun _ _ _ h => h) (i_seqR rfl (r_of_o (d_slice rfl (v_R (pv 2)) (p_some c_int) p_none))) (blkOk_by (own := [("word", 5)]) (N := N_read_at) (sc := defScope s_read_at) (by decide +kernel)) (fun _ _ _ _ _ => (g_name (i := 5) (own := [5]) sc_read_at.nd)) (fun _ _ _ _ _ _ _ _ tk' => (d_callEX (ok_number_of T) bodyD_len (hr.mono (Nat.le_trans (by decide) (Nat.le_add_right 3 _))) T.m_number_of T.F_number_of.kp T.b_number_of tk' (fun _ _ _ h => h) (a_cons (v_E (pv 5)) a_nil))))) a_nil))))) ss_nil)
  (ss_cons (s_if (t_w (w_and (dt_eq rfl hr (r_of_e (d_ixA rfl (eu1 hr) (v_R (pv 2)) (r_of_o c_int))) (r_of_o c_str)) (w_and1 (dt_in rfl hr (r_of_o c_str) (v_R (pv 2)))))) (ss_cons (s_set (i := 3) (e_of_o (d_index rfl (v_R (pv 2)) (r_of_o c_str))) sc_read_at.nd)
  (ss_one (s_retO (d_tup (a_cons (e_of_o c_str) (a_cons (e_of_o (d_lcX (own := [("word", 5)]) rfl sc_read_at.nd rfl rfl tk (fun _ _ _ h => h) (i_seqR rfl (r_of_o (d_slice rfl (v_R (pv 2)) (p_some c_int) (p_some (o_of_e (v_E (pv 3))))))) (blkOk_by (own := [("word", 5)]) (N := N_read_at) (sc := defScope s_read_at) (by decide +kernel)) (fun _ _ _ _ _ => (g_name (i := 5) (own := [5]) sc_read_at.nd)) (fun _ _ _ _ _ _ _ _ tk' => (d_callEX (ok_price_of T) bodyD_len (hr.mono (Nat.le_trans (by decide) (Nat.le_add_right 3 _))) T.m_price_of T.F_price_of.kp T.b_price_of tk' (fun _ _ _ h => h) (a_cons (v_E (pv 5)) a_nil))))) (a_cons (e_of_o (d_lcX (own := [("word", 5)]) rfl sc_read_at.nd rfl rfl tk (fun _ _ _ h => h) (i_seqR rfl (r_of_o (d_slice rfl (v_R (pv 2)) (p_some (d_add rfl (v_R (pv 3)) (r_of_o c_int))) p_none))) (blkOk_by (own := [("word", 5)]) (N := N_read_at) (sc := defScope s_read_at) (by decide +kernel)) (fun _ _ _ _ _ => (g_name (i := 5) (own := [5]) sc_read_at.nd)) (fun _ _ _ _ _ _ _ _ tk' => (d_callEX (ok_due_of T) bodyD_len (hr.mono (Nat.le_trans (by decide) (Nat.le_add_right 3 _))) T.m_due_of T.F_due_of.kp T.b_due_of tk' (fun _ _ _ h => h) (a_cons (v_E (pv 5)) a_nil))))) a_nil))))))) ss_nil)
  (ss_one (s_raise rfl tk T.E_NoText (fun _ _ h => h))))))))
theorem ok__law_spoilt (T : Txt K mg) : FnOk P w K mg base CX0 27 T.a__law_spoilt T.d__law_spoilt ["paper", "cell"] (spD K (fun _ => 0) 2 Fn.law_spoilt_ed1f) :=
  ok_def T.F__law_spoilt sc__law_spoilt fun cdv A outer s H E F0 as hr =>
  (ss_cons (s_set (i := 2) (d_callE (ok__law_written T 12) (Fn.law_written_a355_len 12) (hr.mono (by decide)) T.m__law_written T.F__law_written.kp T.b__law_written passN (fun _ _ _ _ => trivial) (a_cons (v_E (pv 0)) a_nil)) sc__law_spoilt.nd)
  (ss_cons (s_set (i := 3) (e_of_o (d_div (v_R (pv 1)) (r_of_o c_int))) sc__law_spoilt.nd)
  (ss_cons (s_if (dt_lt (r_of_o (d_mod (v_R (pv 1)) (r_of_o c_int))) (r_of_o c_int)) (ss_one (s_retO (d_callO (ok__law_put_in T 12) (Fn.law_put_in_df41_len 12) (hr.mono (by decide)) T.m__law_put_in T.F__law_put_in.kp T.b__law_put_in passN (fun _ _ _ _ => trivial) (a_cons (v_E (pv 0)) (a_cons (d_callE (ok__law_bad T) bodyN_len (hr.mono (by decide)) T.m__law_bad T.F__law_bad.kp T.b__law_bad passN (fun _ _ _ _ => trivial) (a_cons (v_E (pv 3)) a_nil)) (a_cons (e_of_o (d_div (v_R (pv 3)) (r_of_o c_int))) a_nil)))))) ss_nil)
  (ss_cons (s_if (dt_eq rfl hr (r_of_o (d_mod (v_R (pv 1)) (r_of_o c_int))) (r_of_o c_int)) (ss_cons (s_set (i := 4) (e_of_o (d_mod (v_R (pv 3)) (r_of_o (d_add rfl (r_of_o (DL.d_len rfl T.z_len (w_cons (v_R (pv 2)) w_nil))) (r_of_o c_int))))) sc__law_spoilt.nd)
  (ss_cons (s_set (i := 5) (e_of_o (d_lst (a_cons (e_of_o c_str) (a_cons (e_of_o c_str) (a_cons (e_of_o c_str) (a_cons (e_of_o c_str) (a_cons (e_of_o c_str) (a_cons (e_of_o c_str) (a_cons (e_of_o c_str) (a_cons (e_of_o c_str) (a_cons (e_of_o c_str) (a_cons (e_of_o c_str) (a_cons (e_of_o c_str) (a_cons (e_of_o c_str) (a_cons (e_of_o c_str) (a_cons (e_of_o c_str) a_nil)))))))))))))))) sc__law_spoilt.nd)
  (ss_one (s_retO (d_add rfl (r_of_o (d_add rfl (r_of_o (d_slice rfl (v_R (pv 2)) p_none (p_some (o_of_e (v_E (pv 4)))))) (r_of_e (d_ixA rfl (eu1 hr) (v_R (pv 5)) (r_of_o (d_mod (r_of_o (d_div (v_R (pv 3)) (r_of_o c_int))) (r_of_o c_int))))))) (r_of_o (d_slice rfl (v_R (pv 2)) (p_some (o_of_e (v_E (pv 4)))) p_none))))))) ss_nil)
  (ss_cons (s_if (dt_eq rfl hr (r_of_o (d_mod (v_R (pv 1)) (r_of_o c_int))) (r_of_o c_int)) (ss_cons (s_set (i := 6) (e_of_o (d_add rfl (r_of_o (d_lc (own := [("k", 7)]) rfl sc__law_spoilt.nd (i_range1 T.z_range (w_cons (r_of_o (DL.d_len rfl T.z_len (w_cons (v_R (pv 2)) w_nil))) w_nil)) (blkOk_by (own := [("k", 7)]) (N := N__law_spoilt) (sc := defScope s__law_spoilt) (by decide +kernel)) (fun _ _ _ _ _ => (g_name (i := 7) (own := [7]) sc__law_spoilt.nd)) (fun _ _ _ _ _ => (ts_one (dt_eq rfl hr (r_of_e (d_ixA rfl (eu1 hr) (v_R (pv 2)) (v_R (pv 7)))) (r_of_o c_str)))) (fun _ _ _ _ _ => (v_E (pv 7))))) (r_of_o (d_lst (a_cons (e_of_o c_int) (a_cons (e_of_o (DL.d_len rfl T.z_len (w_cons (v_R (pv 2)) w_nil))) a_nil)))))) sc__law_spoilt.nd)
  (ss_cons (s_set (i := 4) (d_ixA rfl (eu1 hr) (v_R (pv 6)) (r_of_o (d_mod (v_R (pv 3)) (r_of_o (DL.d_len rfl T.z_len (w_cons (v_R (pv 6)) w_nil)))))) sc__law_spoilt.nd)
  (ss_one (s_retO (d_add rfl (r_of_o (d_add rfl (r_of_o (d_slice rfl (v_R (pv 2)) p_none (p_some (o_of_e (v_E (pv 4)))))) (r_of_o c_str))) (r_of_o (d_slice rfl (v_R (pv 2)) (p_some (o_of_e (v_E (pv 4)))) p_none))))))) ss_nil)
  (ss_cons (s_if (dt_eq rfl hr (r_of_o (d_mod (v_R (pv 1)) (r_of_o c_int))) (r_of_o c_int)) (ss_one (s_retO (d_callO (ok__law_deep T) bodyN_len (hr.mono (by decide)) T.m__law_deep T.F__law_deep.kp T.b__law_deep passN (fun _ _ _ _ => trivial) (a_cons (e_of_o (d_add rfl (r_of_o c_int) (r_of_e (d_ixA rfl (eu1 hr) (r_of_o (d_lst (a_cons (e_of_o c_int) (a_cons (e_of_o (d_mod (v_R (pv 3)) (r_of_o c_int))) a_nil)))) (r_of_o (d_mod (r_of_o (d_div (v_R (pv 3)) (r_of_o c_int))) (r_of_o c_int))))))) a_nil)))) ss_nil)
  (ss_one (s_ret (d_ixA rfl (eu1 hr) (r_of_o (d_lst (a_cons (e_of_o c_non) (a_cons (e_of_o c_int) (a_cons (e_of_o c_bl) (a_cons (e_of_o (d_lst (a_cons (e_of_o c_str) a_nil))) (a_cons (e_of_o (d_tup (a_cons (e_of_o c_str) (a_cons (e_of_o c_int) a_nil)))) (a_cons (e_of_o (d_pow (r_of_o c_int) (r_of_o c_int))) (a_cons (e_of_o c_bl) (a_cons (e_of_o (d_lst a_nil)) (a_cons (e_of_o (d_tup a_nil)) (a_cons (e_of_o (d_neg (r_of_o c_int))) a_nil)))))))))))) (r_of_o (d_mod (v_R (pv 3)) (r_of_o c_int))))))))))))
theorem ok_read_paper (T : Txt K mg) : FnOk P w K mg base (L2.CX P w) 16 T.a_read_paper T.d_read_paper ["text"] (spD K (clsOf K) 1 Fn.read_paper_f09b) :=
  ok_defX T.F_read_paper sc_read_paper fun cdv A outer s H E F0 as hr tk =>
  (ss_cons (s_if (t_not (dt_val (d_isi rfl (v_R (pv 0)) (ty_of T.z_str (by decide +kernel)) (by decide +kernel) T.z_isinstance))) (ss_one (s_raise rfl tk T.E_NoText (fun _ _ h => h))) ss_nil)
  (ss_one (s_retO (d_callOX (ok_read_at T 12) (Fn.read_at_3388_len 12) (hr.mono (by decide)) T.m_read_at T.F_read_at.kp T.b_read_at tk (fun _ _ _ h => h) (a_cons (v_E (pv 0)) (a_cons (e_of_o (c_globI T.c_DEEPEST)) a_nil))))))
theorem ok__law_refused (T : Txt K mg) : FnOk P w K mg base CX0 17 T.a__law_refused T.d__law_refused ["text"] (spD K (fun _ => 0) 1 Fn.law_refused_5ec6) :=
  ok_def T.F__law_refused sc__law_refused fun cdv A outer s H E F0 as hr =>
  (ss_cons (s_set (i := 1) (e_of_o c_bl) sc__law_refused.nd)
  (ss_cons (s_tryDrop rfl rfl takes0 rfl (fun _ _ _ h => h.elim) (fun _ _ _ tk' => (r_of_e (d_callEX (ok_read_paper T) bodyD_len (hr.mono (by decide)) T.m_read_paper T.F_read_paper.kp T.b_read_paper tk' (fun _ _ _ h => h) (a_cons (v_E (pv 0)) a_nil)))) (.cons (names_own T.E_NoText) (fun _ _ => (ss_one (s_set (i := 1) (e_of_o c_bl) sc__law_refused.nd))) .nil) (lk_cons (T.m_NoText_NoText) lk_nil))
  (ss_one (s_ret (v_E (pv 1))))))
theorem ok__law_class (T : Txt K mg) : FnOk P w K mg base CX0 17 T.a__law_class T.d__law_class ["text"] (spD K (fun _ => 0) 1 Fn.law_class_ba70) :=
  ok_def T.F__law_class sc__law_class fun cdv A outer s H E F0 as hr =>
  (ss_cons (s_set (i := 1) (e_of_o c_bl) sc__law_class.nd)
  (ss_cons (s_tryDropAs (i := 2) rfl rfl rfl (names_own T.E_DeskError) takes0 rfl (fun _ _ _ h => h.elim) (fun _ _ _ tk' => (r_of_e (d_callEX (ok_read_paper T) bodyD_len (hr.mono (by decide)) T.m_read_paper T.F_read_paper.kp T.b_read_paper tk' (fun _ _ _ h => h) (a_cons (v_E (pv 0)) a_nil)))) (fun _ _ => (ss_one (s_set (i := 1) (e_of_o (d_and (d_isE rfl (v_R (pv 2)) (pe_glob (v := .ref _) (u := .ref _) rfl T.E_NoText.g rfl) (.own _) (lk_cons ⟨T.X_NoText, T.i_NoText_NoText⟩ lk_nil) T.n_NoText T.z_isinstance) (d_and (d_isE rfl (v_R (pv 2)) (ty_of T.z_ValueError (by decide +kernel)) (.ty _) (lk_cons ⟨T.X_NoText, T.i_NoText_ValueError⟩ lk_nil) T.n_ValueError T.z_isinstance) (d_one (d_not (d_isE rfl (v_R (pv 2)) (pe_glob (v := .ref _) (u := .ref _) rfl T.E_Ring.g rfl) (.own _) (lk_cons ⟨T.X_NoText, T.i_NoText_Ring⟩ lk_nil) T.n_Ring T.z_isinstance)))))) sc__law_class.nd))) (lk_cons ⟨T.E_NoText.n, T.m_NoText_DeskError⟩ lk_nil) sc__law_class.nd)
  (ss_one (s_ret (v_E (pv 1))))))
theorem ok_law (T : Txt K mg) : FnOk P w K mg base CX0 28 T.a_law T.d_law ["script"] (spD K (fun _ => 0) 1 Fn.law_89dc) :=
  ok_def T.F_law sc_law fun cdv A outer s H E F0 as hr =>
  (ss_cons (s_set (i := 1) (d_ixA rfl (eu1 hr) (r_of_o (d_lst (a_cons (e_of_o c_int) (a_cons (e_of_o c_int) (a_cons (e_of_o c_int) (a_cons (e_of_o c_int) (a_cons (e_of_o c_int) a_nil))))))) (r_of_o (d_mod (r_of_e (d_callE (ok__law_cell T) bodyN_len (hr.mono (by decide)) T.m__law_cell T.F__law_cell.kp T.b__law_cell passN (fun _ _ _ _ => trivial) (a_cons (v_E (pv 0)) (a_cons (e_of_o c_int) a_nil)))) (r_of_o c_int)))) sc_law.nd)
  (ss_cons (s_set (i := 2) (d_ixA rfl (eu1 hr) (r_of_e (d_callE (ok__law_tree T 12) (Fn.law_tree_0852_len 12) (hr.mono (by decide)) T.m__law_tree T.F__law_tree.kp T.b__law_tree passN (fun _ _ _ _ => trivial) (a_cons (d_callE (ok__law_entries T) bodyN_len (hr.mono (by decide)) T.m__law_entries T.F__law_entries.kp T.b__law_entries passN (fun _ _ _ _ => trivial) (a_cons (v_E (pv 0)) (a_cons (e_of_o c_int) a_nil))) (a_cons (e_of_o c_int) (a_cons (v_E (pv 1)) a_nil))))) (r_of_o c_int)) sc_law.nd)
  (ss_cons (s_set (i := 3) (d_callE (ok__law_written T 12) (Fn.law_written_a355_len 12) (hr.mono (by decide)) T.m__law_written T.F__law_written.kp T.b__law_written passN (fun _ _ _ _ => trivial) (a_cons (v_E (pv 2)) a_nil)) sc_law.nd)
  (ss_cons (s_set (i := 4) (d_callE (ok__law_spoilt T) bodyN_len (hr.mono (by decide)) T.m__law_spoilt T.F__law_spoilt.kp T.b__law_spoilt passN (fun _ _ _ _ => trivial) (a_cons (v_E (pv 2)) (a_cons (d_callE (ok__law_cell T) bodyN_len (hr.mono (by decide)) T.m__law_cell T.F__law_cell.kp T.b__law_cell passN (fun _ _ _ _ => trivial) (a_cons (v_E (pv 0)) (a_cons (e_of_o c_int) a_nil))) a_nil))) sc_law.nd)
  (ss_cons (s_if (t_w (w_or (dt_val (d_callO (ok__law_refused T) bodyN_len (hr.mono (by decide)) T.m__law_refused T.F__law_refused.kp T.b__law_refused passN (fun _ _ _ _ => trivial) (a_cons (v_E (pv 3)) a_nil))) (w_or (t_not (dt_val (d_callO (ok__law_refused T) bodyN_len (hr.mono (by decide)) T.m__law_refused T.F__law_refused.kp T.b__law_refused passN (fun _ _ _ _ => trivial) (a_cons (v_E (pv 4)) a_nil)))) (w_or1 (t_not (dt_val (d_callO (ok__law_class T) bodyN_len (hr.mono (by decide)) T.m__law_class T.F__law_class.kp T.b__law_class passN (fun _ _ _ _ => trivial) (a_cons (v_E (pv 4)) a_nil)))))))) (ss_one (s_retO c_bl)) ss_nil)
  (ss_cons (s_set (i := 5) (e_of_o (d_tup (a_cons (e_of_o c_str) (a_cons (e_of_o c_int) a_nil)))) sc_law.nd)
  (ss_cons (s_for rfl (i_range1 T.z_range (w_cons (r_of_o c_int) w_nil)) (g_name (i := 6) (own := [6]) sc_law.nd) (ss_one (s_set (i := 5) (e_of_o (d_tup (a_cons (e_of_o c_str) (a_cons (e_of_o (d_lst (a_cons (v_E (pv 5)) a_nil))) a_nil)))) sc_law.nd)) PassesOwn.never)
  (ss_one (s_retO (d_and (d_callO (ok__law_same T 12) (Fn.law_same_b939_len 12) (hr.mono (by decide)) T.m__law_same T.F__law_same.kp T.b__law_same passN (fun _ _ _ _ => trivial) (a_cons (d_callEX (ok_read_paper T) bodyD_len (hr.mono (by decide)) T.m_read_paper T.F_read_paper.kp T.b_read_paper takes0 (fun _ _ _ h => h) (a_cons (d_callE (ok__law_deep T) bodyN_len (hr.mono (by decide)) T.m__law_deep T.F__law_deep.kp T.b__law_deep passN (fun _ _ _ _ => trivial) (a_cons (e_of_o c_int) a_nil)) a_nil)) (a_cons (v_E (pv 5)) a_nil))) (d_one (d_callO (ok__law_same T 12) (Fn.law_same_b939_len 12) (hr.mono (by decide)) T.m__law_same T.F__law_same.kp T.b__law_same passN (fun _ _ _ _ => trivial) (a_cons (d_callEX (ok_read_paper T) bodyD_len (hr.mono (by decide)) T.m_read_paper T.F_read_paper.kp T.b_read_paper takes0 (fun _ _ _ h => h) (a_cons (v_E (pv 3)) a_nil)) (a_cons (v_E (pv 2)) a_nil))))))))))))))
end
theorem all_mk (hlaw : ∀ ns : List Int, ns.length ≤ 63 → ∃ o, Fn.law_89dc [.scr ns] = .ok (o, .bl true)) {l : PySem.W.OpenLaw} {w : World} {K : PySem.W.Frag} {h : Heap} {mg : Str → Option Value} {fa : Addr} (X : K.In h) (G : h.Ns mainGlobals mg) (hfa : mg "law" = some (.ref fa))
    {f_number_of : Addr} {od_number_of an_number_of : Option Addr} {sl_number_of : Array (Option Value)} {oc_number_of kV_number_of dc_number_of pm_number_of cd_number_of ct_number_of : Value}
    {f_parts_of : Addr} {od_parts_of an_parts_of : Option Addr} {sl_parts_of : Array (Option Value)} {oc_parts_of kV_parts_of dc_parts_of pm_parts_of cd_parts_of ct_parts_of : Value}
    {f__law_cell : Addr} {od__law_cell an__law_cell : Option Addr} {sl__law_cell : Array (Option Value)} {oc__law_cell kV__law_cell dc__law_cell pm__law_cell cd__law_cell ct__law_cell : Value}
    {f__law_entries : Addr} {od__law_entries an__law_entries : Option Addr} {sl__law_entries : Array (Option Value)} {oc__law_entries kV__law_entries dc__law_entries pm__law_entries cd__law_entries ct__law_entries : Value}
    {f__law_whole : Addr} {od__law_whole an__law_whole : Option Addr} {sl__law_whole : Array (Option Value)} {oc__law_whole kV__law_whole dc__law_whole pm__law_whole cd__law_whole ct__law_whole : Value}
    {f__law_number : Addr} {od__law_number an__law_number : Option Addr} {sl__law_number : Array (Option Value)} {oc__law_number kV__law_number dc__law_number pm__law_number cd__law_number ct__law_number : Value}
    {f__law_written : Addr} {od__law_written an__law_written : Option Addr} {sl__law_written : Array (Option Value)} {oc__law_written kV__law_written dc__law_written pm__law_written cd__law_written ct__law_written : Value}
    {f__law_bad : Addr} {od__law_bad an__law_bad : Option Addr} {sl__law_bad : Array (Option Value)} {oc__law_bad kV__law_bad dc__law_bad pm__law_bad cd__law_bad ct__law_bad : Value}
    {f__law_deep : Addr} {od__law_deep an__law_deep : Option Addr} {sl__law_deep : Array (Option Value)} {oc__law_deep kV__law_deep dc__law_deep pm__law_deep cd__law_deep ct__law_deep : Value}
    {f_price_of : Addr} {od_price_of an_price_of : Option Addr} {sl_price_of : Array (Option Value)} {oc_price_of kV_price_of dc_price_of pm_price_of cd_price_of ct_price_of : Value}
    {f_due_of : Addr} {od_due_of an_due_of : Option Addr} {sl_due_of : Array (Option Value)} {oc_due_of kV_due_of dc_due_of pm_due_of cd_due_of ct_due_of : Value}
    {f__law_tree : Addr} {od__law_tree an__law_tree : Option Addr} {sl__law_tree : Array (Option Value)} {oc__law_tree kV__law_tree dc__law_tree pm__law_tree cd__law_tree ct__law_tree : Value}
    {f__law_same : Addr} {od__law_same an__law_same : Option Addr} {sl__law_same : Array (Option Value)} {oc__law_same kV__law_same dc__law_same pm__law_same cd__law_same ct__law_same : Value}
    {f__law_put_in : Addr} {od__law_put_in an__law_put_in : Option Addr} {sl__law_put_in : Array (Option Value)} {oc__law_put_in kV__law_put_in dc__law_put_in pm__law_put_in cd__law_put_in ct__law_put_in : Value}
    {f_read_at : Addr} {od_read_at an_read_at : Option Addr} {sl_read_at : Array (Option Value)} {oc_read_at kV_read_at dc_read_at pm_read_at cd_read_at ct_read_at : Value}
    {f__law_spoilt : Addr} {od__law_spoilt an__law_spoilt : Option Addr} {sl__law_spoilt : Array (Option Value)} {oc__law_spoilt kV__law_spoilt dc__law_spoilt pm__law_spoilt cd__law_spoilt ct__law_spoilt : Value}
    {f_read_paper : Addr} {od_read_paper an_read_paper : Option Addr} {sl_read_paper : Array (Option Value)} {oc_read_paper kV_read_paper dc_read_paper pm_read_paper cd_read_paper ct_read_paper : Value}
    {f__law_refused : Addr} {od__law_refused an__law_refused : Option Addr} {sl__law_refused : Array (Option Value)} {oc__law_refused kV__law_refused dc__law_refused pm__law_refused cd__law_refused ct__law_refused : Value}
    {f__law_class : Addr} {od__law_class an__law_class : Option Addr} {sl__law_class : Array (Option Value)} {oc__law_class kV__law_class dc__law_class pm__law_class cd__law_class ct__law_class : Value}
    {f_law : Addr} {od_law an_law : Option Addr} {sl_law : Array (Option Value)} {oc_law kV_law dc_law pm_law cd_law ct_law : Value}
    {t_DEEPEST : Tok}
    {t_FIGURES : Tok}
    {t_LONGEST : Tok}
    (a_number_of : PySem.W.nsIn K mainGlobals "number_of" = some (some (.ref f_number_of)))
    (l_number_of : K.lookup f_number_of = some ⟨oc_number_of, od_number_of, .func (PySem.W.fnOf "number_of" "number_of" (defArgs s_number_of) (defBody s_number_of) (defScope s_number_of) .none kV_number_of dc_number_of pm_number_of an_number_of cd_number_of ct_number_of), sl_number_of⟩) (c_number_of : PySem.W.codeIn K cd_number_of "number_of" = true) (k_number_of : PySem.W.keepIn K (.ref f_number_of) = true)
    (a_parts_of : PySem.W.nsIn K mainGlobals "parts_of" = some (some (.ref f_parts_of)))
    (l_parts_of : K.lookup f_parts_of = some ⟨oc_parts_of, od_parts_of, .func (PySem.W.fnOf "parts_of" "parts_of" (defArgs s_parts_of) (defBody s_parts_of) (defScope s_parts_of) .none kV_parts_of dc_parts_of pm_parts_of an_parts_of cd_parts_of ct_parts_of), sl_parts_of⟩) (c_parts_of : PySem.W.codeIn K cd_parts_of "parts_of" = true) (k_parts_of : PySem.W.keepIn K (.ref f_parts_of) = true)
    (a__law_cell : PySem.W.nsIn K mainGlobals "_law_cell" = some (some (.ref f__law_cell)))
    (l__law_cell : K.lookup f__law_cell = some ⟨oc__law_cell, od__law_cell, .func (PySem.W.fnOf "_law_cell" "_law_cell" (defArgs s__law_cell) (defBody s__law_cell) (defScope s__law_cell) .none kV__law_cell dc__law_cell pm__law_cell an__law_cell cd__law_cell ct__law_cell), sl__law_cell⟩) (c__law_cell : PySem.W.codeIn K cd__law_cell "_law_cell" = true) (k__law_cell : PySem.W.keepIn K (.ref f__law_cell) = true)
    (a__law_entries : PySem.W.nsIn K mainGlobals "_law_entries" = some (some (.ref f__law_entries)))
    (l__law_entries : K.lookup f__law_entries = some ⟨oc__law_entries, od__law_entries, .func (PySem.W.fnOf "_law_entries" "_law_entries" (defArgs s__law_entries) (defBody s__law_entries) (defScope s__law_entries) .none kV__law_entries dc__law_entries pm__law_entries an__law_entries cd__law_entries ct__law_entries), sl__law_entries⟩) (c__law_entries : PySem.W.codeIn K cd__law_entries "_law_entries" = true) (k__law_entries : PySem.W.keepIn K (.ref f__law_entries) = true)
    (a__law_whole : PySem.W.nsIn K mainGlobals "_law_whole" = some (some (.ref f__law_whole)))
    (l__law_whole : K.lookup f__law_whole = some ⟨oc__law_whole, od__law_whole, .func (PySem.W.fnOf "_law_whole" "_law_whole" (defArgs s__law_whole) (defBody s__law_whole) (defScope s__law_whole) .none kV__law_whole dc__law_whole pm__law_whole an__law_whole cd__law_whole ct__law_whole), sl__law_whole⟩) (c__law_whole : PySem.W.codeIn K cd__law_whole "_law_whole" = true) (k__law_whole : PySem.W.keepIn K (.ref f__law_whole) = true)
    (a__law_number : PySem.W.nsIn K mainGlobals "_law_number" = some (some (.ref f__law_number)))
    (l__law_number : K.lookup f__law_number = some ⟨oc__law_number, od__law_number, .func (PySem.W.fnOf "_law_number" "_law_number" (defArgs s__law_number) (defBody s__law_number) (defScope s__law_number) .none kV__law_number dc__law_number pm__law_number an__law_number cd__law_number ct__law_number), sl__law_number⟩) (c__law_number : PySem.W.codeIn K cd__law_number "_law_number" = true) (k__law_number : PySem.W.keepIn K (.ref f__law_number) = true)
    (a__law_written : PySem.W.nsIn K mainGlobals "_law_written" = some (some (.ref f__law_written)))
    (l__law_written : K.lookup f__law_written = some ⟨oc__law_written, od__law_written, .func (PySem.W.fnOf "_law_written" "_law_written" (defArgs s__law_written) (defBody s__law_written) (defScope s__law_written) .none kV__law_written dc__law_written pm__law_written an__law_written cd__law_written ct__law_written), sl__law_written⟩) (c__law_written : PySem.W.codeIn K cd__law_written "_law_written" = true) (k__law_written : PySem.W.keepIn K (.ref f__law_written) = true)
    (a__law_bad : PySem.W.nsIn K mainGlobals "_law_bad" = some (some (.ref f__law_bad)))
    (l__law_bad : K.lookup f__law_bad = some ⟨oc__law_bad, od__law_bad, .func (PySem.W.fnOf "_law_bad" "_law_bad" (defArgs s__law_bad) (defBody s__law_bad) (defScope s__law_bad) .none kV__law_bad dc__law_bad pm__law_bad an__law_bad cd__law_bad ct__law_bad), sl__law_bad⟩) (c__law_bad : PySem.W.codeIn K cd__law_bad "_law_bad" = true) (k__law_bad : PySem.W.keepIn K (.ref f__law_bad) = true)
    (a__law_deep : PySem.W.nsIn K mainGlobals "_law_deep" = some (some (.ref f__law_deep)))
    (l__law_deep : K.lookup f__law_deep = some ⟨oc__law_deep, od__law_deep, .func (PySem.W.fnOf "_law_deep" "_law_deep" (defArgs s__law_deep) (defBody s__law_deep) (defScope s__law_deep) .none kV__law_deep dc__law_deep pm__law_deep an__law_deep cd__law_deep ct__law_deep), sl__law_deep⟩) (c__law_deep : PySem.W.codeIn K cd__law_deep "_law_deep" = true) (k__law_deep : PySem.W.keepIn K (.ref f__law_deep) = true)
    (a_price_of : PySem.W.nsIn K mainGlobals "price_of" = some (some (.ref f_price_of)))
    (l_price_of : K.lookup f_price_of = some ⟨oc_price_of, od_price_of, .func (PySem.W.fnOf "price_of" "price_of" (defArgs s_price_of) (defBody s_price_of) (defScope s_price_of) .none kV_price_of dc_price_of pm_price_of an_price_of cd_price_of ct_price_of), sl_price_of⟩) (c_price_of : PySem.W.codeIn K cd_price_of "price_of" = true) (k_price_of : PySem.W.keepIn K (.ref f_price_of) = true)
    (a_due_of : PySem.W.nsIn K mainGlobals "due_of" = some (some (.ref f_due_of)))
    (l_due_of : K.lookup f_due_of = some ⟨oc_due_of, od_due_of, .func (PySem.W.fnOf "due_of" "due_of" (defArgs s_due_of) (defBody s_due_of) (defScope s_due_of) .none kV_due_of dc_due_of pm_due_of an_due_of cd_due_of ct_due_of), sl_due_of⟩) (c_due_of : PySem.W.codeIn K cd_due_of "due_of" = true) (k_due_of : PySem.W.keepIn K (.ref f_due_of) = true)
    (a__law_tree : PySem.W.nsIn K mainGlobals "_law_tree" = some (some (.ref f__law_tree)))
    (l__law_tree : K.lookup f__law_tree = some ⟨oc__law_tree, od__law_tree, .func (PySem.W.fnOf "_law_tree" "_law_tree" (defArgs s__law_tree) (defBody s__law_tree) (defScope s__law_tree) .none kV__law_tree dc__law_tree pm__law_tree an__law_tree cd__law_tree ct__law_tree), sl__law_tree⟩) (c__law_tree : PySem.W.codeIn K cd__law_tree "_law_tree" = true) (k__law_tree : PySem.W.keepIn K (.ref f__law_tree) = true)
    (a__law_same : PySem.W.nsIn K mainGlobals "_law_same" = some (some (.ref f__law_same)))
    (l__law_same : K.lookup f__law_same = some ⟨oc__law_same, od__law_same, .func (PySem.W.fnOf "_law_same" "_law_same" (defArgs s__law_same) (defBody s__law_same) (defScope s__law_same) .none kV__law_same dc__law_same pm__law_same an__law_same cd__law_same ct__law_same), sl__law_same⟩) (c__law_same : PySem.W.codeIn K cd__law_same "_law_same" = true) (k__law_same : PySem.W.keepIn K (.ref f__law_same) = true)
    (a__law_put_in : PySem.W.nsIn K mainGlobals "_law_put_in" = some (some (.ref f__law_put_in)))
    (l__law_put_in : K.lookup f__law_put_in = some ⟨oc__law_put_in, od__law_put_in, .func (PySem.W.fnOf "_law_put_in" "_law_put_in" (defArgs s__law_put_in) (defBody s__law_put_in) (defScope s__law_put_in) .none kV__law_put_in dc__law_put_in pm__law_put_in an__law_put_in cd__law_put_in ct__law_put_in), sl__law_put_in⟩) (c__law_put_in : PySem.W.codeIn K cd__law_put_in "_law_put_in" = true) (k__law_put_in : PySem.W.keepIn K (.ref f__law_put_in) = true)
    (a_read_at : PySem.W.nsIn K mainGlobals "read_at" = some (some (.ref f_read_at)))
    (l_read_at : K.lookup f_read_at = some ⟨oc_read_at, od_read_at, .func (PySem.W.fnOf "read_at" "read_at" (defArgs s_read_at) (defBody s_read_at) (defScope s_read_at) .none kV_read_at dc_read_at pm_read_at an_read_at cd_read_at ct_read_at), sl_read_at⟩) (c_read_at : PySem.W.codeIn K cd_read_at "read_at" = true) (k_read_at : PySem.W.keepIn K (.ref f_read_at) = true)
    (a__law_spoilt : PySem.W.nsIn K mainGlobals "_law_spoilt" = some (some (.ref f__law_spoilt)))
    (l__law_spoilt : K.lookup f__law_spoilt = some ⟨oc__law_spoilt, od__law_spoilt, .func (PySem.W.fnOf "_law_spoilt" "_law_spoilt" (defArgs s__law_spoilt) (defBody s__law_spoilt) (defScope s__law_spoilt) .none kV__law_spoilt dc__law_spoilt pm__law_spoilt an__law_spoilt cd__law_spoilt ct__law_spoilt), sl__law_spoilt⟩) (c__law_spoilt : PySem.W.codeIn K cd__law_spoilt "_law_spoilt" = true) (k__law_spoilt : PySem.W.keepIn K (.ref f__law_spoilt) = true)
    (a_read_paper : PySem.W.nsIn K mainGlobals "read_paper" = some (some (.ref f_read_paper)))
    (l_read_paper : K.lookup f_read_paper = some ⟨oc_read_paper, od_read_paper, .func (PySem.W.fnOf "read_paper" "read_paper" (defArgs s_read_paper) (defBody s_read_paper) (defScope s_read_paper) .none kV_read_paper dc_read_paper pm_read_paper an_read_paper cd_read_paper ct_read_paper), sl_read_paper⟩) (c_read_paper : PySem.W.codeIn K cd_read_paper "read_paper" = true) (k_read_paper : PySem.W.keepIn K (.ref f_read_paper) = true)
    (a__law_refused : PySem.W.nsIn K mainGlobals "_law_refused" = some (some (.ref f__law_refused)))
    (l__law_refused : K.lookup f__law_refused = some ⟨oc__law_refused, od__law_refused, .func (PySem.W.fnOf "_law_refused" "_law_refused" (defArgs s__law_refused) (defBody s__law_refused) (defScope s__law_refused) .none kV__law_refused dc__law_refused pm__law_refused an__law_refused cd__law_refused ct__law_refused), sl__law_refused⟩) (c__law_refused : PySem.W.codeIn K cd__law_refused "_law_refused" = true) (k__law_refused : PySem.W.keepIn K (.ref f__law_refused) = true)
    (a__law_class : PySem.W.nsIn K mainGlobals "_law_class" = some (some (.ref f__law_class)))
    (l__law_class : K.lookup f__law_class = some ⟨oc__law_class, od__law_class, .func (PySem.W.fnOf "_law_class" "_law_class" (defArgs s__law_class) (defBody s__law_class) (defScope s__law_class) .none kV__law_class dc__law_class pm__law_class an__law_class cd__law_class ct__law_class), sl__law_class⟩) (c__law_class : PySem.W.codeIn K cd__law_class "_law_class" = true) (k__law_class : PySem.W.keepIn K (.ref f__law_class) = true)
    (a_law : PySem.W.nsIn K mainGlobals "law" = some (some (.ref f_law)))
    (l_law : K.lookup f_law = some ⟨oc_law, od_law, .func (PySem.W.fnOf "law" "law" (defArgs s_law) (defBody s_law) (defScope s_law) .none kV_law dc_law pm_law an_law cd_law ct_law), sl_law⟩) (c_law : PySem.W.codeIn K cd_law "law" = true) (k_law : PySem.W.keepIn K (.ref f_law) = true)
    {v_DeskError : Addr} (n_DeskError : PySem.W.nsIn K mainGlobals "DeskError" = some (some (.ref v_DeskError))) (ex_DeskError : PySem.W.excIn K v_DeskError veB "ValueError.__new__" = true) (ek_DeskError : PySem.W.keepIn K (.ref v_DeskError) = true) (es_DeskError : PySem.W.subIn K (.ref v_DeskError) (.type "BaseException") = some true) (et_DeskError : PySem.W.typeIn K (.ref v_DeskError) = some (.type "type"))
    {v_NoText : Addr} (n_NoText : PySem.W.nsIn K mainGlobals "NoText" = some (some (.ref v_NoText))) (ex_NoText : PySem.W.excIn K v_NoText veB "ValueError.__new__" = true) (ek_NoText : PySem.W.keepIn K (.ref v_NoText) = true) (es_NoText : PySem.W.subIn K (.ref v_NoText) (.type "BaseException") = some true) (et_NoText : PySem.W.typeIn K (.ref v_NoText) = some (.type "type"))
    {v_Ring : Addr} (n_Ring : PySem.W.nsIn K mainGlobals "Ring" = some (some (.ref v_Ring))) (ex_Ring : PySem.W.excIn K v_Ring veB "ValueError.__new__" = true) (ek_Ring : PySem.W.keepIn K (.ref v_Ring) = true) (es_Ring : PySem.W.subIn K (.ref v_Ring) (.type "BaseException") = some true) (et_Ring : PySem.W.typeIn K (.ref v_Ring) = some (.type "type"))
    (em_NoText_DeskError : PySem.W.exmOne K (.ref v_NoText) (.ref v_DeskError) = some true)
    (em_NoText_NoText : PySem.W.exmOne K (.ref v_NoText) (.ref v_NoText) = some true)
    (ki_NoText_NoText : PySem.W.kitOne K (.ref v_NoText) (.ref v_NoText) = some true)
    (ki_NoText_Ring : PySem.W.kitOne K (.ref v_NoText) (.ref v_Ring) = some false)
    (ki_NoText_ValueError : PySem.W.kitOne K (.ref v_NoText) (.type "ValueError") = some true)
    (kn_NoText : PySem.W.kitOne K (.type "NoneType") (.ref v_NoText) = some false)
    (kn_Ring : PySem.W.kitOne K (.type "NoneType") (.ref v_Ring) = some false)
    (kn_ValueError : PySem.W.kitOne K (.type "NoneType") (.type "ValueError") = some false)
    (c1_NoText : PySem.W.findIn K (.ref v_NoText) "__getattribute__" = some (some (.builtin "BaseException.__getattribute__"))) (c2_NoText : PySem.W.findIn K (.ref v_NoText) "__getattr__" = some none) (c3_NoText : PySem.W.hasDictIn K v_NoText = true) (c4_NoText : PySem.W.findIn K (.ref v_NoText) "__class__" = some (some (.builtin "object.__class__"))) (c5_NoText : PySem.W.mroIn K v_NoText (.type "object") = some true)
    (oc1 : PySem.W.specialIn K (.builtin "object.__class__") "__get__" = some (some (.builtin "getset_descriptor.__get__"))) (oc2 : PySem.W.takesIn K (.builtin "object.__class__") = some true)
    (z_ValueError : PySem.W.nsIn K mainGlobals "ValueError" = some none)
    (z_bool : PySem.W.nsIn K mainGlobals "bool" = some none)
    (z_int : PySem.W.nsIn K mainGlobals "int" = some none)
    (z_isinstance : PySem.W.nsIn K mainGlobals "isinstance" = some none)
    (z_len : PySem.W.nsIn K mainGlobals "len" = some none)
    (z_list : PySem.W.nsIn K mainGlobals "list" = some none)
    (z_range : PySem.W.nsIn K mainGlobals "range" = some none)
    (z_str : PySem.W.nsIn K mainGlobals "str" = some none)
    (z_tuple : PySem.W.nsIn K mainGlobals "tuple" = some none)
    (e_DEEPEST : PySem.W.nsIn K mainGlobals "DEEPEST" = some (some (.int 8 t_DEEPEST)))
    (e_FIGURES : PySem.W.nsIn K mainGlobals "FIGURES" = some (some (.str (Str.ofString "0123456789") t_FIGURES)))
    (e_LONGEST : PySem.W.nsIn K mainGlobals "LONGEST" = some (some (.int 60 t_LONGEST))) :
    ∃ fd : FuncData, (∀ (s : Shared) (v : Value), BindsTo s fd ⟨[v], []⟩ [("script", v)]) ∧ ∀ base : Heap, K.In base → base.Ns mainGlobals mg → FnOk l.prog w K mg base CX0 28 fa fd ["script"] (DL.spLaw K) := by
  have e := hfa.symm.trans (PySem.W.mg_of X G a_law)
  cases e
  have F_number_of := fun_mk (st := s_number_of) l_number_of c_number_of k_number_of
  have F_parts_of := fun_mk (st := s_parts_of) l_parts_of c_parts_of k_parts_of
  have F__law_cell := fun_mk (st := s__law_cell) l__law_cell c__law_cell k__law_cell
  have F__law_entries := fun_mk (st := s__law_entries) l__law_entries c__law_entries k__law_entries
  have F__law_whole := fun_mk (st := s__law_whole) l__law_whole c__law_whole k__law_whole
  have F__law_number := fun_mk (st := s__law_number) l__law_number c__law_number k__law_number
  have F__law_written := fun_mk (st := s__law_written) l__law_written c__law_written k__law_written
  have F__law_bad := fun_mk (st := s__law_bad) l__law_bad c__law_bad k__law_bad
  have F__law_deep := fun_mk (st := s__law_deep) l__law_deep c__law_deep k__law_deep
  have F_price_of := fun_mk (st := s_price_of) l_price_of c_price_of k_price_of
  have F_due_of := fun_mk (st := s_due_of) l_due_of c_due_of k_due_of
  have F__law_tree := fun_mk (st := s__law_tree) l__law_tree c__law_tree k__law_tree
  have F__law_same := fun_mk (st := s__law_same) l__law_same c__law_same k__law_same
  have F__law_put_in := fun_mk (st := s__law_put_in) l__law_put_in c__law_put_in k__law_put_in
  have F_read_at := fun_mk (st := s_read_at) l_read_at c_read_at k_read_at
  have F__law_spoilt := fun_mk (st := s__law_spoilt) l__law_spoilt c__law_spoilt k__law_spoilt
  have F_read_paper := fun_mk (st := s_read_paper) l_read_paper c_read_paper k_read_paper
  have F__law_refused := fun_mk (st := s__law_refused) l__law_refused c__law_refused k__law_refused
  have F__law_class := fun_mk (st := s__law_class) l__law_class c__law_class k__law_class
  have F_law := fun_mk (st := s_law) l_law c_law k_law
  let T : Txt K mg := {
    a_number_of := _, d_number_of := _, F_number_of := F_number_of, m_number_of := PySem.W.mg_of X G a_number_of, b_number_of := (F_number_of.binds (ps := ["word"]) fun _ _ _ _ _ _ us hl => match us, hl with | [_], _ => rfl),
    a_parts_of := _, d_parts_of := _, F_parts_of := F_parts_of, m_parts_of := PySem.W.mg_of X G a_parts_of, b_parts_of := (F_parts_of.binds (ps := ["text"]) fun _ _ _ _ _ _ us hl => match us, hl with | [_], _ => rfl),
    a__law_cell := _, d__law_cell := _, F__law_cell := F__law_cell, m__law_cell := PySem.W.mg_of X G a__law_cell, b__law_cell := (F__law_cell.binds (ps := ["script", "k"]) fun _ _ _ _ _ _ us hl => match us, hl with | [_, _], _ => rfl),
    a__law_entries := _, d__law_entries := _, F__law_entries := F__law_entries, m__law_entries := PySem.W.mg_of X G a__law_entries, b__law_entries := (F__law_entries.binds (ps := ["script", "size"]) fun _ _ _ _ _ _ us hl => match us, hl with | [_, _], _ => rfl),
    a__law_whole := _, d__law_whole := _, F__law_whole := F__law_whole, m__law_whole := PySem.W.mg_of X G a__law_whole, b__law_whole := (F__law_whole.binds (ps := ["found"]) fun _ _ _ _ _ _ us hl => match us, hl with | [_], _ => rfl),
    a__law_number := _, d__law_number := _, F__law_number := F__law_number, m__law_number := PySem.W.mg_of X G a__law_number, b__law_number := (F__law_number.binds (ps := ["cell"]) fun _ _ _ _ _ _ us hl => match us, hl with | [_], _ => rfl),
    a__law_written := _, d__law_written := _, F__law_written := F__law_written, m__law_written := PySem.W.mg_of X G a__law_written, b__law_written := (F__law_written.binds (ps := ["paper"]) fun _ _ _ _ _ _ us hl => match us, hl with | [_], _ => rfl),
    a__law_bad := _, d__law_bad := _, F__law_bad := F__law_bad, m__law_bad := PySem.W.mg_of X G a__law_bad, b__law_bad := (F__law_bad.binds (ps := ["cell"]) fun _ _ _ _ _ _ us hl => match us, hl with | [_], _ => rfl),
    a__law_deep := _, d__law_deep := _, F__law_deep := F__law_deep, m__law_deep := PySem.W.mg_of X G a__law_deep, b__law_deep := (F__law_deep.binds (ps := ["many"]) fun _ _ _ _ _ _ us hl => match us, hl with | [_], _ => rfl),
    a_price_of := _, d_price_of := _, F_price_of := F_price_of, m_price_of := PySem.W.mg_of X G a_price_of, b_price_of := (F_price_of.binds (ps := ["word"]) fun _ _ _ _ _ _ us hl => match us, hl with | [_], _ => rfl),
    a_due_of := _, d_due_of := _, F_due_of := F_due_of, m_due_of := PySem.W.mg_of X G a_due_of, b_due_of := (F_due_of.binds (ps := ["word"]) fun _ _ _ _ _ _ us hl => match us, hl with | [_], _ => rfl),
    a__law_tree := _, d__law_tree := _, F__law_tree := F__law_tree, m__law_tree := PySem.W.mg_of X G a__law_tree, b__law_tree := (F__law_tree.binds (ps := ["cells", "at", "room"]) fun _ _ _ _ _ _ us hl => match us, hl with | [_, _, _], _ => rfl),
    a__law_same := _, d__law_same := _, F__law_same := F__law_same, m__law_same := PySem.W.mg_of X G a__law_same, b__law_same := (F__law_same.binds (ps := ["found", "due"]) fun _ _ _ _ _ _ us hl => match us, hl with | [_, _], _ => rfl),
    a__law_put_in := _, d__law_put_in := _, F__law_put_in := F__law_put_in, m__law_put_in := PySem.W.mg_of X G a__law_put_in, b__law_put_in := (F__law_put_in.binds (ps := ["paper", "bad", "cell"]) fun _ _ _ _ _ _ us hl => match us, hl with | [_, _, _], _ => rfl),
    a_read_at := _, d_read_at := _, F_read_at := F_read_at, m_read_at := PySem.W.mg_of X G a_read_at, b_read_at := (F_read_at.binds (ps := ["text", "room"]) fun _ _ _ _ _ _ us hl => match us, hl with | [_, _], _ => rfl),
    a__law_spoilt := _, d__law_spoilt := _, F__law_spoilt := F__law_spoilt, m__law_spoilt := PySem.W.mg_of X G a__law_spoilt, b__law_spoilt := (F__law_spoilt.binds (ps := ["paper", "cell"]) fun _ _ _ _ _ _ us hl => match us, hl with | [_, _], _ => rfl),
    a_read_paper := _, d_read_paper := _, F_read_paper := F_read_paper, m_read_paper := PySem.W.mg_of X G a_read_paper, b_read_paper := (F_read_paper.binds (ps := ["text"]) fun _ _ _ _ _ _ us hl => match us, hl with | [_], _ => rfl),
    a__law_refused := _, d__law_refused := _, F__law_refused := F__law_refused, m__law_refused := PySem.W.mg_of X G a__law_refused, b__law_refused := (F__law_refused.binds (ps := ["text"]) fun _ _ _ _ _ _ us hl => match us, hl with | [_], _ => rfl),
    a__law_class := _, d__law_class := _, F__law_class := F__law_class, m__law_class := PySem.W.mg_of X G a__law_class, b__law_class := (F__law_class.binds (ps := ["text"]) fun _ _ _ _ _ _ us hl => match us, hl with | [_], _ => rfl),
    a_law := _, d_law := _, F_law := F_law, m_law := PySem.W.mg_of X G a_law, b_law := (F_law.binds (ps := ["script"]) fun _ _ _ _ _ _ us hl => match us, hl with | [_], _ => rfl),
    E_DeskError := .of n_DeskError (PySem.W.mg_of X G n_DeskError) ex_DeskError ek_DeskError es_DeskError et_DeskError,
    E_NoText := .of n_NoText (PySem.W.mg_of X G n_NoText) ex_NoText ek_NoText es_NoText et_NoText,
    E_Ring := .of n_Ring (PySem.W.mg_of X G n_Ring) ex_Ring ek_Ring es_Ring et_Ring,
    m_NoText_DeskError := exm_at n_NoText n_DeskError em_NoText_DeskError,
    m_NoText_NoText := exm_at n_NoText n_NoText em_NoText_NoText,
    X_NoText := excC_at n_NoText c1_NoText c2_NoText es_NoText c3_NoText c4_NoText oc1 oc2 c5_NoText,
    i_NoText_NoText := kit_at n_NoText n_NoText ki_NoText_NoText,
    i_NoText_Ring := kit_at n_NoText n_Ring ki_NoText_Ring,
    i_NoText_ValueError := kitB_at n_NoText ki_NoText_ValueError,
    n_NoText := kitN_at n_NoText kn_NoText,
    n_Ring := kitN_at n_Ring kn_Ring,
    n_ValueError := kn_ValueError,
    z_ValueError := PySem.W.mg_none_of X G z_ValueError,
    z_bool := PySem.W.mg_none_of X G z_bool,
    z_int := PySem.W.mg_none_of X G z_int,
    z_isinstance := PySem.W.mg_none_of X G z_isinstance,
    z_len := PySem.W.mg_none_of X G z_len,
    z_list := PySem.W.mg_none_of X G z_list,
    z_range := PySem.W.mg_none_of X G z_range,
    z_str := PySem.W.mg_none_of X G z_str,
    z_tuple := PySem.W.mg_none_of X G z_tuple,
    t_DEEPEST := _, c_DEEPEST := PySem.W.mg_of X G e_DEEPEST,
    t_FIGURES := _, c_FIGURES := PySem.W.mg_of X G e_FIGURES,
    t_LONGEST := _, c_LONGEST := PySem.W.mg_of X G e_LONGEST }
  exact ⟨PySem.W.fnOf "law" "law" (defArgs s_law) (defBody s_law) (defScope s_law) .none kV_law dc_law pm_law an_law cd_law ct_law, fun s v => .of_eq rfl, fun base _ _ => DL.law_end (ok_law T) hlaw⟩
end Lk73
namespace Fn
open PySem DL
end Fn
namespace Fn
open PySem DL
end Fn
namespace Fn
open PySem DL
end Fn
namespace Fn
open PySem DL
end Fn
namespace Fn
open PySem DL
end Fn
namespace Fn
open PySem DL
end Fn
namespace Fn
open PySem DL
end Fn
namespace Fn
open PySem DL
end Fn
namespace Fn
open PySem DL
end Fn
namespace Fn
open PySem DL
end Fn
namespace Fn
open PySem DL
end Fn
namespace Fn
open PySem DL
end Fn
namespace Fn
open PySem DL
end Fn
namespace Fn
open PySem DL
end Fn
namespace Fn
open PySem DL
end Fn
namespace Fn
open PySem DL
end Fn
namespace Fn
open PySem DL
end Fn
namespace Fn
open PySem DL
end Fn
namespace Fn
open PySem DL
end Fn
local macro_rules | `(tactic| walk_at "dl") => `(tactic| try simp -implicitDefEqProofs only [DL.sort_ints, DL.sum_ints, DL.in_ints, DL.idx_ok, DL.rev_lst, DL.ap_ins, DL.intB_bl, DL.intB_int, DL.itZipL_lst, DL.ap_nrmS, DL.nrm_nil, DL.nrm_cons, DL.nrm_rows, DL.nrm_lst, DL.isC_rows, DL.len_rows, DL.unR_rows, DL.unR_lst, DL.isi_rows, DL.eq_rows, DL.ap_rowM, DL.rowM_ok, DL.rowM2_ok, DL.rowM3_ok, DL.ap_row0, DL.ap_get2, DL.get2_ok, DL.row0_ok, DL.row02_ok, DL.ap_rowsApp, DL.ap_rowPut, DL.rowPut_ok, DL.rowPut2_ok, DL.ap_consL, DL.consL_ok, DL.mkRows_ap, DL.ap_lcR, DL.maxDef_ints, DL.ap_cnt, DL.cnt_ok, DL.ap_idx, DL.ap_txop, DL.tx_ok, DL.ap_jopS, DL.ap_lc, DL.ap_try, DL.try_ok, DL.try_err, DL.ap_tryAs, DL.tryAs_ok, DL.tryAs_err, DL.gone_next, DL.ap_raise, DL.ap_bodyD, DL.end_err, DL.itRev_lst, DL.itZip_lst, DL.itEnum_lst, DL.min_int, DL.max_int, DL.ap_seq, DL.seq_next, DL.seq_ret, DL.seq_brk, DL.seq_cont, DL.seq_err, DL.ap_skip, DL.ap_brk, DL.ap_cont, DL.ap_stl, DL.settle_nil, DL.settle_cons, DL.settle_t, DL.settle_f, DL.ap_if, DL.ite_t, DL.ite_f, DL.ap_set, DL.ap_setO, DL.set_ok, DL.setO_ok, DL.isC_lst, DL.isC_dK, DL.isC_dT, DL.isC_int, DL.isC_str, DL.isC_bl, DL.isC_non, DL.isC_tup, DL.ap_ret, DL.ap_retO, DL.ret_ok, DL.ap_ret0, DL.ap_unp, DL.unp_ok, DL.unp2_ok, DL.ap_drop, DL.ap_gset, DL.ap_gtup, DL.ap_glst, DL.ap_gnil, DL.ap_gcons, DL.ap_rd, DL.ap_rdE, DL.ap_rdO, DL.rd_ok, DL.rdE_ok, DL.rdO_ok, DL.rdO_f, DL.ap_cst, DL.ap_bop, DL.bd2_ok, DL.ap_uop, DL.ap_nop, DL.ap_anil, DL.ap_acons, DL.cons_ok, DL.add_int, DL.add_str, DL.add_lst, DL.sub_int, DL.rep_lst, DL.neg_int, DL.eq_int, DL.eq_str, DL.eq_bl, DL.eq_non_int, DL.eq_int_non, DL.lt_int, DL.le_int, DL.gt_int, DL.ge_int, DL.isN_ap, DL.isN_non, DL.isN_int, DL.isN_str, DL.isN_bl, DL.ap_rdL, DL.rdL_ok, DL.ap_rdF, DL.rdF_int, DL.is_bl, DL.isN_lst, DL.isN_tup, DL.asB_bl, DL.asI_int, DL.mkLst_ap, DL.mkTup_ap, DL.len_lst, DL.len_tup, DL.len_scr, DL.len_str, DL.len_dK, DL.list_lst, DL.list_tup, DL.list_scr, DL.tuple_lst, DL.flatO_int, DL.flatO_bl, DL.flatO_str, DL.flatO_non, DL.flatO_tup, DL.eNot_bl, DL.isi_int, DL.isi_bl, DL.isi_str, DL.isi_non, DL.isi_lst, DL.isi_tup, DL.isB_int_int, DL.isB_int_bl, DL.isB_int_str, DL.isB_int_non, DL.isB_int_lst, DL.isB_int_tup, DL.isB_bool_int, DL.isB_bool_bl, DL.isB_bool_str, DL.isB_bool_non, DL.isB_bool_lst, DL.isB_bool_tup, DL.isB_list_lst, DL.isB_list_int, DL.isB_list_tup, DL.isB_tuple_tup, DL.isB_tuple_lst, DL.isB_str_str, DL.isB_str_int, DL.ap_tst, DL.ap_bnot, DL.ap_band, DL.ap_bor, DL.and_t, DL.and_f, DL.or_t, DL.or_f, DL.ap_eand, DL.ap_eor, DL.eand_t, DL.eand_f, DL.eor_t, DL.eor_f, DL.ap_eif, DL.eif_t, DL.eif_f, DL.ap_chain, DL.chn0_ok, DL.chn_t, DL.chn_f, DL.ap_slc, DL.slc_ok, DL.ap_pnone, DL.ap_psome, DL.cut_lst, DL.cut_scr, DL.ap_for, DL.loop_ok, DL.ap_loop0, DL.ap_loop1, DL.lp1_ok, DL.lp2_next, DL.lp2_cont, DL.lp2_brk, DL.lp2_ret, DL.ap_itr, DL.ap_irg, DL.itD_lst, DL.itD_tup, DL.itD_scr, DL.itD_str, DL.rng1_ap, DL.rng2_ap, DL.wipe_nil, DL.wipe_cons, DL.ap_app, DL.ap_ext, DL.ap_own0, DL.own0_ok, DL.ap_put, DL.put_ok, DL.put2_ok, DL.end_ret, DL.end_next, DL.args_ap, DL.bd_ok, DL.bd_err, DL.bd_bad, DL.grd_t, DL.grd_f, DL.xorB_f, DL.xorB_t, List.map_cons, List.map_nil, List.length_cons, List.length_nil, List.length_map, List.length_append, List.length_range, List.cons_append, List.nil_append, List.append_nil, List.getElem?_cons_zero, List.getElem?_cons_succ, List.set_cons_zero, List.set_cons_succ, List.replicate_succ, List.replicate_zero, Nat.sub_zero, Nat.sub_self, Nat.add_one_sub_one, Nat.reduceAdd, Nat.reduceSub, Nat.zero_add, Option.bind_some, decide_true, decide_false, Bool.and_true, Bool.true_and, Bool.and_false, Bool.false_and, Bool.not_true, Bool.not_false, Bool.or_true, Bool.or_false, Bool.true_or, Bool.false_or, Bool.false_eq_true, ↓reduceIte, Int.reduceToNat, Int.reducePow, Int.reduceMul, Int.reduceAdd, Int.reduceSub, Int.reduceNeg, Int.reduceLT, Int.reduceLE, Nat.reducePow, Int.reduceMod, Int.reduceDiv, Int.reduceEq, Nat.reduceEqDiff, Int.natAbs_cast, DL.mod_pos, DL.div_pos, DL.dEq_ints, DL.dEq_scr, DL.dEq_scr_nil, DL.dEq_ints_nil, DL.ix_l0, DL.ix_t0, DL.ix_ls, DL.ix_ts, Nat.zero_le, Nat.reduceLeDiff, DL.small_of, DL.inR_small, DL.lt_size, DL.mul_small, DL.pow_ok, DL.app_ok, DL.ite_t])
namespace Ti
open PySem DL
def kI (k : Nat) : D := .int (k : Int)
structure Seq (σ : List D → D) : Prop where
  len : ∀ ds, dLen [σ ds] = .ok (.int ds.length)
  ix : ∀ ds i x, 0 ≤ i → ds[i.toNat]? = some x → dIxA (σ ds) (.int i) = .ok x
  cut : ∀ ds (k : Nat), k < ds.length → dCut (σ ds) none (some (k : Int)) = .ok (σ (ds.take k))
  it : ∀ ds, itD (σ ds) = .ok ds
theorem look (ts : List Int) (k : Nat) (h : k < ts.length) : dIxA (.lst (ts.map .int)) (.int (k : Int)) = .ok (.int (ts.getD k 0)) := by
  rw [ixA_ints (by omega) (by omega)]; rfl
theorem lc_fmap {α : Type} {g : D → En → Option En} {t : En → R Bool} {f : En → R D} {ρ : En} (F G : α → D) (p : α → Bool) : ∀ (xs : List α), (∀ a ∈ xs, lcStep g t f ρ (F a) = .ok (if p a = true then some (G a) else none)) → lcGo g t f ρ (xs.map F) = .ok ((xs.filter p).map G)
  | [], _ => rfl
  | a :: xs, h => by
    have ih := lc_fmap F G p xs fun b hb => h b (List.mem_cons_of_mem _ hb)
    rw [List.map_cons]
    unfold lcGo
    rw [h a List.mem_cons_self, ih]
    cases hp : p a with
    | true => rw [List.filter_cons_of_pos hp]; rfl
    | false => rw [List.filter_cons_of_neg (by rw [hp]; exact Bool.false_ne_true)]; rfl
theorem lc_one {g : D → En → Option En} {t : En → R Bool} {f : En → R D} {ρ ρ1 : En} {d z : D} {b : Bool} (hg : g d ρ = some ρ1) (ht : t ρ1 = .ok b) (hf : b = true → f ρ1 = .ok z) : lcStep g t f ρ d = .ok (if b = true then some z else none) := by
  cases b with
  | true => exact DL.lcS_t hg ht (hf rfl)
  | false => exact DL.lcS_f hg ht
def most : Str := Str.ofString "most"
def least : Str := Str.ofString "least"
theorem lc_ex {α β : Type} {g : D → En → Option En} {t : En → R Bool} {f : En → R D} {ρ : En} (F : α → D) (G : β → D) (P : β → Prop) : ∀ (xs : List α), (∀ a ∈ xs, ∃ b, lcStep g t f ρ (F a) = .ok (some (G b)) ∧ P b) → ∃ bs : List β, bs.length = xs.length ∧ lcGo g t f ρ (xs.map F) = .ok (bs.map G) ∧ ∀ b ∈ bs, P b
  | [], _ => ⟨[], rfl, rfl, fun _ h => nomatch h⟩
  | a :: xs, h => by
    obtain ⟨b, h1, h2⟩ := h a List.mem_cons_self
    obtain ⟨bs, h3, h4, h5⟩ := lc_ex F G P xs fun b hb => h b (List.mem_cons_of_mem _ hb)
    refine ⟨b :: bs, by rw [List.length_cons, List.length_cons, h3], ?_, ?_⟩
    · rw [List.map_cons]
      unfold lcGo
      rw [h1, h4]; rfl
    · intro z hz
      rcases List.mem_cons.mp hz with rfl | hz
      · exact h2
      · exact h5 z hz
end Ti
namespace Di
open PySem DL PySem.Spec L2
def keys (kvs : List (Int × D)) : List Int := kvs.map (·.1)
theorem lk_some {q : Int} : ∀ {kvs : List (Int × D)}, (lkD kvs q).isSome = decide (q ∈ keys kvs)
  | [] => rfl
  | kv :: kvs => by
    have ih := lk_some (q := q) (kvs := kvs)
    unfold lkD at ih ⊢
    unfold keys at ih ⊢
    by_cases h : kv.1 = q
    · rw [List.find?_cons_of_pos (by simp only [h, decide_true]), decide_eq_true (by rw [List.map_cons, h]; exact List.mem_cons_self)]; rfl
    · rw [List.find?_cons_of_neg (by simpa using h), ih, decide_eq_decide, List.map_cons, List.mem_cons]
      exact ⟨.inr, fun z => z.resolve_left fun e => h e.symm⟩
theorem lk_in {kvs : List (Int × D)} {q : Int} : (lkD kvs q).isSome = true ↔ q ∈ keys kvs := by rw [lk_some, decide_eq_true_iff]
theorem keys_put (kvs : List (Int × D)) (q : Int) (v : D) : keys (putD kvs q v) = if q ∈ keys kvs then keys kvs else keys kvs ++ [q] := by
  unfold putD
  have e : (kvs.any fun kv => decide (kv.1 = q)) = decide (q ∈ keys kvs) := by
    rw [← Bool.decide_coe (kvs.any _), decide_eq_decide, List.any_eq_true]
    unfold keys
    simp only [List.mem_map, decide_eq_true_eq]
  rw [e]
  by_cases h : q ∈ keys kvs
  · rw [if_pos (decide_eq_true h), if_pos h]
    unfold keys
    rw [List.map_map]
    refine List.map_congr_left fun kv _ => ?_
    show (if kv.1 = q then (kv.1, v) else kv).1 = kv.1
    split <;> rfl
  · rw [if_neg (by rw [decide_eq_false h]; exact Bool.false_ne_true), if_neg h]
    unfold keys
    rw [List.map_append]; rfl
theorem lk_map (q r : Int) (v : D) : ∀ kvs : List (Int × D), lkD (kvs.map fun kv => if kv.1 = q then (kv.1, v) else kv) r = if r = q then (lkD kvs r).map fun _ => v else lkD kvs r
  | [] => by split <;> rfl
  | kv :: kvs => by
    have ih := lk_map q r v kvs
    unfold lkD at ih ⊢
    rw [List.map_cons]
    by_cases h : kv.1 = r
    · rw [List.find?_cons_of_pos (by show decide ((if kv.1 = q then (kv.1, v) else kv).1 = r) = true; split <;> simp only [h, decide_true]), List.find?_cons_of_pos (by simp only [h, decide_true])]
      subst h
      by_cases e : kv.1 = q
      · rw [if_pos e, if_pos e]; rfl
      · rw [if_neg e, if_neg e]
    · rw [List.find?_cons_of_neg (by show ¬ decide ((if kv.1 = q then (kv.1, v) else kv).1 = r) = true; split <;> simpa using h), List.find?_cons_of_neg (by simpa using h), ih]
theorem lk_app (q r : Int) (v : D) : ∀ kvs : List (Int × D), lkD (kvs ++ [(q, v)]) r = if (lkD kvs r).isSome then lkD kvs r else if r = q then some v else none
  | [] => by
    unfold lkD
    rw [List.nil_append]
    by_cases h : q = r
    · rw [List.find?_cons_of_pos (by simp only [h, decide_true])]; rw [if_pos h.symm]; rfl
    · rw [List.find?_cons_of_neg (by simpa using h)]
      show (none : Option D) = if r = q then some v else none
      rw [if_neg fun z => h z.symm]
  | kv :: kvs => by
    have ih := lk_app q r v kvs
    unfold lkD at ih ⊢
    rw [List.cons_append]
    by_cases h : kv.1 = r
    · rw [List.find?_cons_of_pos (by simp only [h, decide_true]), List.find?_cons_of_pos (by simp only [h, decide_true])]; rfl
    · rw [List.find?_cons_of_neg (by simpa using h), List.find?_cons_of_neg (by simpa using h), ih]
theorem lk_put (kvs : List (Int × D)) (q r : Int) (v : D) : lkD (putD kvs q v) r = if r = q then some v else lkD kvs r := by
  have e : (kvs.any fun kv => decide (kv.1 = q)) = decide (q ∈ keys kvs) := by
    rw [← Bool.decide_coe (kvs.any _), decide_eq_decide, List.any_eq_true]
    unfold keys
    simp only [List.mem_map, decide_eq_true_eq]
  unfold putD
  rw [e]
  by_cases h : q ∈ keys kvs
  · rw [if_pos (decide_eq_true h), lk_map]
    by_cases hr : r = q
    · rw [if_pos hr, if_pos hr]
      have := lk_in.mpr (hr ▸ h : r ∈ keys kvs)
      cases hl : lkD kvs r with
      | none => rw [hl] at this; cases this
      | some _ => rfl
    · rw [if_neg hr, if_neg hr]
  · rw [if_neg (by rw [decide_eq_false h]; exact Bool.false_ne_true), lk_app]
    by_cases hr : r = q
    · rw [if_neg (fun z => h (hr ▸ lk_in.mp z)), if_pos hr, if_pos hr]
    · rw [if_neg hr, if_neg hr]
      cases hl : lkD kvs r <;> rfl
end Di
namespace Sh
open PySem DL Ti Di
theorem nodup_len : ∀ {l m : List Int}, l.Nodup → (∀ x ∈ l, x ∈ m) → l.length ≤ m.length
  | [], _, _, _ => Nat.zero_le _
  | x :: l, m, h, s => by
    have hx := s x List.mem_cons_self
    have hn := List.nodup_cons.mp h
    have := nodup_len (m := m.erase x) hn.2 fun y hy => (List.mem_erase_of_ne (fun (e : y = x) => hn.1 (e ▸ hy))).mpr (s y (List.mem_cons_of_mem _ hy))
    rw [List.length_erase_of_mem hx] at this
    have hp := List.length_pos_of_mem hx
    rw [List.length_cons]
    omega
def num (l : List Int) (x : Int) : Int := ((uniq l).idxOf x : Nat)
end Sh
namespace De
open PySem DL
inductive NB : Nat → D → Prop
  | non {n : Nat} : NB n .non
  | int {n : Nat} (i : Int) : NB n (.int i)
  | str {n : Nat} (x : Str) : PyData.canLay0 (.str x) = true → NB n (.str x)
  | lst {n : Nat} {ds : List D} : (∀ d ∈ ds, NB n d) → NB (n + 1) (.lst ds)
  | tup {n : Nat} {ds : List D} : (∀ d ∈ ds, NB n d) → NB (n + 1) (.tup ds)
theorem py_all {n : Nat} : ∀ {ds : List D}, (∀ d ∈ ds, ∃ p, py d = some p ∧ p.canLay0 = true ∧ p.depth ≤ n) → ∃ ps, pys ds = some ps ∧ PyData.canLayAll0 ps = true ∧ PyData.depthAll ps ≤ n
  | [], _ => ⟨[], rfl, rfl, Nat.zero_le _⟩
  | d :: ds, h => by
    obtain ⟨p, h1, h2, h3⟩ := h d List.mem_cons_self
    obtain ⟨ps, h4, h5, h6⟩ := py_all fun e he => h e (List.mem_cons_of_mem _ he)
    refine ⟨p :: ps, ?_, ?_, ?_⟩
    · unfold pys; rw [h1, h4]; rfl
    · unfold PyData.canLayAll0; rw [h2, h5]; rfl
    · unfold PyData.depthAll; omega
theorem NB.py {n : Nat} {d : D} (h : NB n d) : ∃ p, DL.py d = some p ∧ p.canLay0 = true ∧ p.depth ≤ n := by
  induction h with
  | non => exact ⟨.none, rfl, by simp [PyData.canLay0], by simp [PyData.depth]⟩
  | int i => exact ⟨.int i, rfl, by simp [PyData.canLay0], by simp [PyData.depth]⟩
  | str x hx => exact ⟨.str x, rfl, hx, by simp [PyData.depth]⟩
  | lst _ ih =>
    obtain ⟨ps, h1, h2, h3⟩ := py_all ih
    refine ⟨.list ps, ?_, ?_, ?_⟩
    · unfold DL.py; rw [h1]; rfl
    · simp [PyData.canLay0, h2]
    · simp [PyData.depth]; omega
  | tup _ ih =>
    obtain ⟨ps, h1, h2, h3⟩ := py_all ih
    refine ⟨.tuple ps, ?_, ?_, ?_⟩
    · unfold DL.py; rw [h1]; rfl
    · simp [PyData.canLay0, h2]
    · simp [PyData.depth]; omega
theorem eqv_all {ds : List D} (ih : ∀ d ∈ ds, ∀ {m : Nat} {e : D} {p q : PyData}, NB m e → DL.py d = some p → DL.py e = some q → (PyData.eqv p q = true ↔ d = e)) : ∀ {m : Nat} {es : List D} {ps qs : List PyData}, (∀ e ∈ es, NB m e) → pys ds = some ps → pys es = some qs → (PyData.eqvAll ps qs = true ↔ ds = es) := by
  induction ds with
  | nil =>
    intro m es ps qs hes hp hq
    cases hp
    cases es with
    | nil => cases hq; exact ⟨fun _ => rfl, fun _ => rfl⟩
    | cons e es =>
      unfold pys at hq
      cases h1 : DL.py e with
      | none => rw [h1] at hq; cases hq
      | some q1 =>
        cases h2 : pys es with
        | none => rw [h1, h2] at hq; cases hq
        | some q2 =>
          rw [h1, h2] at hq; cases hq
          exact ⟨fun h => (by simp [PyData.eqvAll] at h), fun h => nomatch h⟩
  | cons d ds ih2 =>
    intro m es ps qs hes hp hq
    unfold pys at hp
    cases g1 : DL.py d with
    | none => rw [g1] at hp; cases hp
    | some p1 =>
      cases g2 : pys ds with
      | none => rw [g1, g2] at hp; cases hp
      | some p2 =>
        rw [g1, g2] at hp; cases hp
        cases es with
        | nil => cases hq; exact ⟨fun h => (by simp [PyData.eqvAll] at h), fun h => nomatch h⟩
        | cons e es =>
          unfold pys at hq
          cases h1 : DL.py e with
          | none => rw [h1] at hq; cases hq
          | some q1 =>
            cases h2 : pys es with
            | none => rw [h1, h2] at hq; cases hq
            | some q2 =>
              rw [h1, h2] at hq; cases hq
              have a1 := ih d List.mem_cons_self (hes e List.mem_cons_self) g1 h1
              have a2 := ih2 (fun d hd => ih d (List.mem_cons_of_mem _ hd)) (fun e he => hes e (List.mem_cons_of_mem _ he)) g2 h2
              show (PyData.eqvAll (p1 :: p2) (q1 :: q2) = true) ↔ _
              unfold PyData.eqvAll
              rw [Bool.and_eq_true, a1, a2]
              exact ⟨fun ⟨x, y⟩ => by rw [x, y], fun h => by cases h; exact ⟨rfl, rfl⟩⟩
theorem NB.eqv {n : Nat} {d : D} (h : NB n d) : ∀ {m : Nat} {e : D} {p q : PyData}, NB m e → DL.py d = some p → DL.py e = some q → (PyData.eqv p q = true ↔ d = e) := by
  induction h with
  | non =>
    intro m e p q he hp hq
    cases hp
    cases he with
    | non => cases hq; simp [PyData.eqv]
    | int i => cases hq; simp [PyData.eqv]
    | str x hx => cases hq; simp [PyData.eqv]
    | lst h => obtain ⟨ps, h1, -, -⟩ := py_all (fun d hd => (h d hd).py); unfold DL.py at hq; rw [h1] at hq; cases hq; simp [PyData.eqv]
    | tup h => obtain ⟨ps, h1, -, -⟩ := py_all (fun d hd => (h d hd).py); unfold DL.py at hq; rw [h1] at hq; cases hq; simp [PyData.eqv]
  | int i =>
    intro m e p q he hp hq
    cases hp
    cases he with
    | non => cases hq; simp [PyData.eqv]
    | int i => cases hq; simp [PyData.eqv]
    | str x hx => cases hq; simp [PyData.eqv]
    | lst h => obtain ⟨ps, h1, -, -⟩ := py_all (fun d hd => (h d hd).py); unfold DL.py at hq; rw [h1] at hq; cases hq; simp [PyData.eqv]
    | tup h => obtain ⟨ps, h1, -, -⟩ := py_all (fun d hd => (h d hd).py); unfold DL.py at hq; rw [h1] at hq; cases hq; simp [PyData.eqv]
  | str x hx =>
    intro m e p q he hp hq
    cases hp
    cases he with
    | non => cases hq; simp [PyData.eqv]
    | int i => cases hq; simp [PyData.eqv]
    | str x hx => cases hq; simp [PyData.eqv]
    | lst h => obtain ⟨ps, h1, -, -⟩ := py_all (fun d hd => (h d hd).py); unfold DL.py at hq; rw [h1] at hq; cases hq; simp [PyData.eqv]
    | tup h => obtain ⟨ps, h1, -, -⟩ := py_all (fun d hd => (h d hd).py); unfold DL.py at hq; rw [h1] at hq; cases hq; simp [PyData.eqv]
  | lst hd ih =>
    intro m e p q he hp hq
    obtain ⟨ps, h1, -, -⟩ := py_all (fun d h => (hd d h).py)
    unfold DL.py at hp; rw [h1] at hp; cases hp
    cases he with
    | non => cases hq; simp [PyData.eqv]
    | int i => cases hq; simp [PyData.eqv]
    | str x hx => cases hq; simp [PyData.eqv]
    | lst h =>
      obtain ⟨qs, h2, -, -⟩ := py_all (fun d hd => (h d hd).py)
      unfold DL.py at hq; rw [h2] at hq; cases hq
      have := eqv_all (fun d hd {m e p q} => ih d hd) h h1 h2
      show PyData.eqv (.list ps) (.list qs) = true ↔ _
      unfold PyData.eqv
      rw [this]
      exact ⟨fun h => by rw [h], fun h => by cases h; rfl⟩
    | tup h => obtain ⟨ps, h1, -, -⟩ := py_all (fun d hd => (h d hd).py); unfold DL.py at hq; rw [h1] at hq; cases hq; simp [PyData.eqv]
  | tup hd ih =>
    intro m e p q he hp hq
    obtain ⟨ps, h1, -, -⟩ := py_all (fun d h => (hd d h).py)
    unfold DL.py at hp; rw [h1] at hp; cases hp
    cases he with
    | non => cases hq; simp [PyData.eqv]
    | int i => cases hq; simp [PyData.eqv]
    | str x hx => cases hq; simp [PyData.eqv]
    | lst h => obtain ⟨ps, h1, -, -⟩ := py_all (fun d hd => (h d hd).py); unfold DL.py at hq; rw [h1] at hq; cases hq; simp [PyData.eqv]
    | tup h =>
      obtain ⟨qs, h2, -, -⟩ := py_all (fun d hd => (h d hd).py)
      unfold DL.py at hq; rw [h2] at hq; cases hq
      have := eqv_all (fun d hd {m e p q} => ih d hd) h h1 h2
      show PyData.eqv (.tuple ps) (.tuple qs) = true ↔ _
      unfold PyData.eqv
      rw [this]
      exact ⟨fun h => by rw [h], fun h => by cases h; rfl⟩
theorem deep_eq {neg : Bool} {n m : Nat} {a b : D} (ha : NB n a) (hb : NB m b) (hn : n ≤ 60) (hm : m ≤ 60) {P : Prop} [Decidable P] (hP : a = b ↔ P) : deepEq neg a b = .ok (.bl (xorB neg (decide P))) := by
  obtain ⟨p, h1, h2, h3⟩ := ha.py
  obtain ⟨q, g1, g2, g3⟩ := hb.py
  have e := ha.eqv hb h1 g1
  have e2 : PyData.eqv p q = decide P := by
    rw [← Bool.decide_coe (PyData.eqv p q), decide_eq_decide, e, hP]
  unfold deepEq
  rw [h1, g1]
  show grd (SeqAt.shaped p && SeqAt.shaped q) (R.ok (D.bl (xorB neg (PyData.eqv p q)))) = _
  have s1 : SeqAt.shaped p = true := by unfold SeqAt.shaped; rw [h2, decide_eq_true (by omega)]; rfl
  have s2 : SeqAt.shaped q = true := by unfold SeqAt.shaped; rw [g2, decide_eq_true (by omega)]; rfl
  rw [s1, s2, e2]; rfl
theorem eq_lsts {neg : Bool} {n m : Nat} {xs ys : List D} (ha : NB n (.lst xs)) (hb : NB m (.lst ys)) (hn : n ≤ 60) (hm : m ≤ 60) {P : Prop} [Decidable P] (hP : xs = ys ↔ P) : dEq neg (.lst xs) (.lst ys) = .ok (.bl (xorB neg (decide P))) :=
  deep_eq ha hb hn hm ⟨fun h => hP.mp (by cases h; rfl), fun h => by rw [hP.mpr h]⟩
theorem eq_self {neg : Bool} {n : Nat} {xs : List D} (ha : NB n (.lst xs)) (hn : n ≤ 60) : dEq neg (.lst xs) (.lst xs) = .ok (.bl (xorB neg true)) := by
  have := eq_lsts (neg := neg) ha ha hn hn (P := True) ⟨fun _ => trivial, fun _ => rfl⟩
  rw [decide_true] at this
  exact this
end De
namespace Gw
open PySem DL Ti Di Sh De
def W (l : List Int) : Int := maxI l (-1) + 1
theorem pys_ints : ∀ l : List Int, pys (l.map .int) = some (l.map PyData.int)
  | [] => rfl
  | x :: l => by
    show (py (.int x)).bind (fun p => (pys (l.map .int)).map fun ps => p :: ps) = _
    rw [pys_ints l]; rfl
theorem eqv_ints : ∀ l m : List Int, PyData.eqvAll (l.map .int) (m.map .int) = decide (l = m)
  | [], [] => rfl
  | [], _ :: _ => rfl
  | _ :: _, [] => rfl
  | x :: l, y :: m => by
    show (PyData.eqv (.int x) (.int y) && PyData.eqvAll (l.map .int) (m.map .int)) = _
    rw [eqv_ints l m]
    show ((x == y) && _) = _
    rw [Bool.eq_iff_iff]
    simp
end Gw
namespace Fn
open PySem DL
end Fn
namespace Fn
open PySem DL
end Fn
namespace Fn
open PySem DL
end Fn
namespace Br
open PySem DL Ti Di
end Br
namespace Pt
open PySem DL Ti Di Sh De Gw
end Pt
namespace Fn
open PySem DL
end Fn
namespace Nu
open PySem DL Ti
end Nu
namespace Fn
open PySem DL
end Fn
namespace Fn
open PySem DL
end Fn
namespace Fn
open PySem DL
end Fn
namespace Fn
open PySem DL
end Fn
namespace Bo
open PySem DL Ti
abbrev Tie := Str × Int × List Nat
def dT (t : Tie) : D := .tup [.str t.1, .int t.2.1, .tup (t.2.2.map kI)]
structure TieOk (m : Nat) (t : Tie) : Prop where
  word : t.1 = most ∨ t.1 = least
  lo : 1 ≤ t.2.1
  hi : t.2.1 ≤ 6
  ne : t.2.2 ≠ []
  sub : t.2.2.Sublist (List.range m)
theorem TieOk.lt {m : Nat} {t : Tie} (h : TieOk m t) : ∀ k ∈ t.2.2, k < m := fun k hk => List.mem_range.mp (h.sub.subset hk)
theorem TieOk.nd {m : Nat} {t : Tie} (h : TieOk m t) : t.2.2.Nodup := h.sub.nodup List.nodup_range
theorem TieOk.len {m : Nat} {t : Tie} (h : TieOk m t) : t.2.2.length ≤ m := by
  have := h.sub.length_le
  rwa [List.length_range] at this
end Bo
namespace Fn
open PySem DL
end Fn
namespace Ce
open PySem DL Ti
end Ce
namespace Tr
open PySem DL Ti Sh
def nx (b : Int) : Int := b % 1000000000000000000 + 1
def itN : Nat → Int → Int
  | 0, b => b
  | n + 1, b => itN n (nx b)
def Bg (b : Int) : Prop := 1 ≤ b ∧ b ≤ 1000000000000000000
theorem nx_bg (b : Int) : Bg (nx b) := by unfold Bg nx; omega
theorem itN_eq : ∀ (n : Nat) (b : Int), Bg b → n ≤ 100000 → itN n b = (b - 1 + n) % 1000000000000000000 + 1
  | 0, b, h, _ => by
    show b = _
    unfold Bg at h
    omega
  | n + 1, b, h, hn => by
    show itN n (nx b) = _
    rw [itN_eq n (nx b) (nx_bg b) (by omega)]
    unfold Bg at h
    unfold nx
    omega
theorem itN_inj {b : Int} (h : Bg b) {i j : Nat} (hi : i ≤ 100000) (hj : j ≤ 100000) (e : itN i b = itN j b) : i = j := by
  rw [itN_eq i b h hi, itN_eq j b h hj] at e
  unfold Bg at h
  omega
theorem free {b : Int} (h : Bg b) (l : List Int) (hl : l.length ≤ 1000) : ∃ i, i ≤ l.length ∧ itN i b ∉ l := by
  by_cases hc : ∃ i, i ≤ l.length ∧ itN i b ∉ l
  · exact hc
  · exfalso
    have := nodup_len (l := (List.range (l.length + 1)).map fun i => itN i b) (m := l) (by
      unfold List.Nodup
      rw [List.pairwise_map]
      refine List.nodup_range.imp_of_mem fun ha hb hne e => hne ?_
      rw [List.mem_range] at ha hb
      exact itN_inj h (by omega) (by omega) e) fun x hx => by
        obtain ⟨i, hi, rfl⟩ := List.mem_map.mp hx
        rw [List.mem_range] at hi
        by_cases hm : itN i b ∈ l
        · exact hm
        · exact absurd ⟨i, by omega, hm⟩ hc
    rw [List.length_map, List.length_range] at this
    omega
end Tr
namespace Me
open PySem DL Ti Di Sh Ce Tr
end Me
namespace Dw
open PySem DL Ti Di Sh Ce Tr Me Bo Gw
structure Drawn (top : Int) (menu : List Int) (lists : List (List Int)) (ties : List Tie) : Prop where
  m1 : menu.Pairwise (· < ·)
  m2 : ∀ b ∈ menu, Bg b
  m3 : menu.length ≤ 8
  m4 : menu ≠ []
  l1 : 1 ≤ lists.length
  l2 : (lists.length : Int) ≤ top
  l3 : lists.length ≤ 6
  l4 : ∀ l ∈ lists, l.Pairwise (· < ·) ∧ ∀ b ∈ l, b ∈ menu
  t1 : ties.length ≤ 12
  t2 : ∀ t ∈ ties, TieOk lists.length t
end Dw
namespace Dl
open PySem DL Di
def kN (k : Nat) : D := .int (k : Int)
def gO (hands : List (Option Int)) (k : Nat) : Option Int := hands.getD k none
def gP (pools : List (List Int)) (k : Nat) : List Int := pools.getD k []
structure Held (pools : List (List Int)) (hands : List (Option Int)) (own : List (Int × D)) : Prop where
  len : hands.length = pools.length
  inp : ∀ k x, gO hands k = some x → x ∈ gP pools k
  inj : ∀ j k x, gO hands j = some x → gO hands k = some x → j = k
  val : ∀ x d, lkD own x = some d → ∃ k, d = kN k ∧ gO hands k = some x
  has : ∀ k x, gO hands k = some x → lkD own x = some (kN k)
theorem kN_inj {j k : Nat} (h : kN j = kN k) : j = k := by
  unfold kN at h
  injection h with h
  omega
theorem gO_lt {hands : List (Option Int)} {k : Nat} {x : Int} (h : gO hands k = some x) : k < hands.length := by
  unfold gO at h
  by_cases hk : k < hands.length
  · exact hk
  · rw [List.getD_eq_getElem?_getD, List.getElem?_eq_none (by omega)] at h
    cases h
structure Bf (pools : List (List Int)) (hands : List (Option Int)) (start : Nat) (P : List Nat) (came : List (Int × D)) : Prop where
  nd : P.Nodup
  lt : ∀ p ∈ P, p < pools.length
  st : start ∈ P
  src : ∀ x d, lkD came x = some d → ∃ p, d = kN p ∧ p ∈ P ∧ x ∈ gP pools p
  back : ∀ p ∈ P, p ≠ start → ∃ x q, gO hands p = some x ∧ lkD came x = some (kN q) ∧ P.idxOf q < P.idxOf p
  fwd : ∀ x, x ∈ keys came → ∃ q ∈ P, q ≠ start ∧ gO hands q = some x
  cnt : (keys came).length + 1 = P.length
theorem Bf.start {pools : List (List Int)} {hands : List (Option Int)} {start : Nat} (hs : start < pools.length) : Bf pools hands start [start] [] where
  nd := by simp
  lt := fun p h => by rw [List.mem_singleton.mp h]; exact hs
  st := List.mem_singleton.mpr rfl
  src := fun x d h => by cases (h : (none : Option D) = some d)
  back := fun p h hn => absurd (List.mem_singleton.mp h) hn
  fwd := fun x h => absurd (h : x ∈ ([] : List Int)) List.not_mem_nil
  cnt := rfl
theorem idx_app {P : List Nat} {q p : Nat} (h : p ∈ P) : (P ++ [q]).idxOf p = P.idxOf p := by rw [List.idxOf_append, if_pos h]
theorem Bf.grow {pools : List (List Int)} {hands : List (Option Int)} {own came : List (Int × D)} {start place q : Nat} {P : List Nat} {b : Int} (W : Held pools hands own) (B : Bf pools hands start P came) (hn : gO hands start = none) (hp : place ∈ P) (hb : b ∈ gP pools place) (hc : b ∉ keys came) (hq : lkD own b = some (kN q)) :
    Bf pools hands start (P ++ [q]) (putD came b (kN place)) := by
  obtain ⟨k, e, hk⟩ := W.val b _ hq
  have e := kN_inj e
  subst e
  have hqs : q ≠ start := fun e => by rw [e, hn] at hk; cases hk
  have hqP : q ∉ P := fun h => by
    obtain ⟨x, q', g1, g2, -⟩ := B.back q h hqs
    rw [hk] at g1
    cases g1
    exact hc (lk_in.mp (by rw [g2]; rfl))
  have hx : ∀ {x : Int} {d : D}, lkD came x = some d → x ≠ b := fun h e => by
    subst e
    exact hc (lk_in.mp (by rw [h]; rfl))
  refine ⟨?_, ?_, List.mem_append_left _ B.st, ?_, ?_, ?_, ?_⟩
  · refine List.nodup_append.mpr ⟨B.nd, by simp, fun x hx1 y hy e => ?_⟩
    rw [List.mem_singleton.mp hy] at e
    subst e
    exact hqP hx1
  · intro p h
    rcases List.mem_append.mp h with h | h
    · exact B.lt p h
    · rw [List.mem_singleton.mp h, ← W.len]
      exact gO_lt hk
  · intro x d h
    rw [lk_put] at h
    split at h
    · rename_i e
      subst e
      cases h
      exact ⟨place, rfl, List.mem_append_left _ hp, hb⟩
    · obtain ⟨p, h1, h2, h3⟩ := B.src x d h
      exact ⟨p, h1, List.mem_append_left _ h2, h3⟩
  · intro p h hps
    rcases List.mem_append.mp h with h | h
    · obtain ⟨x, q', h1, h2, h3⟩ := B.back p h hps
      obtain ⟨p', e', hp', -⟩ := B.src x _ h2
      have e' := kN_inj e'
      subst e'
      refine ⟨x, q', h1, by rw [lk_put, if_neg (hx h2)]; exact h2, ?_⟩
      rw [idx_app h, idx_app hp']
      exact h3
    · rw [List.mem_singleton.mp h]
      refine ⟨b, place, hk, by rw [lk_put, if_pos rfl], ?_⟩
      rw [idx_app hp, List.idxOf_append, if_neg hqP]
      have := List.idxOf_lt_length_of_mem hp
      omega
  · intro x h
    rw [keys_put, if_neg hc] at h
    rcases List.mem_append.mp h with h | h
    · obtain ⟨q', h1, h2, h3⟩ := B.fwd x h
      exact ⟨q', List.mem_append_left _ h1, h2, h3⟩
    · rw [List.mem_singleton.mp h]
      exact ⟨q, List.mem_append_right _ (List.mem_singleton.mpr rfl), hqs, hk⟩
  · rw [keys_put, if_neg hc, List.length_append, List.length_append, List.length_singleton, List.length_singleton, B.cnt]
theorem Bf.len {pools : List (List Int)} {hands : List (Option Int)} {start : Nat} {P : List Nat} {came : List (Int × D)} (B : Bf pools hands start P came) : P.length ≤ pools.length ∧ came.length + 1 = P.length := by
  have h1 : P.length ≤ (List.range pools.length).length := by
    have aux : ∀ {l m : List Nat}, l.Nodup → (∀ x ∈ l, x ∈ m) → l.length ≤ m.length := by
      intro l
      induction l with
      | nil => intro m _ _; exact Nat.zero_le _
      | cons x l ih =>
        intro m h s
        have hx := s x List.mem_cons_self
        have hn := List.nodup_cons.mp h
        have := ih (m := m.erase x) hn.2 fun y hy => (List.mem_erase_of_ne (fun (e : y = x) => hn.1 (e ▸ hy))).mpr (s y (List.mem_cons_of_mem _ hy))
        rw [List.length_erase_of_mem hx] at this
        have hp := List.length_pos_of_mem hx
        rw [List.length_cons]
        omega
    exact aux B.nd fun x hx => List.mem_range.mpr (B.lt x hx)
  rw [List.length_range] at h1
  have h2 := B.cnt
  unfold keys at h2
  rw [List.length_map] at h2
  exact ⟨h1, h2⟩
end Dl
namespace Pl
open PySem DL Ti Di Sh De Bo Gw Dl
end Pl
namespace Rw
open PySem DL Ti Di Gw Dl
theorem putA_lst {ds : List D} {j : Int} {v : D} (h0 : 0 ≤ j) (h : j < ds.length) : putA (.lst ds) (.int j) v = .ok (.lst (ds.set j.toNat v)) := by
  show (match L2.ixN ds.length j with | some n => R.ok (D.lst (ds.set n v)) | none => R.bad) = _
  rw [DL.ixN_of h0 h]
end Rw
namespace Po
open PySem DL Ti Di Sh De Gw Pt Dl Pl Rw
end Po
namespace Bi
open PySem DL Ti Di Sh De Gw Pt Dl Pl Rw Po Nu
abbrev Row := List (Int × Int)
def prD (p : Int × Int) : D := .tup [.int p.1, .int p.2]
def ks (r : Row) : List Int := r.map (·.1)
def vl (r : Row) (b : Int) : Int := match r.find? (fun p => decide (p.1 = b)) with | some p => p.2 | none => 0
def gB (bill : List Row) (k : Nat) : Row := bill.getD k []
structure BillOk (bill : List Row) : Prop where
  nd : ∀ r ∈ bill, (ks r).Nodup
  sm : ∀ r ∈ bill, r.length ≤ 100
end Bi
namespace Be
open PySem DL Bi
inductive Pp where
  | tie (k : Int) : Pp
  | short (qs : List Int) : Pp
  | dear (pr : List Int) (td : List (Int × Int)) : Pp
  | split (ds : List Pp) : Pp
mutual
def dP : Pp → D
  | .tie k => .tup [.str (Str.ofString "tie"), .int k]
  | .short qs => .tup [.str (Str.ofString "short"), .lst (qs.map .int)]
  | .dear pr td => .tup [.str (Str.ofString "dear"), .lst (pr.map .int), .lst (td.map prD)]
  | .split ds => .tup [.str (Str.ofString "split"), .lst (dPs ds)]
def dPs : List Pp → List D
  | [] => []
  | p :: ps => dP p :: dPs ps
end
theorem dPs_map : ∀ ps : List Pp, dPs ps = ps.map dP
  | [] => rfl
  | p :: ps => congrArg (dP p :: ·) (dPs_map ps)
theorem dP_split (ds : List Pp) : dP (.split ds) = .tup [.str (Str.ofString "split"), .lst (ds.map dP)] := by
  rw [← dPs_map]; rfl
inductive Gd : Pp → Prop
  | tie (k : Int) : Gd (.tie k)
  | short (qs : List Int) : qs.length ≤ 1000 → Gd (.short qs)
  | dear (pr : List Int) (td : List (Int × Int)) : pr.length ≤ 1000 → td.length ≤ 1000 → Gd (.dear pr td)
  | split (ds : List Pp) : ds.length ≤ 1000 → (∀ k (h : k < ds.length), Gd ds[k]) → Gd (.split ds)
end Be
namespace Lc
open PySem DL Ti Gw
theorem lc_map {α : Type} {i : Nat} {f : En → R D} {ρ : En} (F G : α → D) (xs : List α) (hl : xs.length ≤ 1000000) (hf : ∀ a ∈ xs, f ((wipeR ρ [i]).set i (some (false, F a))) = .ok (G a)) : lcK (.ok (xs.map F)) [i] (gSet i) tYesD f ρ = .ok (.lst (xs.map G)) := by
  refine DL.lc_is (by rw [List.length_map]; exact hl) ?_
  have := lc_fmap (g := gSet i) (t := tYesD) (f := f) (ρ := wipeR ρ [i]) F G (fun _ => true) xs (fun a ha => lc_one rfl rfl fun _ => hf a ha)
  rw [List.filter_eq_self.mpr (fun _ _ => rfl)] at this
  exact this
theorem lc_some {α β : Type} {i : Nat} {f : En → R D} {ρ : En} (F : α → D) (G : β → D) (P : β → Prop) (xs : List α) (hl : xs.length ≤ 1000000) (hf : ∀ a ∈ xs, ∃ b, f ((wipeR ρ [i]).set i (some (false, F a))) = .ok (G b) ∧ P b) : ∃ bs : List β, bs.length = xs.length ∧ lcK (.ok (xs.map F)) [i] (gSet i) tYesD f ρ = .ok (.lst (bs.map G)) ∧ ∀ b ∈ bs, P b := by
  obtain ⟨bs, h1, h2, h3⟩ := lc_ex (g := gSet i) (t := tYesD) (f := f) (ρ := wipeR ρ [i]) F G P xs (fun a ha => by
    obtain ⟨b, e, hp⟩ := hf a ha
    exact ⟨b, DL.lcS_all rfl e, hp⟩)
  exact ⟨bs, h1, DL.lc_is (by rw [List.length_map]; exact hl) h2, h3⟩
end Lc
namespace Fn
open PySem DL
end Fn
namespace Fn
open PySem DL
end Fn
namespace En
open PySem DL Ti Di Sh De Gw Pt Dl Pl Rw Po Nu Bi Lc
theorem cell0_eq (ns : List Int) (k : Int) (h : 0 ≤ k) : ∃ o, Fn.law_cell_cb3a [.scr ns, .int k] = .ok (o, .int (ns.getD k.toNat 0)) := by
  unfold Fn.law_cell_cb3a; rw [DL.ap_body (by rfl)]; unfold Fn.law_cell_cb3a_g
  walk_at "dl"
  by_cases hk : k < ns.length
  · rw [decide_eq_true hk]
    walk_at "dl"
    rw [DL.ixA_scrD h hk]
    walk_at "dl"
    exact ⟨_, rfl⟩
  · rw [decide_eq_false hk]
    walk_at "dl"
    rw [List.getD_eq_getElem?_getD, List.getElem?_eq_none (by omega)]
    exact ⟨_, rfl⟩
theorem entries_eq (ns : List Int) (hns : ns.length ≤ 63) (size : Nat) (h1 : 1 ≤ size) (h2 : size ≤ 1000) : ∃ cells : List Int, cells.length = size ∧ Fn.law_entries_7bb9 [.scr ns, .int (size : Int)] = .ok (true, .lst (cells.map .int)) := by
  unfold Fn.law_entries_7bb9; rw [DL.ap_body (by rfl)]; unfold Fn.law_entries_7bb9_g
  walk_at "dl"
  obtain ⟨ρ', g1, m, z3, m0, m1, g2⟩ := DL.loop_at (g := gSet 3) (gb := Fn.law_entries_7bb9_b1) D.int (cutD ns none (some 4))
    (fun i ρ => ∃ (m : Int) (z3 : DL.Slot), 0 ≤ m ∧ m ≤ 2147483647 ∧ ρ = [some (false, .scr ns), some (false, .int (size : Int)), some (false, .int m), z3, none, none]) [some (false, .scr ns), some (false, .int (size : Int)), some (false, .int 1), none, none, none] ⟨1, none, by omega, by omega, rfl⟩ (fun i a ρ ha ⟨m, z3, m0, m1, hρ⟩ => by
      subst hρ
      refine ⟨_, rfl, ?_⟩
      unfold Fn.law_entries_7bb9_b1
      walk_at "dl"
      rw [DL.mul_r (by omega) (by omega)]
      walk_at "dl"
      exact ⟨_, rfl, _, _, Int.emod_nonneg _ (by omega), by have := Int.emod_lt_of_pos (m * 31 + a) (show (0 : Int) < 2147483647 by omega); omega, rfl⟩)
  rw [g1]
  subst g2
  walk_at "dl"
  rw [DL.inR_small (by omega) (by omega)]
  walk_at "dl"
  rw [Int.toNat_natCast]
  obtain ⟨ρ', g1, m, cells, z5, m0, m1, hcl, g2⟩ := DL.loop_at (g := gSet 5) (gb := Fn.law_entries_7bb9_b2) (fun i : Nat => D.int (0 + (i : Int))) (List.range size)
    (fun i ρ => ∃ (m : Int) (cells : List Int) (z5 : DL.Slot), 0 ≤ m ∧ m ≤ 2147483647 ∧ cells.length = i ∧ ρ = [some (false, .scr ns), some (false, .int (size : Int)), some (false, .int m), z3, some (true, .lst (cells.map .int)), z5]) [some (false, .scr ns), some (false, .int (size : Int)), some (false, .int m), z3, some (true, .lst []), none] ⟨m, [], none, m0, m1, rfl, rfl⟩ (fun i a ρ ha ⟨m, cells, z5, m0, m1, hcl, hρ⟩ => by
      subst hρ
      have hi := DL.at_lt ha
      rw [List.getElem?_eq_getElem hi, List.getElem_range] at ha
      rw [List.length_range] at hi
      cases ha
      refine ⟨_, rfl, ?_⟩
      unfold Fn.law_entries_7bb9_b2
      walk_at "dl"
      rw [DL.mul_l (by omega) (by omega), DL.mul_l (by omega) (by omega)]
      walk_at "dl"
      have q1 := Int.emod_nonneg (m * m + 48271 * m + (0 + (i : Int)) + 7) (show (2147483647 : Int) ≠ 0 by omega)
      have q2 := Int.emod_lt_of_pos (m * m + 48271 * m + (0 + (i : Int)) + 7) (show (0 : Int) < 2147483647 by omega)
      generalize (m * m + 48271 * m + (0 + (i : Int)) + 7) % 2147483647 = m' at q1 q2 ⊢
      rw [DL.app_ok (by rw [List.length_map]; omega)]
      exact ⟨_, rfl, m', cells ++ [m'], _, q1, by omega, by rw [List.length_append, List.length_singleton, hcl], by rw [List.map_append]; rfl⟩)
  have g1' : loopD (gSet 5) Fn.law_entries_7bb9_b2 ((List.range size).map fun i : Nat => D.int (0 + (i : Int))) [some (false, .scr ns), some (false, .int (size : Int)), some (false, .int _), z3, some (true, .lst []), none] = .ok (.next ρ') := g1
  rw [g1']
  subst g2
  rw [List.length_range] at hcl
  walk_at "dl"
  rw [DL.inR_small (by omega) (by omega)]
  walk_at "dl"
  obtain ⟨ρ', g1, cells', z5', hcl', g2⟩ := DL.loop_at (g := gSet 5) (gb := Fn.law_entries_7bb9_b3) (fun i : Nat => D.int (4 + (i : Int))) (List.range ((ns.length : Int) - 4).toNat)
    (fun i ρ => ∃ (cells : List Int) (z5 : DL.Slot), cells.length = size ∧ ρ = [some (false, .scr ns), some (false, .int (size : Int)), some (false, .int m), z3, some (true, .lst (cells.map .int)), z5]) [some (false, .scr ns), some (false, .int (size : Int)), some (false, .int m), z3, some (true, .lst (cells.map .int)), z5] ⟨cells, z5, hcl, rfl⟩ (fun i a ρ ha ⟨cells, z5, hcl, hρ⟩ => by
      subst hρ
      have hi := DL.at_lt ha
      rw [List.getElem?_eq_getElem hi, List.getElem_range] at ha
      rw [List.length_range] at hi
      cases ha
      refine ⟨_, rfl, ?_⟩
      unfold Fn.law_entries_7bb9_b3
      walk_at "dl"
      rw [DL.ixA_scrD (by omega) (by omega), DL.mod_pos (by omega)]
      walk_at "dl"
      have q1 := Int.emod_nonneg (4 + (i : Int) - 4) (show (size : Int) ≠ 0 by omega)
      have q2 := Int.emod_lt_of_pos (4 + (i : Int) - 4) (show (0 : Int) < (size : Int) by omega)
      generalize (4 + (i : Int) - 4) % (size : Int) = j at q1 q2 ⊢
      rw [putA_lst q1 (by rw [List.length_map]; omega)]
      walk_at "dl"
      exact ⟨_, rfl, cells.set j.toNat (ns.getD (4 + (i : Int)).toNat 0), _, by rw [List.length_set]; exact hcl, by rw [List.map_set]⟩)
  rw [g1]
  subst g2
  walk_at "dl"
  exact ⟨cells', hcl', rfl⟩
structure Drew (bs : List Int) (top : Int) (count : Nat) (bill : List Row) : Prop where
  len : bill.length = count
  sub : ∀ r ∈ bill, (ks r).Sublist bs
  lo : ∀ r ∈ bill, ∀ p ∈ r, 0 ≤ p.2 ∧ p.2 < top
theorem Drew.ok {bs : List Int} {top : Int} {count : Nat} {bill : List Row} (h : Drew bs top count bill) (hb : bs.Pairwise (· < ·)) (hl : bs.length ≤ 100) : BillOk bill := by
  refine ⟨fun r hr => ?_, fun r hr => ?_⟩
  · exact (h.sub r hr).nodup (hb.imp fun h => Int.ne_of_lt h)
  · have := (h.sub r hr).length_le
    unfold ks at this
    rw [List.length_map] at this
    omega
end En
namespace Tx
open PySem DL Ti De Gw Bi Lc Be
theorem s_assoc (a b c : Str) : a ++ b ++ c = a ++ (b ++ c) := TL.ext_tl (by rw [TL.tl_append, TL.tl_append, TL.tl_append, TL.tl_append, List.append_assoc])
theorem len_app (a b : Str) : (a ++ b).length = a.length + b.length := by rw [TL.len_tl, TL.len_tl a, TL.len_tl b, TL.tl_append, List.length_append]
def num (i : Int) : Str := Str.ofString (toString i)
theorem str_num {i : Int} (h : i.natAbs < 10 ^ 61) : dStr [.int i] = .ok (.str (num i)) := by
  have h1 : i.natAbs.log2 < 1920 := DL.log_of (Nat.lt_of_lt_of_le h (by decide)) (by decide)
  show grd (decide (i.natAbs.log2 < 1920)) _ = _
  rw [decide_eq_true h1]; rfl
theorem num_neg (n : Nat) : num (Int.negSucc n) = Str.ofString "-" ++ num ((n + 1 : Nat) : Int) := TL.ext_tl (by
  rw [TL.tl_append]
  show TL.tl (Str.ofString ("-" ++ Nat.repr (n + 1))) = TL.tl (Str.ofString "-") ++ TL.tl (Str.ofString (Nat.repr (n + 1)))
  rw [TL.tl_ofString, TL.tl_ofString, TL.tl_ofString, String.toList_append, List.map_append])
theorem num_len {i : Int} (h : i.natAbs < 10 ^ 61) : (num i).length ≤ 62 := by
  have pos : ∀ n : Nat, n < 10 ^ 61 → (num (n : Int)).length ≤ 61 := fun n hn => by
    rw [TL.len_tl]
    unfold num
    rw [TL.tl_num]
    exact TL.numL_len (by decide) hn
  cases i with
  | ofNat n => exact Nat.le_trans (pos n h) (by decide)
  | negSucc n =>
    rw [num_neg, len_app]
    have := pos (n + 1) h
    have e : (Str.ofString "-").length = 1 := by decide +kernel
    omega
def cat (t : Str) (l : List Str) : Str := l.foldl (fun t y => t ++ Str.ofString " " ++ y) t
theorem cat_app (a : Str) : ∀ (l : List Str) (b : Str), cat (a ++ b) l = a ++ cat b l
  | [], _ => rfl
  | y :: l, b => by
    show cat (a ++ b ++ Str.ofString " " ++ y) l = a ++ cat (b ++ Str.ofString " " ++ y) l
    rw [s_assoc a, s_assoc a, cat_app a l]
theorem join_cat : ∀ (l : List Str) (x : Str), Str.join (Str.ofString " ") (x :: l) = cat x l
  | [], _ => rfl
  | y :: l, x => by
    show x ++ Str.ofString " " ++ Str.join (Str.ofString " ") (y :: l) = cat (x ++ Str.ofString " " ++ y) l
    rw [join_cat l y, cat_app]
theorem cat_two (t : Str) (a b : List Str) : cat t (a ++ b) = cat (cat t a) b := List.foldl_append
theorem sp1 : (Str.ofString " ").length = 1 := by decide +kernel
theorem cat_len (B : Nat) : ∀ (l : List Str) (t : Str), (∀ y ∈ l, y.length ≤ B) → (cat t l).length ≤ t.length + l.length * (B + 1)
  | [], t, _ => by show t.length ≤ _; omega
  | y :: l, t, h => by
    have := cat_len B l (t ++ Str.ofString " " ++ y) fun z hz => h z (List.mem_cons_of_mem _ hz)
    have h1 := h y List.mem_cons_self
    rw [len_app, len_app, sp1] at this
    rw [List.length_cons, Nat.add_mul]
    show (cat (t ++ Str.ofString " " ++ y) l).length ≤ _
    omega
def due (e : Int × Int) : Str := num e.1 ++ Str.ofString "=" ++ num e.2
mutual
/-- a paper's text -/
def tx : Pp → Str
  | .tie k => Str.ofString "tie " ++ num k
  | .short qs => cat (Str.ofString "short") (qs.map num)
  | .dear pr td => cat (Str.ofString "dear") (pr.map num ++ Str.ofString "/" :: td.map due)
  | .split ds => Str.ofString "split " ++ Str.join (Str.ofString "") (txs ds)
def txs : List Pp → List Str
  | [] => []
  | p :: ps => (Str.ofString "(" ++ tx p ++ Str.ofString ")") :: txs ps
end
def inB (p : Pp) : Str := Str.ofString "(" ++ tx p ++ Str.ofString ")"
theorem txs_map : ∀ ps : List Pp, txs ps = ps.map inB
  | [] => rfl
  | p :: ps => congrArg (inB p :: ·) (txs_map ps)
theorem tx_split (ds : List Pp) : tx (.split ds) = Str.ofString "split " ++ Str.join (Str.ofString "") (ds.map inB) := by
  rw [← txs_map]; rfl
mutual
def sz : Pp → Nat
  | .tie _ => 70
  | .short qs => 10 + 63 * qs.length
  | .dear pr td => 12 + 63 * pr.length + 126 * td.length
  | .split ds => 6 + szs ds
def szs : List Pp → Nat
  | [] => 0
  | p :: ps => 2 + sz p + szs ps
end
theorem sz_split (ds : List Pp) : sz (.split ds) = 6 + szs ds := rfl
theorem sz_mem {p : Pp} : ∀ {ds : List Pp}, p ∈ ds → 2 + sz p ≤ szs ds
  | q :: ds, h => by
    show _ ≤ 2 + sz q + szs ds
    rcases List.mem_cons.mp h with rfl | h
    · omega
    · have := sz_mem h
      omega
theorem szs_le (B : Nat) : ∀ {ds : List Pp}, (∀ p ∈ ds, sz p ≤ B) → szs ds ≤ ds.length * (2 + B)
  | [], _ => Nat.zero_le _
  | q :: ds, h => by
    have h1 := h q List.mem_cons_self
    have h2 := szs_le B fun p hp => h p (List.mem_cons_of_mem _ hp)
    show 2 + sz q + szs ds ≤ (ds.length + 1) * (2 + B)
    rw [Nat.add_mul]
    omega
inductive Tk : Nat → Pp → Prop
  | tie {m : Nat} {k : Int} : k.natAbs < 10 ^ 61 → Tk m (.tie k)
  | short {m : Nat} {qs : List Int} : qs.length ≤ 100 → (∀ q ∈ qs, q.natAbs < 10 ^ 61) → Tk m (.short qs)
  | dear {m : Nat} {pr : List Int} {td : List (Int × Int)} : pr.length ≤ 100 → td.length ≤ 100 → (∀ q ∈ pr, q.natAbs < 10 ^ 61) → (∀ e ∈ td, e.1.natAbs < 10 ^ 61 ∧ e.2.natAbs < 10 ^ 61) → Tk m (.dear pr td)
  | split {m : Nat} {ds : List Pp} : ds.length ≤ 100 → (∀ k (h : k < ds.length), Tk m ds[k]) → Tk (m + 1) (.split ds)
theorem eq1 : (Str.ofString "=").length = 1 := by decide +kernel
theorem due_len {e : Int × Int} (h : e.1.natAbs < 10 ^ 61 ∧ e.2.natAbs < 10 ^ 61) : (due e).length ≤ 125 := by
  have h1 := num_len h.1
  have h2 := num_len h.2
  unfold due
  rw [len_app, len_app, eq1]
  omega
theorem join0 : ∀ l : List Str, (Str.join (Str.ofString "") l).length = (l.map fun y : Str => y.length).sum
  | [] => rfl
  | [x] => by show x.length = _; simp
  | x :: y :: l => by
    show (x ++ Str.ofString "" ++ Str.join (Str.ofString "") (y :: l)).length = _
    have e : (Str.ofString "").length = 0 := by decide +kernel
    rw [len_app, len_app, join0 (y :: l), e]
    rfl
theorem len0 : (Str.ofString "").length = 0 := by decide +kernel
theorem lpar1 : (Str.ofString "(").length = 1 := by decide +kernel
theorem rpar1 : (Str.ofString ")").length = 1 := by decide +kernel
theorem sl1 : (Str.ofString "/").length = 1 := by decide +kernel
theorem w_split : (Str.ofString "split ").length = 6 := by decide +kernel
theorem w_tie : (Str.ofString "tie ").length = 4 := by decide +kernel
theorem w_short : (Str.ofString "short").length = 5 := by decide +kernel
theorem w_dear : (Str.ofString "dear").length = 4 := by decide +kernel
theorem Tk.short_len {qs : List Int} (h : ∀ q ∈ qs, q.natAbs < 10 ^ 61) : (cat (Str.ofString "short") (qs.map num)).length ≤ 5 + qs.length * 63 := by
  have := cat_len 62 (qs.map num) (Str.ofString "short") fun y hy => by
    obtain ⟨q, hq, rfl⟩ := List.mem_map.mp hy
    exact num_len (h q hq)
  rw [w_short, List.length_map] at this
  exact this
theorem Tk.dear1_len {qs : List Int} (h : ∀ q ∈ qs, q.natAbs < 10 ^ 61) : (cat (Str.ofString "dear") (qs.map num)).length ≤ 4 + qs.length * 63 := by
  have := cat_len 62 (qs.map num) (Str.ofString "dear") fun y hy => by
    obtain ⟨q, hq, rfl⟩ := List.mem_map.mp hy
    exact num_len (h q hq)
  rw [w_dear, List.length_map] at this
  exact this
theorem Tk.dear_len {qs : List Int} {td : List (Int × Int)} (h : ∀ q ∈ qs, q.natAbs < 10 ^ 61) (h2 : ∀ e ∈ td, e.1.natAbs < 10 ^ 61 ∧ e.2.natAbs < 10 ^ 61) : (cat (Str.ofString "dear") (qs.map num ++ Str.ofString "/" :: td.map due)).length ≤ 6 + qs.length * 63 + td.length * 126 := by
  rw [cat_two]
  have h1 := Tk.dear1_len h
  have := cat_len 125 (td.map due) (cat (Str.ofString "dear") (qs.map num) ++ Str.ofString " " ++ Str.ofString "/") fun y hy => by
    obtain ⟨q, hq, rfl⟩ := List.mem_map.mp hy
    exact due_len (h2 q hq)
  rw [len_app, len_app, sp1, sl1, List.length_map] at this
  exact Nat.le_trans this (by omega)
theorem sum_le (ds : List Pp) (h : ∀ p ∈ ds, (tx p).length ≤ sz p) : ((ds.map inB).map fun y : Str => y.length).sum ≤ szs ds := by
  induction ds with
  | nil => exact Nat.le_refl _
  | cons p ds ih =>
    have h1 := h p List.mem_cons_self
    have h2 := ih fun q hq => h q (List.mem_cons_of_mem _ hq)
    show (inB p).length + ((ds.map inB).map fun y : Str => y.length).sum ≤ 2 + sz p + szs ds
    unfold inB at *
    rw [len_app, len_app, lpar1, rpar1]
    omega
theorem Tk.len {m : Nat} {p : Pp} (h : Tk m p) : (tx p).length ≤ sz p := by
  induction h with
  | @tie m k h =>
    have := num_len h
    show (Str.ofString "tie " ++ num k).length ≤ 70
    rw [len_app, w_tie]
    omega
  | short h1 h2 =>
    have := Tk.short_len h2
    show (cat _ _).length ≤ 10 + 63 * _
    omega
  | dear h1 h2 h3 h4 =>
    have := Tk.dear_len h3 h4
    show (cat _ _).length ≤ 12 + 63 * _ + 126 * _
    omega
  | @split m ds h1 _ ih =>
    rw [tx_split, len_app, join0, w_split, sz_split]
    have := sum_le ds fun p hp => by
      obtain ⟨k, hk, rfl⟩ := List.getElem_of_mem hp
      exact ih k hk
    omega
theorem Tk.mono {m : Nat} {p : Pp} (h : Tk m p) : ∀ {n : Nat}, m ≤ n → Tk n p := by
  induction h with
  | tie h => exact fun _ => .tie h
  | short h1 h2 => exact fun _ => .short h1 h2
  | dear h1 h2 h3 h4 => exact fun _ => .dear h1 h2 h3 h4
  | @split m ds h1 _ ih =>
    intro n hn
    obtain ⟨n, rfl⟩ : ∃ n', n = n' + 1 := ⟨n - 1, by omega⟩
    exact .split h1 fun k hk => ih k hk (by omega)
theorem sm {n : Nat} (h : n ≤ 16777216) : small n = true := by
  unfold small
  rw [DL.sizeLine_big]
  exact decide_eq_true h
end Tx
namespace Rt
open PySem DL Ti De Gw Bi Lc Be Tx
theorem tl_sp : TL.tl (Str.ofString " ") = [32] := by decide +kernel
theorem sp_all : (Str.ofString " ").cps.all (· < 256) = true := by decide +kernel
theorem split_cat (x : Str) (l : List Str) (h : 32 ∉ TL.tl x) (hl : ∀ y ∈ l, 32 ∉ TL.tl y) : splitL (cat x l) (Str.ofString " ") = x :: l := by
  rw [← join_cat]
  refine DL.split_join tl_sp (by simp) fun p hp => ?_
  rcases List.mem_cons.mp hp with rfl | hp
  · exact h
  · exact hl p hp
theorem split_head (w t : Str) (h : 32 ∉ TL.tl w) : splitL (w ++ Str.ofString " " ++ t) (Str.ofString " ") = w :: splitL t (Str.ofString " ") := by
  unfold splitL
  rw [TL.tl_append, TL.tl_append, List.append_assoc, tl_sp, TL.spl_part1 h, List.nil_append, List.map_cons, DL.ofL_tl]
theorem spl_ne (S : List Nat) : ∀ (k : Nat) (acc l : List Nat), TL.spl S k acc l ≠ []
  | 0, acc, [] => by unfold TL.spl; simp
  | k + 1, acc, [] => by unfold TL.spl; simp
  | 0, acc, c :: r => by
    unfold TL.spl
    split
    · simp
    · exact spl_ne S 0 _ r
  | k + 1, acc, c :: r => by unfold TL.spl; exact spl_ne S k acc r
theorem split_pos (t y : Str) : 1 ≤ (splitL t y).length := by
  unfold splitL
  rw [List.length_map]
  exact List.length_pos_iff.mpr (spl_ne _ _ _ _)
theorem num_tl (n : Nat) : TL.tl (num (n : Int)) = TL.numL n := TL.tl_num n
theorem num_of {k : Int} (h : 0 ≤ k) : TL.tl (num k) = TL.numL k.toNat := by
  obtain ⟨n, rfl⟩ : ∃ n : Nat, k = n := ⟨k.toNat, by omega⟩
  exact num_tl n
theorem numL_head : ∀ n : Nat, 1 ≤ n → ∃ c r, TL.numL n = c :: r ∧ 49 ≤ c := by
  intro n
  induction n using Nat.strongRecOn with
  | _ n ih =>
    intro hn
    by_cases h : n < 10
    · exact ⟨48 + n, [], TL.numL_lt h, by omega⟩
    · obtain ⟨c, r, e, h1⟩ := ih (n / 10) (by omega) (by omega)
      exact ⟨c, r ++ [48 + n % 10], by rw [TL.numL_step (by omega), e]; rfl, h1⟩
theorem tl_neg (n : Nat) : TL.tl (num (Int.negSucc n)) = 45 :: TL.numL (n + 1) := by
  rw [num_neg, TL.tl_append, num_tl]
  rfl
theorem num_codes (k : Int) : ∀ c ∈ TL.tl (num k), c = 45 ∨ (48 ≤ c ∧ c ≤ 57) := fun c hc => by
  cases k with
  | ofNat n =>
    rw [show Int.ofNat n = (n : Int) from rfl, num_tl] at hc
    exact .inr (TL.numL_digits n c hc)
  | negSucc n =>
    rw [tl_neg] at hc
    rcases List.mem_cons.mp hc with rfl | hc
    · exact .inl rfl
    · exact .inr (TL.numL_digits _ c hc)
theorem num_not (k : Int) {s : Nat} (h : s ≠ 45) (h2 : s < 48 ∨ 57 < s) : s ∉ TL.tl (num k) := fun hc => by
  rcases num_codes k s hc with h3 | h3 <;> omega
theorem num_pos_not {k : Int} (h0 : 0 ≤ k) {s : Nat} (h2 : s < 48 ∨ 57 < s) : s ∉ TL.tl (num k) := fun hc => by
  rw [num_of h0] at hc
  have := TL.numL_digits _ s hc
  omega
theorem due_not {e : Int × Int} {s : Nat} (h : s ≠ 45) (h1 : s ≠ 61) (h2 : s < 48 ∨ 57 < s) : s ∉ TL.tl (due e) := fun hc => by
  unfold due at hc
  rw [TL.tl_append, TL.tl_append] at hc
  rcases List.mem_append.mp hc with hc | hc
  · rcases List.mem_append.mp hc with hc | hc
    · exact num_not _ h h2 hc
    · rw [show TL.tl (Str.ofString "=") = [61] by decide +kernel, List.mem_singleton] at hc
      exact h1 hc
  · exact num_not _ h h2 hc
theorem tl_fig : TL.tl (Str.ofString "0123456789") = [48, 49, 50, 51, 52, 53, 54, 55, 56, 57] := by decide +kernel
theorem str1 {c : Nat} {w : Str} {d : Nat} (h : TL.tl w = [d]) : (⟨#[c]⟩ : Str) = w ↔ c = d := by
  constructor
  · intro e
    have : TL.tl (⟨#[c]⟩ : Str) = TL.tl w := by rw [e]
    rw [h] at this
    exact (List.cons.inj this).1
  · intro e
    refine TL.ext_tl ?_
    rw [h, e]
theorem tl0 : TL.tl (Str.ofString "0") = [48] := by decide +kernel
theorem numL_len60 {n : Nat} (h : n < 10 ^ 60) : (TL.numL n).length ≤ 60 := TL.numL_len (by decide) h
theorem at_code {T : Str} {k c : Nat} (h : (TL.tl T)[k]? = some c) (hT : T.length ≤ 16000000) : dIxA (.str T) (.int (k : Int)) = .ok (.str ⟨#[c]⟩) := by
  show grd (small T.length) (match L2.atI T.cps.toList (k : Int) with | some c => R.ok (D.str ⟨#[c]⟩) | none => .bad) = _
  rw [sm (by omega), L2.atI_nat h]
  rfl
theorem tl_m : TL.tl (Str.ofString "-") = [45] := by decide +kernel
theorem tl_m0 : TL.tl (Str.ofString "-0") = [45, 48] := by decide +kernel
theorem cut_tl (T : Str) (lo hi : Option Int) : TL.tl (L2.cutS T lo hi) = cutD (TL.tl T) lo hi := by
  unfold L2.cutS cutD
  rw [TL.len_tl]
theorem tl_eq : TL.tl (Str.ofString "=") = [61] := by decide +kernel
inductive Bal : List Nat → Prop
  | nil : Bal []
  | ch {c : Nat} {l : List Nat} : c ≠ 40 → c ≠ 41 → Bal l → Bal (c :: l)
  | br {a b : List Nat} : Bal a → Bal b → Bal (40 :: (a ++ 41 :: b))
theorem Bal.app {a b : List Nat} (h : Bal a) (h2 : Bal b) : Bal (a ++ b) := by
  induction h with
  | nil => exact h2
  | ch h3 h4 _ ih => exact .ch h3 h4 ih
  | br h3 _ _ ih =>
    rw [List.cons_append, List.append_assoc, List.cons_append]
    exact .br h3 ih
theorem Bal.of : ∀ {l : List Nat}, (∀ c ∈ l, c ≠ 40 ∧ c ≠ 41) → Bal l
  | [], _ => .nil
  | c :: l, h => .ch (h c List.mem_cons_self).1 (h c List.mem_cons_self).2 (Bal.of fun d hd => h d (List.mem_cons_of_mem _ hd))
theorem cat_codes (P : Nat → Prop) (h0 : P 32) : ∀ (l : List Str) (t : Str), (∀ c ∈ TL.tl t, P c) → (∀ y ∈ l, ∀ c ∈ TL.tl y, P c) → ∀ c ∈ TL.tl (cat t l), P c
  | [], t, h1, _, c, hc => h1 c hc
  | y :: l, t, h1, h2, c, hc => by
    refine cat_codes P h0 l (t ++ Str.ofString " " ++ y) (fun c hc => ?_) (fun z hz => h2 z (List.mem_cons_of_mem _ hz)) c hc
    rw [TL.tl_append, TL.tl_append, tl_sp] at hc
    rcases List.mem_append.mp hc with hc | hc
    · rcases List.mem_append.mp hc with hc | hc
      · exact h1 c hc
      · rw [List.mem_singleton.mp hc]; exact h0
    · exact h2 y List.mem_cons_self c hc
theorem nb_num (k : Int) : ∀ c ∈ TL.tl (num k), c ≠ 40 ∧ c ≠ 41 := fun c hc => by
  rcases num_codes k c hc with h | h <;> omega
theorem nb_due (e : Int × Int) : ∀ c ∈ TL.tl (due e), c ≠ 40 ∧ c ≠ 41 := fun c hc => by
  unfold due at hc
  rw [TL.tl_append, TL.tl_append, tl_eq] at hc
  rcases List.mem_append.mp hc with hc | hc
  · rcases List.mem_append.mp hc with hc | hc
    · exact nb_num _ c hc
    · rw [List.mem_singleton.mp hc]; omega
  · exact nb_num _ c hc
theorem tl_lp : TL.tl (Str.ofString "(") = [40] := by decide +kernel
theorem tl_rp : TL.tl (Str.ofString ")") = [41] := by decide +kernel
theorem tl_sl : TL.tl (Str.ofString "/") = [47] := by decide +kernel
theorem tl_tie : TL.tl (Str.ofString "tie ") = [116, 105, 101, 32] := by decide +kernel
theorem tl_short : TL.tl (Str.ofString "short") = [115, 104, 111, 114, 116] := by decide +kernel
theorem tl_dear : TL.tl (Str.ofString "dear") = [100, 101, 97, 114] := by decide +kernel
theorem tl_split : TL.tl (Str.ofString "split ") = [115, 112, 108, 105, 116, 32] := by decide +kernel
theorem tl_split0 : TL.tl (Str.ofString "split") = [115, 112, 108, 105, 116] := by decide +kernel
theorem tl_inB (p : Pp) : TL.tl (inB p) = 40 :: (TL.tl (tx p) ++ [41]) := by
  unfold inB
  rw [TL.tl_append, TL.tl_append, tl_lp, tl_rp]; rfl
theorem tl_join0 : ∀ l : List Str, TL.tl (Str.join (Str.ofString "") l) = (l.map TL.tl).flatten
  | [] => rfl
  | [x] => by show TL.tl x = _; simp
  | x :: y :: l => by
    show TL.tl (x ++ Str.ofString "" ++ Str.join (Str.ofString "") (y :: l)) = _
    rw [TL.tl_append, TL.tl_append, show TL.tl (Str.ofString "") = [] by decide +kernel, List.append_nil, tl_join0 (y :: l)]
    rfl
inductive Rd : Nat → Pp → Prop
  | tie {m : Nat} {k : Int} : 0 ≤ k → k < 10 ^ 60 → Rd m (.tie k)
  | short {m : Nat} {qs : List Int} : qs.length ≤ 100 → (∀ q ∈ qs, 0 ≤ q ∧ q < 10 ^ 60) → Rd m (.short qs)
  | dear {m : Nat} {pr : List Int} {td : List (Int × Int)} : pr.length ≤ 100 → td.length ≤ 100 → (∀ q ∈ pr, q.natAbs < 10 ^ 60) → (∀ e ∈ td, (0 ≤ e.1 ∧ e.1 < 10 ^ 60) ∧ 0 ≤ e.2 ∧ e.2 < 10 ^ 60) → Rd m (.dear pr td)
  | split {m : Nat} {ds : List Pp} : 1 ≤ ds.length → ds.length ≤ 100 → (∀ k (h : k < ds.length), Rd m ds[k]) → Rd (m + 1) (.split ds)
theorem Rd.tk {m : Nat} {p : Pp} (h : Rd m p) : Tk m p := by
  induction h with
  | tie h1 h2 => exact .tie (by omega)
  | short h1 h2 => exact .short h1 fun q hq => by have := h2 q hq; omega
  | dear h1 h2 h3 h4 => exact .dear h1 h2 (fun q hq => by have := h3 q hq; omega) fun e he => by have := h4 e he; omega
  | split h1 h2 _ ih => exact .split h2 ih
theorem Rd.mono {m : Nat} {p : Pp} (h : Rd m p) : ∀ {n : Nat}, m ≤ n → Rd n p := by
  induction h with
  | tie h1 h2 => exact fun _ => .tie h1 h2
  | short h1 h2 => exact fun _ => .short h1 h2
  | dear h1 h2 h3 h4 => exact fun _ => .dear h1 h2 h3 h4
  | @split m ds h1 h2 _ ih =>
    intro n hn
    obtain ⟨n, rfl⟩ : ∃ n', n = n' + 1 := ⟨n - 1, by omega⟩
    exact .split h1 h2 fun k hk => ih k hk (by omega)
theorem flat_bal : ∀ {ds : List Pp}, (∀ p ∈ ds, Bal (TL.tl (tx p))) → Bal ((ds.map inB).map TL.tl).flatten
  | [], _ => .nil
  | p :: ds, h => by
    rw [List.map_cons, List.map_cons, List.flatten_cons, tl_inB, List.cons_append, List.append_assoc]
    exact .br (h p List.mem_cons_self) (flat_bal fun q hq => h q (List.mem_cons_of_mem _ hq))
theorem Rd.bal {m : Nat} {p : Pp} (h : Rd m p) : Bal (TL.tl (tx p)) := by
  induction h with
  | @tie m k h1 h2 =>
    refine Bal.of fun c hc => ?_
    rw [show tx (.tie k) = Str.ofString "tie " ++ num k from rfl, TL.tl_append, tl_tie] at hc
    rcases List.mem_append.mp hc with hc | hc
    · simp only [List.mem_cons, List.not_mem_nil, or_false] at hc
      omega
    · exact nb_num _ c hc
  | @short m qs h1 h2 =>
    refine Bal.of (cat_codes (fun c => c ≠ 40 ∧ c ≠ 41) (by omega) (qs.map num) (Str.ofString "short") (fun c hc => ?_) fun y hy => ?_)
    · rw [tl_short] at hc
      simp only [List.mem_cons, List.not_mem_nil, or_false] at hc
      omega
    · obtain ⟨q, _, rfl⟩ := List.mem_map.mp hy
      exact nb_num q
  | @dear m pr td h1 h2 h3 h4 =>
    refine Bal.of (cat_codes (fun c => c ≠ 40 ∧ c ≠ 41) (by omega) (pr.map num ++ Str.ofString "/" :: td.map due) (Str.ofString "dear") (fun c hc => ?_) fun y hy => ?_)
    · rw [tl_dear] at hc
      simp only [List.mem_cons, List.not_mem_nil, or_false] at hc
      omega
    · rcases List.mem_append.mp hy with hy | hy
      · obtain ⟨q, _, rfl⟩ := List.mem_map.mp hy
        exact nb_num q
      · rcases List.mem_cons.mp hy with rfl | hy
        · rw [tl_sl]
          intro c hc
          rw [List.mem_singleton.mp hc]; omega
        · obtain ⟨q, _, rfl⟩ := List.mem_map.mp hy
          exact nb_due q
  | @split m ds h1 h2 _ ih =>
    rw [tx_split, TL.tl_append, tl_split, tl_join0]
    refine Bal.app (Bal.of fun c hc => ?_) (flat_bal fun p hp => ?_)
    · simp only [List.mem_cons, List.not_mem_nil, or_false] at hc
      omega
    · obtain ⟨k, hk, rfl⟩ := List.getElem_of_mem hp
      exact ih k hk
theorem Rd.codes {m : Nat} {p : Pp} (h : Rd m p) : ∀ c ∈ TL.tl (tx p), c < 256 := by
  have hnum : ∀ k : Int, ∀ c ∈ TL.tl (num k), c < 256 := fun k c hc => by
    rcases num_codes k c hc with h | h <;> omega
  have hdue : ∀ e : Int × Int, ∀ c ∈ TL.tl (due e), c < 256 := fun e c hc => by
    unfold due at hc
    rw [TL.tl_append, TL.tl_append, tl_eq] at hc
    rcases List.mem_append.mp hc with hc | hc
    · rcases List.mem_append.mp hc with hc | hc
      · exact hnum _ c hc
      · rw [List.mem_singleton.mp hc]; omega
    · exact hnum _ c hc
  induction h with
  | @tie m k h1 h2 =>
    intro c hc
    rw [show tx (.tie k) = Str.ofString "tie " ++ num k from rfl, TL.tl_append, tl_tie] at hc
    rcases List.mem_append.mp hc with hc | hc
    · simp only [List.mem_cons, List.not_mem_nil, or_false] at hc
      omega
    · exact hnum _ c hc
  | @short m qs h1 h2 =>
    refine cat_codes (fun c => c < 256) (by omega) (qs.map num) (Str.ofString "short") (fun c hc => ?_) fun y hy => ?_
    · rw [tl_short] at hc
      simp only [List.mem_cons, List.not_mem_nil, or_false] at hc
      omega
    · obtain ⟨q, _, rfl⟩ := List.mem_map.mp hy
      exact hnum q
  | @dear m pr td h1 h2 h3 h4 =>
    refine cat_codes (fun c => c < 256) (by omega) (pr.map num ++ Str.ofString "/" :: td.map due) (Str.ofString "dear") (fun c hc => ?_) fun y hy => ?_
    · rw [tl_dear] at hc
      simp only [List.mem_cons, List.not_mem_nil, or_false] at hc
      omega
    · rcases List.mem_append.mp hy with hy | hy
      · obtain ⟨q, _, rfl⟩ := List.mem_map.mp hy
        exact hnum q
      · rcases List.mem_cons.mp hy with rfl | hy
        · rw [tl_sl]
          intro c hc
          rw [List.mem_singleton.mp hc]; omega
        · obtain ⟨q, _, rfl⟩ := List.mem_map.mp hy
          exact hdue q
  | @split m ds h1 h2 _ ih =>
    intro c hc
    rw [tx_split, TL.tl_append, tl_split, tl_join0] at hc
    rcases List.mem_append.mp hc with hc | hc
    · simp only [List.mem_cons, List.not_mem_nil, or_false] at hc
      omega
    · obtain ⟨l, hl, hc⟩ := List.mem_flatten.mp hc
      obtain ⟨y, hy, rfl⟩ := List.mem_map.mp hl
      obtain ⟨p, hp, rfl⟩ := List.mem_map.mp hy
      obtain ⟨k, hk, rfl⟩ := List.getElem_of_mem hp
      rw [tl_inB] at hc
      rcases List.mem_cons.mp hc with rfl | hc
      · omega
      · rcases List.mem_append.mp hc with hc | hc
        · exact ih k hk c hc
        · rw [List.mem_singleton.mp hc]; omega
theorem nb_str {n : Nat} {x : Str} (h : ∀ c ∈ TL.tl x, c < 256) : NB n (.str x) := .str _ (by
  show x.cps.all (· < 0x110000) = true
  rw [Array.all_eq_true']
  intro c hc
  have := h c (Array.mem_toList_iff.mpr hc)
  exact decide_eq_true (by omega))
abbrev Fk : Nat → D := fun k => D.int (0 + (k : Int))
theorem at_code' {T : Str} {k c : Nat} (h : (TL.tl T)[k]? = some c) (hT : T.length ≤ 16000000) : dIxA (.str T) (.int (0 + (k : Int))) = .ok (.str ⟨#[c]⟩) := by
  rw [Int.zero_add]; exact at_code h hT
theorem run_step {gb : En → R Fl} {k : Nat} {rest : List D} {ρ ρ' : En} (h : gb (ρ.set 4 (some (false, Fk k))) = .ok (.next ρ')) : loopD (gSet 4) gb (Fk k :: rest) ρ = loopD (gSet 4) gb rest ρ' := by
  unfold loopD
  show (match some (ρ.set 4 (some (false, Fk k))) with | none => R.bad | some ρ1 => bd (gb ρ1) _) = _
  dsimp only
  rw [h]
  cases rest <;> rfl
def seg (k n : Nat) : List D := (List.range' k n).map Fk
theorem seg_cons (k n : Nat) : seg k (n + 1) = Fk k :: seg (k + 1) n := rfl
theorem w1 : Str.ofString "tie" ≠ Str.ofString "split" := by decide +kernel
theorem w2 : Str.ofString "short" ≠ Str.ofString "split" := by decide +kernel
theorem w3 : Str.ofString "short" ≠ Str.ofString "tie" := by decide +kernel
theorem w4 : Str.ofString "dear" ≠ Str.ofString "split" := by decide +kernel
theorem w5 : Str.ofString "dear" ≠ Str.ofString "tie" := by decide +kernel
theorem w6 : Str.ofString "dear" ≠ Str.ofString "short" := by decide +kernel
theorem e_tie : Str.ofString "tie " = Str.ofString "tie" ++ Str.ofString " " := by decide +kernel
theorem e_split : Str.ofString "split " = Str.ofString "split" ++ Str.ofString " " := by decide +kernel
theorem b_tie : 32 ∉ TL.tl (Str.ofString "tie") := by decide +kernel
theorem b_split : 32 ∉ TL.tl (Str.ofString "split") := by decide +kernel
theorem b_short : 32 ∉ TL.tl (Str.ofString "short") := by decide +kernel
theorem b_dear : 32 ∉ TL.tl (Str.ofString "dear") := by decide +kernel
theorem b_sl : 32 ∉ TL.tl (Str.ofString "/") := by decide +kernel
theorem num_b (k : Int) : 32 ∉ TL.tl (num k) := num_not k (by omega) (.inl (by omega))
theorem due_b (e : Int × Int) : 32 ∉ TL.tl (due e) := due_not (by omega) (by omega) (.inl (by omega))
theorem num_sl (k : Int) : num k ≠ Str.ofString "/" := fun e => by
  have : 47 ∈ TL.tl (num k) := by rw [e, tl_sl]; exact List.mem_cons_self
  exact num_not k (by omega) (.inl (by omega)) this
theorem tx_tie (k : Int) : tx (.tie k) = Str.ofString "tie " ++ num k := rfl
theorem tx_short (qs : List Int) : tx (.short qs) = cat (Str.ofString "short") (qs.map num) := rfl
theorem tx_dear (pr : List Int) (td : List (Int × Int)) : tx (.dear pr td) = cat (Str.ofString "dear") (pr.map num ++ Str.ofString "/" :: td.map due) := rfl
theorem whole_int (k : Int) : ∃ o, Fn.law_whole_9e39 [.int k] = .ok (o, .bl true) := by
  unfold Fn.law_whole_9e39; rw [DL.ap_body (by rfl)]; unfold Fn.law_whole_9e39_g
  walk_at "dl"
  exact ⟨_, rfl⟩
theorem same_eq : ∀ (m : Nat) (p : Pp), Rd m p → ∀ n, m < n → ∃ o, Fn.law_same_b939 n [dP p, dP p] = .ok (o, .bl true) := by
  intro m p M
  induction M with
  | @tie m k h1 h2 =>
    intro n hn
    obtain ⟨n, rfl⟩ : ∃ n', n = n' + 1 := ⟨n - 1, by omega⟩
    have hgo : ∀ ds, Fn.law_same_b939 (n + 1) ds = DL.bodyN 2 4 (Fn.law_same_b939_g (Fn.law_same_b939 n)) ds := fun _ => rfl
    rw [hgo, DL.ap_body (by rfl)]; unfold Fn.law_same_b939_g
    rw [show dP (.tie k) = .tup [.str (Str.ofString "tie"), .int k] from rfl]
    walk_at "dl"
    obtain ⟨o, e⟩ := whole_int k
    rw [DL.callO_flat e rfl]
    walk_at "dl"
    exact ⟨_, rfl⟩
  | @short m qs h1 h2 =>
    intro n hn
    obtain ⟨n, rfl⟩ : ∃ n', n = n' + 1 := ⟨n - 1, by omega⟩
    have hgo : ∀ ds, Fn.law_same_b939 (n + 1) ds = DL.bodyN 2 4 (Fn.law_same_b939_g (Fn.law_same_b939 n)) ds := fun _ => rfl
    rw [hgo, DL.ap_body (by rfl)]; unfold Fn.law_same_b939_g
    rw [show dP (.short qs) = .tup [.str (Str.ofString "short"), .lst (qs.map .int)] from rfl]
    walk_at "dl"
    rw [decide_eq_false w3]
    walk_at "dl"
    rw [DL.inR_small (by omega) (by omega)]
    walk_at "dl"
    rw [Int.toNat_natCast]
    obtain ⟨ρ', g1, z, g2⟩ := DL.loop_at (g := gSet 2) (gb := Fn.law_same_b939_b1 (Fn.law_same_b939 n)) (fun i : Nat => D.int (0 + (i : Int))) (List.range qs.length) (fun i ρ => ∃ z : DL.Slot, ρ = [some (false, D.tup [D.str (Str.ofString "short"), D.lst (qs.map D.int)]), some (false, D.tup [D.str (Str.ofString "short"), D.lst (qs.map D.int)]), z, none]) [some (false, D.tup [D.str (Str.ofString "short"), D.lst (qs.map D.int)]), some (false, D.tup [D.str (Str.ofString "short"), D.lst (qs.map D.int)]), none, none] ⟨none, rfl⟩ (fun i a ρ ha ⟨z, hρ⟩ => by
      subst hρ
      have hi := DL.at_lt ha
      rw [List.length_range] at hi
      rw [List.getElem?_eq_getElem (by rw [List.length_range]; exact hi), List.getElem_range] at ha
      cases ha
      refine ⟨_, rfl, ?_⟩
      unfold Fn.law_same_b939_b1
      walk_at "dl"
      rw [decide_eq_false w2]
      walk_at "dl"
      rw [decide_eq_false w2]
      walk_at "dl"
      rw [DL.ixA_ints (by omega) (by omega)]
      walk_at "dl"
      obtain ⟨o, e⟩ := whole_int (qs.getD (0 + (i : Int)).toNat 0)
      rw [DL.callO_flat e rfl]
      walk_at "dl"
      rw [DL.ixA_ints (by omega) (by omega)]
      walk_at "dl"
      exact ⟨_, rfl, _, rfl⟩)
    rw [g1]
    subst g2
    walk_at "dl"
    rw [decide_eq_false w6.symm]
    walk_at "dl"
    exact ⟨_, rfl⟩
  | @dear m pr td h1 h2 h3 h4 =>
    intro n hn
    obtain ⟨n, rfl⟩ : ∃ n', n = n' + 1 := ⟨n - 1, by omega⟩
    have hgo : ∀ ds, Fn.law_same_b939 (n + 1) ds = DL.bodyN 2 4 (Fn.law_same_b939_g (Fn.law_same_b939 n)) ds := fun _ => rfl
    rw [hgo, DL.ap_body (by rfl)]; unfold Fn.law_same_b939_g
    rw [show dP (.dear pr td) = .tup [.str (Str.ofString "dear"), .lst (pr.map .int), .lst (td.map prD)] from rfl]
    walk_at "dl"
    rw [decide_eq_false w5]
    walk_at "dl"
    rw [DL.inR_small (by omega) (by omega)]
    walk_at "dl"
    rw [Int.toNat_natCast]
    obtain ⟨ρ', g1, z, g2⟩ := DL.loop_at (g := gSet 2) (gb := Fn.law_same_b939_b1 (Fn.law_same_b939 n)) (fun i : Nat => D.int (0 + (i : Int))) (List.range pr.length) (fun i ρ => ∃ z : DL.Slot, ρ = [some (false, D.tup [D.str (Str.ofString "dear"), D.lst (pr.map D.int), D.lst (td.map prD)]), some (false, D.tup [D.str (Str.ofString "dear"), D.lst (pr.map D.int), D.lst (td.map prD)]), z, none]) [some (false, D.tup [D.str (Str.ofString "dear"), D.lst (pr.map D.int), D.lst (td.map prD)]), some (false, D.tup [D.str (Str.ofString "dear"), D.lst (pr.map D.int), D.lst (td.map prD)]), none, none] ⟨none, rfl⟩ (fun i a ρ ha ⟨z, hρ⟩ => by
      subst hρ
      have hi := DL.at_lt ha
      rw [List.length_range] at hi
      rw [List.getElem?_eq_getElem (by rw [List.length_range]; exact hi), List.getElem_range] at ha
      cases ha
      refine ⟨_, rfl, ?_⟩
      unfold Fn.law_same_b939_b1
      walk_at "dl"
      rw [decide_eq_false w4]
      walk_at "dl"
      rw [decide_eq_false w4]
      walk_at "dl"
      rw [DL.ixA_ints (by omega) (by omega)]
      walk_at "dl"
      obtain ⟨o, e⟩ := whole_int (pr.getD (0 + (i : Int)).toNat 0)
      rw [DL.callO_flat e rfl]
      walk_at "dl"
      rw [DL.ixA_ints (by omega) (by omega)]
      walk_at "dl"
      exact ⟨_, rfl, _, rfl⟩)
    rw [g1]
    subst g2
    walk_at "dl"
    obtain ⟨ρ', g1, z3, g2⟩ := DL.loop_at (g := gSet 3) (gb := Fn.law_same_b939_b2 (Fn.law_same_b939 n)) prD td (fun i ρ => ∃ z3 : DL.Slot, ρ = [some (false, D.tup [D.str (Str.ofString "dear"), D.lst (pr.map D.int), D.lst (td.map prD)]), some (false, D.tup [D.str (Str.ofString "dear"), D.lst (pr.map D.int), D.lst (td.map prD)]), z, z3]) [some (false, D.tup [D.str (Str.ofString "dear"), D.lst (pr.map D.int), D.lst (td.map prD)]), some (false, D.tup [D.str (Str.ofString "dear"), D.lst (pr.map D.int), D.lst (td.map prD)]), z, none] ⟨none, rfl⟩ (fun i a ρ ha ⟨z3, hρ⟩ => by
      subst hρ
      refine ⟨_, rfl, ?_⟩
      unfold Fn.law_same_b939_b2 prD
      walk_at "dl"
      rw [show decide (((2 : Nat) : Int) = 2) = true from rfl]
      walk_at "dl"
      obtain ⟨o, e⟩ := whole_int a.1
      obtain ⟨o2, e2⟩ := whole_int a.2
      rw [DL.callO_flat e rfl]
      walk_at "dl"
      rw [DL.callO_flat e2 rfl]
      walk_at "dl"
      exact ⟨_, rfl, _, rfl⟩)
    rw [g1]
    subst g2
    walk_at "dl"
    rw [eq_self (n := 2) (.lst fun d hd => by
      obtain ⟨e, _, rfl⟩ := List.mem_map.mp hd
      refine .tup fun d hd => ?_
      rcases List.mem_cons.mp hd with rfl | hd
      · exact .int _
      · rw [List.mem_singleton.mp hd]; exact .int _) (by omega)]
    walk_at "dl"
    exact ⟨_, rfl⟩
  | @split m ds h1 h2 h3 ih =>
    intro n hn
    obtain ⟨n, rfl⟩ : ∃ n', n = n' + 1 := ⟨n - 1, by omega⟩
    have hgo : ∀ ds, Fn.law_same_b939 (n + 1) ds = DL.bodyN 2 4 (Fn.law_same_b939_g (Fn.law_same_b939 n)) ds := fun _ => rfl
    rw [hgo, DL.ap_body (by rfl)]; unfold Fn.law_same_b939_g
    rw [dP_split]
    walk_at "dl"
    rw [decide_eq_false w1.symm]
    walk_at "dl"
    rw [DL.inR_small (by omega) (by omega)]
    walk_at "dl"
    rw [Int.toNat_natCast]
    obtain ⟨ρ', g1, z, g2⟩ := DL.loop_at (g := gSet 2) (gb := Fn.law_same_b939_b1 (Fn.law_same_b939 n)) (fun i : Nat => D.int (0 + (i : Int))) (List.range ds.length) (fun i ρ => ∃ z : DL.Slot, ρ = [some (false, D.tup [D.str (Str.ofString "split"), D.lst (ds.map dP)]), some (false, D.tup [D.str (Str.ofString "split"), D.lst (ds.map dP)]), z, none]) [some (false, D.tup [D.str (Str.ofString "split"), D.lst (ds.map dP)]), some (false, D.tup [D.str (Str.ofString "split"), D.lst (ds.map dP)]), none, none] ⟨none, rfl⟩ (fun i a ρ ha ⟨z, hρ⟩ => by
      subst hρ
      have hi := DL.at_lt ha
      rw [List.length_range] at hi
      rw [List.getElem?_eq_getElem (by rw [List.length_range]; exact hi), List.getElem_range] at ha
      cases ha
      refine ⟨_, rfl, ?_⟩
      unfold Fn.law_same_b939_b1
      walk_at "dl"
      rw [DL.ixA_lst (x := dP ds[i]) (by omega) (by rw [show (0 + (i : Int)).toNat = i by omega, List.getElem?_map, List.getElem?_eq_getElem hi]; rfl)]
      walk_at "dl"
      obtain ⟨o, e⟩ := ih i hi n (by omega)
      rw [DL.callO_flat e rfl]
      walk_at "dl"
      exact ⟨_, rfl, _, rfl⟩)
    rw [g1]
    subst g2
    walk_at "dl"
    have w7 : ¬ Str.ofString "split" = Str.ofString "dear" := by decide +kernel
    rw [decide_eq_false w7]
    walk_at "dl"
    exact ⟨_, rfl⟩
end Rt
namespace Tv
open PySem DL Ti De Gw Bi Lc Be Tx En Rt
local macro_rules | `(tactic| walk_at "dq") => `(tactic| repeat (simp only [DL.ap_lcX]; walk_at "dl"))
abbrev NT : Str := Str.ofString "NoText"
def Tells (r : R (Bool × D)) (v : Option D) : Prop := (∃ d o, v = some d ∧ r = .ok (o, d)) ∨ (v = none ∧ r = .err NT)
theorem callErr {f : List D → R (Bool × D)} {ds : List D} {c : Str} (h : f ds = .err c) : callE f ds = .err c := by unfold callE; rw [h]; rfl
theorem callErrO {f : List D → R (Bool × D)} {ds : List D} {c : Str} (h : f ds = .err c) : callO f ds = .err c := by unfold callO; rw [h]; rfl
def allS (F : Str → Option D) : List Str → Option (List D)
  | [] => some []
  | a :: l => match F a, allS F l with
    | some d, some ds => some (d :: ds)
    | _, _ => none
theorem lcX_all {i : Nat} {f : En → R D} {ρ : En} (F : Str → Option D) : ∀ (l : List Str), (∀ a ∈ l, (∃ d, F a = some d ∧ f ((wipeR ρ [i]).set i (some (false, .str a))) = .ok d) ∨ (F a = none ∧ f ((wipeR ρ [i]).set i (some (false, .str a))) = .err NT)) →
    (∃ ds, allS F l = some ds ∧ lcXGo (gSet i) f (wipeR ρ [i]) (l.map .str) = .ok ds) ∨ (allS F l = none ∧ lcXGo (gSet i) f (wipeR ρ [i]) (l.map .str) = .err NT)
  | [], _ => .inl ⟨[], rfl, rfl⟩
  | a :: l, h => by
    rw [List.map_cons]
    unfold lcXGo allS
    show (∃ ds, _ ∧ bd (f ((wipeR ρ [i]).set i (some (false, .str a)))) _ = _) ∨ (_ ∧ bd (f ((wipeR ρ [i]).set i (some (false, .str a)))) _ = _)
    rcases h a List.mem_cons_self with ⟨d, e1, e2⟩ | ⟨e1, e2⟩
    · rw [e1, e2, bd_ok]
      rcases lcX_all F l fun b hb => h b (List.mem_cons_of_mem _ hb) with ⟨ds, g1, g2⟩ | ⟨g1, g2⟩
      · rw [g1, g2]
        exact .inl ⟨_, rfl, rfl⟩
      · rw [g1, g2]
        exact .inr ⟨rfl, rfl⟩
    · rw [e1, e2]
      exact .inr ⟨rfl, rfl⟩
theorem lcXK16 {own : List Nat} {g : D → En → Option En} {f : En → R D} {ρ : En} {ds zs : List D} (hl : ds.length ≤ 16000001) (h : lcXGo g f (wipeR ρ own) ds = .ok zs) : lcXK (.ok ds) own g f ρ = .ok (.lst zs) := by
  unfold lcXK
  rw [bd_ok, show decide (ds.length < sizeLine) = true from decide_eq_true (Nat.lt_of_le_of_lt hl (by decide)), grd_t, h]
  rfl
theorem lcXK16e {own : List Nat} {g : D → En → Option En} {f : En → R D} {ρ : En} {ds : List D} {c : Str} (hl : ds.length ≤ 16000001) (h : lcXGo g f (wipeR ρ own) ds = .err c) : lcXK (.ok ds) own g f ρ = .err c := by
  unfold lcXK
  rw [bd_ok, show decide (ds.length < sizeLine) = true from decide_eq_true (Nat.lt_of_le_of_lt hl (by decide)), grd_t, h]
  rfl
def digB (c : Nat) : Bool := decide (48 ≤ c) && decide (c ≤ 57)
def numV (w : Str) : Option Int :=
  if (decide (1 ≤ (TL.tl w).length) && decide ((TL.tl w).length ≤ 60) && !(decide ((TL.tl w).headD 0 = 48) && decide (1 < (TL.tl w).length)) && (TL.tl w).all digB) = true then some ((NumText.digitsVal (TL.tl w) : Nat) : Int) else none
theorem fig_in2 (c : Nat) : dIn true (.str ⟨#[c]⟩) (.str (Str.ofString "0123456789")) = .ok (.bl (!digB c)) := by
  show R.ok (D.bl (xorB true (decide (c ∈ TL.tl (Str.ofString "0123456789"))))) = _
  rw [tl_fig]
  have : decide (c ∈ [48, 49, 50, 51, 52, 53, 54, 55, 56, 57]) = digB c := by
    unfold digB
    rw [Bool.eq_iff_iff, decide_eq_true_eq, Bool.and_eq_true, decide_eq_true_eq, decide_eq_true_eq]
    simp only [List.mem_cons, List.not_mem_nil, or_false]
    omega
  rw [this]
  rfl
theorem number_any (w : Str) (hT : w.length ≤ 16000000) : Tells (Fn.number_of_7739 [.str w]) ((numV w).map .int) := by
  have hl : w.length = (TL.tl w).length := rfl
  unfold Tells numV
  unfold Fn.number_of_7739; rw [DL.ap_bodyD (by rfl)]; unfold Fn.number_of_7739_g
  walk_at "dl"
  rw [sm (by omega)]
  walk_at "dl"
  by_cases h1 : 1 ≤ (TL.tl w).length
  case neg =>
    refine .inr ⟨?_, ?_⟩
    · rw [decide_eq_false h1]
      rfl
    · rw [decide_eq_false (show ¬ (1 : Int) ≤ (w.length : Int) by omega)]
      walk_at "dl"
  rw [decide_eq_true h1, decide_eq_true (show (1 : Int) ≤ (w.length : Int) by omega)]
  walk_at "dl"
  by_cases h60 : (TL.tl w).length ≤ 60
  case neg =>
    refine .inr ⟨?_, ?_⟩
    · rw [decide_eq_false h60]
      rfl
    · rw [decide_eq_false (show ¬ (w.length : Int) ≤ 60 by omega)]
      walk_at "dl"
  rw [decide_eq_true h60, decide_eq_true (show (w.length : Int) ≤ 60 by omega)]
  walk_at "dl"
  obtain ⟨c, r, hc⟩ : ∃ c r, TL.tl w = c :: r := by
    cases e : TL.tl w with
    | nil => rw [e] at h1; exact absurd h1 (by decide)
    | cons c r => exact ⟨c, r, rfl⟩
  have hc0 : (TL.tl w)[0]? = some c := by rw [hc]; rfl
  rw [show (0 : Int) = ((0 : Nat) : Int) from rfl, at_code hc0 (by omega)]
  walk_at "dl"
  have hd0 : (TL.tl w).headD 0 = c := by rw [hc]; rfl
  rw [hd0]
  have hgo : ∀ (l : List Nat) (z : DL.Slot), (l.all digB = true ∧ ∃ z', loopD (gSet 1) Fn.number_of_7739_b1 (l.map fun c : Nat => D.str ⟨#[c]⟩) [some (false, .str w), z] = .ok (.next [some (false, .str w), z'])) ∨ (l.all digB = false ∧ loopD (gSet 1) Fn.number_of_7739_b1 (l.map fun c : Nat => D.str ⟨#[c]⟩) [some (false, .str w), z] = .err NT) := by
    intro l
    induction l with
    | nil => intro z; exact .inl ⟨rfl, z, rfl⟩
    | cons c l ih =>
      intro z
      have e : loopD (gSet 1) Fn.number_of_7739_b1 ((c :: l).map fun c : Nat => D.str ⟨#[c]⟩) [some (false, .str w), z] = lp2 (Fn.number_of_7739_b1 [some (false, .str w), some (false, .str ⟨#[c]⟩)]) (gSet 1) Fn.number_of_7739_b1 (l.map fun c : Nat => D.str ⟨#[c]⟩) := rfl
      rw [e, List.all_cons]
      cases hb : digB c with
      | true =>
        have e2 : Fn.number_of_7739_b1 [some (false, .str w), some (false, .str ⟨#[c]⟩)] = .ok (.next [some (false, .str w), some (false, .str ⟨#[c]⟩)]) := by
          unfold Fn.number_of_7739_b1
          walk_at "dl"
          rw [fig_in2, hb]
          walk_at "dl"
        rw [e2, DL.lp2_next, Bool.true_and]
        exact ih _
      | false =>
        have e2 : Fn.number_of_7739_b1 [some (false, .str w), some (false, .str ⟨#[c]⟩)] = .err NT := by
          unfold Fn.number_of_7739_b1
          walk_at "dl"
          rw [fig_in2, hb]
          walk_at "dl"
        rw [e2, Bool.false_and]
        exact .inr ⟨rfl, rfl⟩
  have fin : (∃ d o, (if (TL.tl w).all digB = true then some ((NumText.digitsVal (TL.tl w) : Nat) : Int) else none).map D.int = some d ∧ endD (seqK (loopK (.ok (signs w)) (gSet 1) Fn.number_of_7739_b1 [some (false, .str w), none]) (sRetO (nop (aCons (rd 0) aNil) dIntT))) = .ok (o, d)) ∨ ((if (TL.tl w).all digB = true then some ((NumText.digitsVal (TL.tl w) : Nat) : Int) else none).map D.int = none ∧ endD (seqK (loopK (.ok (signs w)) (gSet 1) Fn.number_of_7739_b1 [some (false, .str w), none]) (sRetO (nop (aCons (rd 0) aNil) dIntT))) = .err NT) := by
    rw [show loopK (.ok (signs w)) (gSet 1) Fn.number_of_7739_b1 [some (false, .str w), none] = loopD (gSet 1) Fn.number_of_7739_b1 ((TL.tl w).map fun c : Nat => D.str ⟨#[c]⟩) [some (false, .str w), none] from rfl]
    rcases hgo (TL.tl w) none with ⟨g1, z', g2⟩ | ⟨g1, g2⟩
    · refine .inl ⟨.int ((NumText.digitsVal (TL.tl w) : Nat) : Int), true, ?_, ?_⟩
      · rw [if_pos g1]; rfl
      · rw [g2]
        walk_at "dl"
        rw [DL.intT_str (DL.isDig_of (by rw [hc]; simp) (fun c hc => by
          have := List.all_eq_true.mp g1 c hc
          unfold digB at this
          rw [Bool.and_eq_true, decide_eq_true_eq, decide_eq_true_eq] at this
          exact this)) (by omega)]
        walk_at "dl"
        rfl
    · refine .inr ⟨?_, ?_⟩
      · rw [g1, if_neg (by decide)]; rfl
      · rw [g2]
        walk_at "dl"
  by_cases h0 : c = 48
  · rw [decide_eq_true ((str1 tl0).mpr h0), decide_eq_true h0]
    walk_at "dl"
    rw [sm (by omega)]
    walk_at "dl"
    by_cases h2 : 1 < (TL.tl w).length
    · refine .inr ⟨?_, ?_⟩
      · rw [decide_eq_true h2]; rfl
      · rw [decide_eq_true (show (1 : Int) < (w.length : Int) by omega)]
        walk_at "dl"
    · rw [decide_eq_false h2, decide_eq_false (show ¬ (1 : Int) < (w.length : Int) by omega)]
      walk_at "dl"
      exact fin
  · rw [decide_eq_false (fun z => h0 ((str1 tl0).mp z)), decide_eq_false h0]
    walk_at "dl"
    exact fin
def priceV (w : Str) : Option Int :=
  if (TL.tl w).take 1 = [45] then (if TL.tl w = [45, 48] then none else (numV (ofL ((TL.tl w).drop 1))).map fun k => -k) else numV w
theorem price_any (w : Str) (hT : w.length ≤ 16000000) : Tells (Fn.price_of_acc9 [.str w]) ((priceV w).map .int) := by
  unfold Tells priceV
  unfold Fn.price_of_acc9; rw [DL.ap_bodyD (by rfl)]; unfold Fn.price_of_acc9_g
  walk_at "dl"
  rw [DL.cut_str, sm (by omega)]
  walk_at "dl"
  have e1 : TL.tl (L2.cutS w none (some 1)) = (TL.tl w).take 1 := by rw [cut_tl, DL.cut_to (by omega)]; rfl
  have e2 : L2.cutS w (some 1) none = ofL ((TL.tl w).drop 1) := TL.ext_tl (by rw [cut_tl, DL.cut_from (by omega)]; rfl)
  by_cases h : (TL.tl w).take 1 = [45]
  case neg =>
    rw [if_neg h, decide_eq_false (show ¬ L2.cutS w none (some 1) = Str.ofString "-" from fun z => h (by rw [← e1, z, tl_m]))]
    walk_at "dl"
    rcases number_any w hT with ⟨d, o, g1, g2⟩ | ⟨g1, g2⟩
    · have hd : isC d = false := by
        cases hn : numV w with
        | none => rw [hn] at g1; cases g1
        | some k => rw [hn] at g1; cases g1; rfl
      rw [DL.callO_flat g2 hd]
      exact .inl ⟨d, _, g1, rfl⟩
    · rw [callErrO g2]
      exact .inr ⟨g1, rfl⟩
  rw [if_pos h, decide_eq_true (show L2.cutS w none (some 1) = Str.ofString "-" from TL.ext_tl (by rw [e1, h, tl_m]))]
  walk_at "dl"
  by_cases h0 : TL.tl w = [45, 48]
  · rw [if_pos h0, decide_eq_true (show w = Str.ofString "-0" from TL.ext_tl (by rw [h0, tl_m0]))]
    walk_at "dl"
    exact .inr ⟨by first | rfl | trivial, by first | rfl | trivial⟩
  rw [if_neg h0, decide_eq_false (show ¬ w = Str.ofString "-0" from fun z => h0 (by rw [z, tl_m0]))]
  walk_at "dl"
  rw [DL.cut_str, sm (by omega), e2]
  walk_at "dl"
  have hl : (ofL ((TL.tl w).drop 1)).length ≤ 16000000 := by
    have : (ofL ((TL.tl w).drop 1)).length = ((TL.tl w).drop 1).length := rfl
    have h2 : (TL.tl w).length = w.length := rfl
    rw [List.length_drop] at this
    omega
  rcases number_any _ hl with ⟨d, o, g1, g2⟩ | ⟨g1, g2⟩
  · cases hn : numV (ofL ((TL.tl w).drop 1)) with
    | none => rw [hn] at g1; cases g1
    | some k =>
      rw [hn] at g1
      cases g1
      rw [DL.callE_of g2]
      walk_at "dl"
      exact .inl ⟨_, _, rfl, rfl⟩
  · cases hn : numV (ofL ((TL.tl w).drop 1)) with
    | none =>
      rw [callErr g2]
      exact .inr ⟨rfl, rfl⟩
    | some k => rw [hn] at g1; cases g1
def dueV (w : Str) : Option (Int × Int) :=
  match numV (partL w (Str.ofString "=")).1, numV (partL w (Str.ofString "=")).2.2 with
  | some a, some b => some (a, b)
  | _, _ => none
theorem par_len (S : List Nat) : ∀ (l acc u v : List Nat), TL.par S acc l = some (u, v) → u.length ≤ acc.length + l.length ∧ v.length ≤ l.length := by
  intro l
  induction l with
  | nil => intro acc u v h; cases h
  | cons c l ih =>
    intro acc u v h
    have h : (if TL.pre S (c :: l) = true then some (acc, (c :: l).drop S.length) else TL.par S (acc ++ [c]) l) = some (u, v) := h
    by_cases hp : TL.pre S (c :: l) = true
    · rw [if_pos hp] at h
      cases h
      rw [List.length_drop]
      omega
    · rw [if_neg hp] at h
      have := ih _ _ _ h
      rw [List.length_append, List.length_singleton] at this
      rw [List.length_cons]
      omega
theorem part_len (w : Str) : (partL w (Str.ofString "=")).1.length ≤ w.length ∧ (partL w (Str.ofString "=")).2.2.length ≤ w.length := by
  unfold partL
  cases e : TL.par (TL.tl (Str.ofString "=")) [] (TL.tl w) with
  | none => exact ⟨Nat.le_refl _, Nat.zero_le _⟩
  | some q =>
    obtain ⟨u, v⟩ := q
    have := par_len _ _ _ _ _ e
    rw [List.length_nil, Nat.zero_add] at this
    exact this
theorem due_any (w : Str) (hT : w.length ≤ 16000000) : Tells (Fn.due_of_8468 [.str w]) ((dueV w).map prD) := by
  unfold Tells dueV
  obtain ⟨l1, l2⟩ := part_len w
  unfold Fn.due_of_8468; rw [DL.ap_bodyD (by rfl)]; unfold Fn.due_of_8468_g
  walk_at "dl"
  rw [DL.part_ok (by rw [eq1]; omega) (by omega)]
  generalize partL w (Str.ofString "=") = q at l1 l2
  obtain ⟨a, s, b⟩ := q
  walk_at "dl"
  rcases number_any a (by dsimp only at l1; omega) with ⟨d, o, g1, g2⟩ | ⟨g1, g2⟩
  case inr =>
    rw [callErr g2]
    cases hn : numV a with
    | none => exact .inr ⟨rfl, rfl⟩
    | some k => rw [hn] at g1; cases g1
  rw [DL.callE_of g2]
  walk_at "dl"
  cases hn : numV a with
  | none => rw [hn] at g1; cases g1
  | some k =>
    rw [hn] at g1
    cases g1
    rcases number_any b (by dsimp only at l2; omega) with ⟨d, o, g1, g2⟩ | ⟨g1, g2⟩
    case inr =>
      rw [callErr g2]
      cases hn : numV b with
      | none => exact .inr ⟨rfl, rfl⟩
      | some k => rw [hn] at g1; cases g1
    rw [DL.callE_of g2]
    walk_at "dl"
    cases hn : numV b with
    | none => rw [hn] at g1; cases g1
    | some k =>
      rw [hn] at g1
      cases g1
      exact .inl ⟨_, _, rfl, rfl⟩
end Tv
namespace Tv
open PySem DL Ti De Gw Bi Lc Be Tx En Rt
def prtL : Nat → List Nat → List (List Nat) → List Nat → Option (List (List Nat))
  | deep, _, parts, [] => if deep = 0 ∧ parts ≠ [] then some parts else none
  | deep, cur, parts, c :: l =>
    if c = 40 then (if deep = 0 then prtL 1 [] parts l else prtL (deep + 1) (cur ++ [c]) parts l)
    else if deep = 0 then none
    else if c = 41 then (if deep = 1 then prtL 0 [] (parts ++ [cur]) l else prtL (deep - 1) (cur ++ [c]) parts l)
    else prtL deep (cur ++ [c]) parts l
def prt (t : List Nat) : Option (List Str) := (prtL 0 [] [] t).map fun ps => ps.map ofL
theorem app16 {ds : List D} {d : D} {i : Nat} {ρ : En} (h : ds.length ≤ 16000000) : appK (some (some (true, .lst ds))) (.ok d) i ρ = .ok (.next (ρ.set i (some (true, .lst (ds ++ [d]))))) := by
  show bd (.ok d) (fun z => grd (decide (ds.length < sizeLine)) (R.ok (Fl.next (ρ.set i (some (true, .lst (ds ++ [z]))))))) = _
  rw [bd_ok, decide_eq_true (Nat.lt_of_le_of_lt h (by decide))]
  rfl
def Ev2 (T : Str) (parts : List (List Nat)) (deep start : Nat) (z : DL.Slot) : En := [some (false, .str T), some (true, .lst (parts.map fun p => .str (ofL p))), some (false, .int (deep : Int)), some (false, .int (start : Int)), z]
theorem s_in {T : Str} (hT : T.length ≤ 16000000) {k c deep start : Nat} {parts : List (List Nat)} {z : DL.Slot} (h : (TL.tl T)[k]? = some c) (hd : deep ≠ 0) (h1 : c ≠ 40) (h2 : c ≠ 41) : Fn.parts_of_97dc_b1 ((Ev2 T parts deep start z).set 4 (some (false, Fk k))) = .ok (.next (Ev2 T parts deep start (some (false, Fk k)))) := by
  unfold Fn.parts_of_97dc_b1 Ev2 Fk
  walk_at "dl"
  rw [at_code' h hT]
  walk_at "dl"
  rw [decide_eq_false (fun e => h1 ((str1 tl_lp).mp e))]
  walk_at "dl"
  rw [decide_eq_false (show ¬ (deep : Int) = 0 by omega)]
  walk_at "dl"
  rw [at_code' h hT]
  walk_at "dl"
  rw [decide_eq_false (fun e => h2 ((str1 tl_rp).mp e))]
  walk_at "dl"
theorem s_out {T : Str} (hT : T.length ≤ 16000000) {k c start : Nat} {parts : List (List Nat)} {z : DL.Slot} (h : (TL.tl T)[k]? = some c) (h1 : c ≠ 40) : Fn.parts_of_97dc_b1 ((Ev2 T parts 0 start z).set 4 (some (false, Fk k))) = .err NT := by
  unfold Fn.parts_of_97dc_b1 Ev2 Fk
  walk_at "dl"
  rw [at_code' h hT]
  walk_at "dl"
  rw [decide_eq_false (fun e => h1 ((str1 tl_lp).mp e))]
  walk_at "dl"
  rw [show decide (((0 : Nat) : Int) = 0) = true from rfl]
  walk_at "dl"
theorem s_open {T : Str} (hT : T.length ≤ 16000000) {k deep start : Nat} {parts : List (List Nat)} {z : DL.Slot} (h : (TL.tl T)[k]? = some 40) : Fn.parts_of_97dc_b1 ((Ev2 T parts deep start z).set 4 (some (false, Fk k))) = .ok (.next (Ev2 T parts (deep + 1) (if deep = 0 then k + 1 else start) (some (false, Fk k)))) := by
  unfold Fn.parts_of_97dc_b1 Ev2 Fk
  walk_at "dl"
  rw [at_code' h hT]
  walk_at "dl"
  rw [decide_eq_true ((str1 tl_lp).mpr rfl)]
  walk_at "dl"
  by_cases hd : deep = 0
  · subst hd
    rw [show decide (((0 : Nat) : Int) = 0) = true from rfl]
    walk_at "dl"
    rw [show (0 + (k : Int) + 1) = ((k + 1 : Nat) : Int) by omega]
    rfl
  · rw [decide_eq_false (show ¬ (deep : Int) = 0 by omega)]
    walk_at "dl"
    rw [if_neg hd]
    rfl
theorem s_close {T : Str} (hT : T.length ≤ 16000000) {k deep start : Nat} {parts : List (List Nat)} {z : DL.Slot} (h : (TL.tl T)[k]? = some 41) (hd0 : deep ≠ 0) (hp : parts.length ≤ 16000000) : Fn.parts_of_97dc_b1 ((Ev2 T parts deep start z).set 4 (some (false, Fk k))) = .ok (.next (Ev2 T (if deep = 1 then parts ++ [((TL.tl T).drop start).take (k - start)] else parts) (deep - 1) start (some (false, Fk k)))) := by
  have n41 : (41 : Nat) ≠ 40 := by omega
  obtain ⟨deep, rfl⟩ : ∃ d, deep = d + 1 := ⟨deep - 1, by omega⟩
  unfold Fn.parts_of_97dc_b1 Ev2 Fk
  walk_at "dl"
  rw [at_code' h hT]
  walk_at "dl"
  rw [decide_eq_false (fun e => n41 ((str1 tl_lp).mp e))]
  walk_at "dl"
  rw [decide_eq_false (show ¬ ((deep + 1 : Nat) : Int) = 0 by omega)]
  walk_at "dl"
  rw [at_code' h hT]
  walk_at "dl"
  rw [decide_eq_true ((str1 tl_rp).mpr rfl)]
  walk_at "dl"
  rw [show ((deep + 1 : Nat) : Int) - 1 = (deep : Int) by omega]
  by_cases hd : deep = 0
  · subst hd
    rw [show decide (((0 : Nat) : Int) = 0) = true from rfl]
    walk_at "dl"
    rw [Int.zero_add, DL.cut_str, sm (by omega)]
    walk_at "dl"
    have ec : L2.cutS T (some (start : Int)) (some (k : Int)) = ofL (((TL.tl T).drop start).take (k - start)) := TL.ext_tl (by
      rw [cut_tl, DL.cut_mid (by omega) (by omega)]; rfl)
    rw [ec, show appK (some (some (true, D.lst (parts.map fun p => .str (ofL p))))) (.ok (.str (ofL (((TL.tl T).drop start).take (k - start))))) = appK (some (some (true, D.lst (parts.map fun p => .str (ofL p))))) (.ok (.str (ofL (((TL.tl T).drop start).take (k - start))))) from rfl]
    rw [app16 (by rw [List.length_map]; omega), List.map_append]
    rfl
  · rw [decide_eq_false (show ¬ (deep : Int) = 0 by omega)]
    walk_at "dl"
    rw [if_neg (by omega)]
theorem run_any {T : Str} (hT : T.length ≤ 16000000) : ∀ (l pre : List Nat) (deep start : Nat) (parts : List (List Nat)) (z : DL.Slot), TL.tl T = pre ++ l → (deep ≠ 0 → start ≤ pre.length) → parts.length ≤ pre.length →
    (∃ ps start' z', prtL deep (pre.drop start) parts l = some ps ∧ loopD (gSet 4) Fn.parts_of_97dc_b1 (seg pre.length l.length) (Ev2 T parts deep start z) = .ok (.next (Ev2 T ps 0 start' z')) ∧ ps ≠ []) ∨
    (prtL deep (pre.drop start) parts l = none ∧ (loopD (gSet 4) Fn.parts_of_97dc_b1 (seg pre.length l.length) (Ev2 T parts deep start z) = .err NT ∨ ∃ ps deep' start' z', (deep' ≠ 0 ∨ ps = []) ∧ loopD (gSet 4) Fn.parts_of_97dc_b1 (seg pre.length l.length) (Ev2 T parts deep start z) = .ok (.next (Ev2 T ps deep' start' z'))))
  | [], pre, deep, start, parts, z, hT2, hs, hp => by
    unfold prtL
    by_cases h : deep = 0 ∧ parts ≠ []
    · rw [if_pos h]
      obtain ⟨rfl, h⟩ := h
      exact .inl ⟨parts, start, z, rfl, rfl, h⟩
    · rw [if_neg h]
      refine .inr ⟨rfl, .inr ⟨parts, deep, start, z, ?_, rfl⟩⟩
      by_cases h0 : deep = 0
      · exact .inr (Classical.byContradiction fun z => h ⟨h0, z⟩)
      · exact .inl h0
  | c :: l, pre, deep, start, parts, z, hT2, hs, hp => by
    have hk : (TL.tl T)[pre.length]? = some c := by rw [hT2, List.getElem?_append_right (Nat.le_refl _), Nat.sub_self]; rfl
    have hT3 : TL.tl T = (pre ++ [c]) ++ l := by rw [hT2]; simp
    have hlT : pre.length + l.length + 1 = T.length := by
      have e : T.length = (TL.tl T).length := rfl
      rw [e, hT2, List.length_append, List.length_cons]; omega
    rw [List.length_cons, seg_cons]
    have hlen : pre.length + 1 = (pre ++ [c]).length := by simp
    unfold prtL
    by_cases h40 : c = 40
    · subst h40
      rw [if_pos rfl, run_step (s_open hT hk)]
      by_cases h0 : deep = 0
      · subst h0
        rw [if_pos rfl, if_pos rfl, hlen]
        have := run_any hT l (pre ++ [40]) 1 (pre ++ [40]).length parts (some (false, Fk pre.length)) hT3 (fun _ => Nat.le_refl _) (by omega)
        rw [List.drop_length] at this
        exact this
      · rw [if_neg h0, if_neg h0, hlen]
        have := run_any hT l (pre ++ [40]) (deep + 1) start parts (some (false, Fk pre.length)) hT3 (fun _ => by have := hs h0; omega) (by omega)
        rw [List.drop_append_of_le_length (hs h0)] at this
        exact this
    rw [if_neg h40]
    by_cases h0 : deep = 0
    · subst h0
      rw [if_pos rfl]
      refine .inr ⟨rfl, .inl ?_⟩
      have e : loopD (gSet 4) Fn.parts_of_97dc_b1 (Fk pre.length :: seg (pre.length + 1) l.length) (Ev2 T parts 0 start z) = lp2 (Fn.parts_of_97dc_b1 ((Ev2 T parts 0 start z).set 4 (some (false, Fk pre.length)))) (gSet 4) Fn.parts_of_97dc_b1 (seg (pre.length + 1) l.length) := rfl
      rw [e, s_out hT hk h40]
      rfl
    rw [if_neg h0]
    have hs0 := hs h0
    by_cases h41 : c = 41
    · subst h41
      rw [if_pos rfl, run_step (s_close hT hk h0 (by omega))]
      have hcut : ((TL.tl T).drop start).take (pre.length - start) = pre.drop start := by
        rw [hT2, List.drop_append_of_le_length hs0]
        have e : pre.length - start = (pre.drop start).length := by rw [List.length_drop]
        rw [e, List.take_left]
      rw [hcut]
      by_cases h1 : deep = 1
      · subst h1
        rw [if_pos rfl, if_pos rfl, hlen]
        have := run_any hT l (pre ++ [41]) 0 start (parts ++ [pre.drop start]) (some (false, Fk pre.length)) hT3 (fun h => absurd rfl h) (by rw [List.length_append, List.length_singleton]; omega)
        have e0 : ∀ cur, prtL 0 cur (parts ++ [pre.drop start]) l = prtL 0 [] (parts ++ [pre.drop start]) l := fun cur => by
          cases l with
          | nil => rfl
          | cons d l =>
            unfold prtL
            by_cases h : d = 40
            · rw [if_pos h, if_pos h, if_pos rfl, if_pos rfl]
            · rw [if_neg h, if_neg h, if_pos rfl, if_pos rfl]
        rw [e0] at this
        exact this
      · rw [if_neg h1, if_neg h1, hlen]
        have := run_any hT l (pre ++ [41]) (deep - 1) start parts (some (false, Fk pre.length)) hT3 (fun _ => by omega) (by omega)
        rw [List.drop_append_of_le_length hs0] at this
        exact this
    · rw [if_neg h41, run_step (s_in hT hk h0 h40 h41), hlen]
      have := run_any hT l (pre ++ [c]) deep start parts (some (false, Fk pre.length)) hT3 (fun _ => by omega) (by omega)
      rw [List.drop_append_of_le_length hs0] at this
      exact this
theorem mem_prtL : ∀ (l : List Nat) (deep : Nat) (cur : List Nat) (parts : List (List Nat)) {ps : List (List Nat)}, prtL deep cur parts l = some ps → ∀ p ∈ ps, p ∈ parts ∨ ∀ c ∈ p, c ∈ cur ∨ c ∈ l
  | [], deep, cur, parts, ps, h, p, hp => by
    unfold prtL at h
    split at h
    · cases h; exact .inl hp
    · cases h
  | c :: l, deep, cur, parts, ps, h, p, hp => by
    have up : ∀ {deep' : Nat} {cur' : List Nat} {parts' : List (List Nat)}, prtL deep' cur' parts' l = some ps → (∀ q ∈ parts', q ∈ parts ∨ ∀ c' ∈ q, c' ∈ cur ∨ c' ∈ c :: l) → (∀ d ∈ cur', d ∈ cur ∨ d = c) → p ∈ parts ∨ ∀ c' ∈ p, c' ∈ cur ∨ c' ∈ c :: l := fun {deep' cur' parts'} h h1 h2 => by
      rcases mem_prtL l _ cur' parts' h p hp with g | g
      · exact h1 p g
      · refine .inr fun d hd => ?_
        rcases g d hd with g | g
        · rcases h2 d g with g | rfl
          · exact .inl g
          · exact .inr List.mem_cons_self
        · exact .inr (List.mem_cons_of_mem _ g)
    have same : ∀ q ∈ parts, q ∈ parts ∨ ∀ c' ∈ q, c' ∈ cur ∨ c' ∈ c :: l := fun q hq => .inl hq
    have nil2 : ∀ d ∈ ([] : List Nat), d ∈ cur ∨ d = c := fun d hd => by cases hd
    have app2 : ∀ d ∈ cur ++ [c], d ∈ cur ∨ d = c := fun d hd => (List.mem_append.mp hd).imp id List.mem_singleton.mp
    unfold prtL at h
    split at h
    · split at h
      · exact up h same nil2
      · exact up h same app2
    · split at h
      · cases h
      · split at h
        · split at h
          · refine up h (fun q hq => ?_) nil2
            rcases List.mem_append.mp hq with hq | hq
            · exact .inl hq
            · rw [List.mem_singleton.mp hq]
              exact .inr fun d hd => .inl hd
          · exact up h same app2
        · exact up h same app2
theorem len_prtL : ∀ (l : List Nat) (deep : Nat) (cur : List Nat) (parts : List (List Nat)) {ps : List (List Nat)}, prtL deep cur parts l = some ps → (∀ p ∈ ps, p ∈ parts ∨ p.length ≤ cur.length + l.length) ∧ ps.length ≤ parts.length + l.length
  | [], deep, cur, parts, ps, h => by
    unfold prtL at h
    split at h
    · cases h; exact ⟨fun p hp => .inl hp, by simp⟩
    · cases h
  | c :: l, deep, cur, parts, ps, h => by
    rw [List.length_cons]
    unfold prtL at h
    split at h
    · split at h
      · obtain ⟨g1, g2⟩ := len_prtL l _ _ _ h
        exact ⟨fun p hp => (g1 p hp).imp id fun g => by rw [List.length_nil] at g; omega, by omega⟩
      · obtain ⟨g1, g2⟩ := len_prtL l _ _ _ h
        exact ⟨fun p hp => (g1 p hp).imp id fun g => by rw [List.length_append, List.length_singleton] at g; omega, by omega⟩
    · split at h
      · cases h
      · split at h
        · split at h
          · obtain ⟨g1, g2⟩ := len_prtL l _ _ _ h
            rw [List.length_append, List.length_singleton] at g2
            refine ⟨fun p hp => ?_, by omega⟩
            rcases g1 p hp with g | g
            · rcases List.mem_append.mp g with g | g
              · exact .inl g
              · rw [List.mem_singleton.mp g]; exact .inr (by omega)
            · rw [List.length_nil] at g; exact .inr (by omega)
          · obtain ⟨g1, g2⟩ := len_prtL l _ _ _ h
            exact ⟨fun p hp => (g1 p hp).imp id fun g => by rw [List.length_append, List.length_singleton] at g; omega, by omega⟩
        · obtain ⟨g1, g2⟩ := len_prtL l _ _ _ h
          exact ⟨fun p hp => (g1 p hp).imp id fun g => by rw [List.length_append, List.length_singleton] at g; omega, by omega⟩
theorem eq_nil_strs (ps : List (List Nat)) (hc : ∀ p ∈ ps, ∀ c ∈ p, c < 256) : dEq false (.lst (ps.map fun p => .str (ofL p))) (.lst []) = .ok (.bl (decide (ps = []))) := by
  rw [eq_lsts (n := 1) (m := 1) (P := ps = []) (.lst fun d hd => by
    obtain ⟨x, hx, rfl⟩ := List.mem_map.mp hd
    exact nb_str (fun c hc' => hc x hx c hc')) (.lst fun d hd => by cases hd) (by omega) (by omega) (by simp)]
  rfl
theorem parts_any {T : Str} (hT : T.length ≤ 16000000) (hc : ∀ c ∈ TL.tl T, c < 256) : (∃ ps o, prt (TL.tl T) = some ps ∧ Fn.parts_of_97dc [.str T] = .ok (o, .lst (ps.map .str))) ∨ (prt (TL.tl T) = none ∧ Fn.parts_of_97dc [.str T] = .err NT) := by
  unfold prt
  unfold Fn.parts_of_97dc; rw [DL.ap_bodyD (by rfl)]; unfold Fn.parts_of_97dc_g
  walk_at "dl"
  rw [sm (by omega)]
  walk_at "dl"
  rw [DL.inR_small (by omega) (by omega)]
  walk_at "dl"
  have e' : ∀ r, loopD (gSet 4) Fn.parts_of_97dc_b1 (seg 0 (TL.tl T).length) (Ev2 T [] 0 0 none) = r → loopD (gSet 4) Fn.parts_of_97dc_b1 ((List.range (T.length : Int).toNat).map fun i : Nat => D.int (0 + (i : Int))) [some (false, D.str T), some (true, D.lst []), some (false, D.int 0), some (false, D.int 0), none] = r := fun r h => by
    rw [← h, Int.toNat_natCast, List.range_eq_range', TL.len_tl]
    rfl
  rcases run_any hT (TL.tl T) [] 0 0 [] none rfl (fun h => absurd rfl h) (Nat.le_refl _) with ⟨ps, start', z', g1, g2, g3⟩ | ⟨g1, g2⟩
  · have g1 : prtL 0 [] [] (TL.tl T) = some ps := g1
    rw [g1, e' _ g2]
    unfold Ev2
    walk_at "dl"
    have hcs : ∀ p ∈ ps, ∀ c ∈ p, c < 256 := fun p hp c hcp => by
      rcases mem_prtL _ _ _ _ g1 p hp with g | g
      · cases g
      · rcases g c hcp with g | g
        · cases g
        · exact hc c g
    rw [show decide ((0 : Int) < ((0 : Nat) : Int)) = false from rfl]
    walk_at "dl"
    rw [eq_nil_strs ps hcs, decide_eq_false g3]
    walk_at "dl"
    refine .inl ⟨ps.map ofL, true, rfl, ?_⟩
    rw [List.map_map]
    rfl
  · have g1 : prtL 0 [] [] (TL.tl T) = none := g1
    rw [g1]
    refine .inr ⟨rfl, ?_⟩
    rcases g2 with g2 | ⟨ps, deep', start', z', h, g2⟩
    · rw [e' _ g2]
      walk_at "dl"
    · rw [e' _ g2]
      unfold Ev2
      walk_at "dl"
      by_cases hd : deep' = 0
      · subst hd
        have hps : ps = [] := h.resolve_left (fun z => z rfl)
        subst hps
        rw [show decide ((0 : Int) < ((0 : Nat) : Int)) = false from rfl]
        walk_at "dl"
        rw [show dEq false (D.lst []) (D.lst []) = .ok (.bl true) from eq_nil_strs [] (fun _ h => nomatch h)]
        walk_at "dl"
      · rw [decide_eq_true (show (0 : Int) < (deep' : Int) by omega)]
        walk_at "dl"
end Tv
namespace Tg
open PySem DL Ti De Gw Bi Lc Be Tx
theorem joinL_cons (S p : List Nat) {X : List (List Nat)} (h : X ≠ []) : TL.joinL S (p :: X) = p ++ (S ++ TL.joinL S X) := by
  cases X with
  | nil => exact absurd rfl h
  | cons q r => rfl
theorem spl_ne (S : List Nat) : ∀ (k : Nat) (l acc : List Nat), TL.spl S k acc l ≠ []
  | k, [], acc => by rw [TL.spl_nil]; simp
  | 0, c :: r, acc => by
    cases h : TL.pre S (c :: r) with
    | true => rw [TL.spl_hit h]; simp
    | false => rw [TL.spl_miss h]; exact spl_ne S 0 r _
  | k + 1, c :: r, acc => spl_ne S k r acc
theorem joinL_spl {S : List Nat} (hS : S ≠ []) : ∀ (n : Nat) (l acc : List Nat), l.length ≤ n → TL.joinL S (TL.spl S 0 acc l) = acc ++ l
  | n, [], acc, _ => by rw [TL.spl_nil, List.append_nil]; rfl
  | 0, c :: r, acc, h => by simp at h
  | n + 1, c :: r, acc, h => by
    rw [List.length_cons] at h
    cases hp : TL.pre S (c :: r) with
    | true =>
      rw [TL.spl_hit hp, joinL_cons _ _ (spl_ne S _ _ _), TL.spl_pass, joinL_spl hS n _ [] (by rw [List.length_drop]; omega), List.nil_append]
      have e : (c :: r).take S.length = S := eq_of_beq hp
      cases S with
      | nil => exact absurd rfl hS
      | cons s S =>
        rw [List.length_cons, List.take_succ_cons] at e
        injection e with e1 e2
        show acc ++ (s :: S ++ r.drop S.length) = acc ++ c :: r
        rw [← e1]
        conv => rhs; rw [← List.take_append_drop S.length r, e2]
        rfl
    | false => rw [TL.spl_miss hp, joinL_spl hS n r _ (by omega), List.append_assoc]; rfl
theorem split_back (x : Str) {y : Str} (hy : TL.tl y ≠ []) : Str.join y (splitL x y) = x := TL.ext_tl (by
  rw [TL.tl_join]
  unfold splitL
  rw [List.map_map, show TL.tl ∘ ofL = id from funext fun _ => rfl, List.map_id, joinL_spl hy (TL.tl x).length _ _ (Nat.le_refl _)]
  rfl)
theorem split_ne (x y : Str) : splitL x y ≠ [] := by
  unfold splitL
  intro h
  exact spl_ne _ _ _ _ (List.map_eq_nil_iff.mp h)
end Tg
namespace Tg
open PySem DL Ti De Gw Bi Lc Be Tx
theorem spl_len {S : List Nat} : ∀ (n : Nat) (l acc : List Nat), l.length ≤ n → (TL.spl S 0 acc l).length ≤ l.length + 1 ∧ ∀ w ∈ TL.spl S 0 acc l, w.length ≤ acc.length + l.length
  | n, [], acc, _ => by
    rw [TL.spl_nil]
    exact ⟨by simp, fun w hw => by rw [List.mem_singleton.mp hw]; simp⟩
  | 0, c :: r, acc, h => by simp at h
  | n + 1, c :: r, acc, h => by
    rw [List.length_cons] at h
    cases hp : TL.pre S (c :: r) with
    | true =>
      rw [TL.spl_hit hp, TL.spl_pass]
      obtain ⟨h1, h2⟩ := spl_len (S := S) n (r.drop (S.length - 1)) [] (by rw [List.length_drop]; omega)
      rw [List.length_drop] at h1 h2
      refine ⟨by rw [List.length_cons, List.length_cons]; omega, fun w hw => ?_⟩
      rcases List.mem_cons.mp hw with rfl | hw
      · omega
      · have := h2 w hw
        rw [List.length_nil] at this
        rw [List.length_cons]; omega
    | false =>
      rw [TL.spl_miss hp]
      obtain ⟨h1, h2⟩ := spl_len (S := S) n r (acc ++ [c]) (by omega)
      rw [List.length_cons]
      refine ⟨by omega, fun w hw => ?_⟩
      have := h2 w hw
      rw [List.length_append, List.length_singleton] at this
      omega
theorem split_len (x y : Str) : (splitL x y).length ≤ x.length + 1 ∧ ∀ w ∈ splitL x y, w.length ≤ x.length := by
  have hx : (TL.tl x).length = x.length := rfl
  obtain ⟨h1, h2⟩ := spl_len (S := TL.tl y) (TL.tl x).length (TL.tl x) [] (Nat.le_refl _)
  unfold splitL
  rw [List.length_map]
  refine ⟨by omega, fun w hw => ?_⟩
  obtain ⟨z, hz, rfl⟩ := List.mem_map.mp hw
  have := h2 z hz
  rw [List.length_nil] at this
  have e : (ofL z).length = z.length := rfl
  omega
end Tg
namespace Tv
open PySem DL Ti De Gw Bi Lc Be Tx En Rt Tg
local macro_rules | `(tactic| walk_at "dq") => `(tactic| repeat (simp only [DL.ap_lcX]; walk_at "dl"))
def leafV : List Str → Option D
  | [] => none
  | w :: r =>
    if w = Str.ofString "tie" ∧ r.length = 1 then (numV (r.headD Str.empty)).map fun k => .tup [.str (Str.ofString "tie"), .int k]
    else if w = Str.ofString "short" then (allS (fun x => (numV x).map .int) r).map fun ds => .tup [.str (Str.ofString "short"), .lst ds]
    else if w = Str.ofString "dear" ∧ Str.ofString "/" ∈ r then
      match allS (fun x => (priceV x).map .int) (r.take (r.idxOf (Str.ofString "/"))), allS (fun x => (dueV x).map prD) (r.drop (r.idxOf (Str.ofString "/") + 1)) with
      | some a, some b => some (.tup [.str (Str.ofString "dear"), .lst a, .lst b])
      | _, _ => none
    else none
theorem leafV_cons (w : Str) (r : List Str) : leafV (w :: r) = if w = Str.ofString "tie" ∧ r.length = 1 then (numV (r.headD Str.empty)).map fun k => .tup [.str (Str.ofString "tie"), .int k]
    else if w = Str.ofString "short" then (allS (fun x => (numV x).map .int) r).map fun ds => .tup [.str (Str.ofString "short"), .lst ds]
    else if w = Str.ofString "dear" ∧ Str.ofString "/" ∈ r then
      match allS (fun x => (priceV x).map .int) (r.take (r.idxOf (Str.ofString "/"))), allS (fun x => (dueV x).map prD) (r.drop (r.idxOf (Str.ofString "/") + 1)) with
      | some a, some b => some (.tup [.str (Str.ofString "dear"), .lst a, .lst b])
      | _, _ => none
    else none := rfl
theorem tells_ok {o : Bool} {d : D} {v : Option D} (h : v = some d) : Tells (.ok (o, d)) v := .inl ⟨d, o, h, rfl⟩
theorem tells_no {v : Option D} (h : v = none) : Tells (.err NT) v := .inr ⟨h, rfl⟩
def val : Nat → Str → Option D
  | 0, t => leafV (splitL t (Str.ofString " "))
  | r + 1, t => if (splitL t (Str.ofString " ")).headD Str.empty = Str.ofString "split" ∧ 1 < (splitL t (Str.ofString " ")).length then (prt ((TL.tl t).drop 6)).bind fun ps => (allS (val r) ps).map fun ds => .tup [.str (Str.ofString "split"), .lst ds] else leafV (splitL t (Str.ofString " "))
theorem eqF_strs2 (x : Str) (l : List Str) : ((l.map D.str).any fun y => eqF y (.str x)) = decide (x ∈ l) := by
  rw [List.any_map]
  by_cases h : x ∈ l
  · rw [decide_eq_true h, List.any_eq_true]
    exact ⟨x, h, beq_iff_eq.mpr rfl⟩
  · rw [decide_eq_false h, List.any_eq_false]
    exact fun y hy e => h ((beq_iff_eq.mp e) ▸ hy)
theorem in_strs2 (x : Str) (l : List Str) : dIn false (.str x) (.lst (l.map .str)) = .ok (.bl (decide (x ∈ l))) := by
  rw [DL.inSeq_flat rfl (by rw [List.all_eq_true]; intro d hd; obtain ⟨y, _, rfl⟩ := List.mem_map.mp hd; rfl), eqF_strs2]
  rfl
theorem idxF_strs2 (x : Str) : ∀ (l : List Str) (n : Nat), x ∈ l → idxF (.str x) (l.map .str) n = some (n + l.idxOf x)
  | [], _, h => by cases h
  | a :: l, n, h => by
    rw [List.map_cons]
    unfold idxF
    rw [show eqF (.str a) (.str x) = (a == x) from rfl, List.idxOf_cons]
    by_cases e : a = x
    · subst e
      rw [beq_self_eq_true, if_pos rfl]; rfl
    · rw [show (a == x) = false from beq_eq_false_iff_ne.mpr e, if_neg Bool.false_ne_true]
      rw [idxF_strs2 x l (n + 1) ((List.mem_cons.mp h).resolve_left fun z => e z.symm)]
      exact congrArg some (by simp only [cond_false]; omega)
theorem idx_strs2 {l : List Str} {x : Str} (h : x ∈ l) : dIndex (.lst (l.map .str)) (.str x) = .ok (.int ((l.idxOf x : Nat) : Int)) := by
  show grd (isFlat (.str x) && (l.map .str).all isFlat) (match idxF (.str x) (l.map .str) 0 with | some j => R.ok (D.int (j : Nat)) | none => .bad) = _
  rw [idxF_strs2 x l 0 h, show (isFlat (.str x) && (l.map .str).all isFlat) = true by
    rw [Bool.and_eq_true, List.all_map]
    exact ⟨rfl, List.all_eq_true.mpr fun _ _ => rfl⟩, Nat.zero_add]
  rfl
theorem lcx_tells {i : Nat} {f : En → R D} {ρ : En} {F : Str → Option D} (l : List Str) (hl : l.length ≤ 16000001) (h : ∀ a ∈ l, (∃ d, F a = some d ∧ f ((wipeR ρ [i]).set i (some (false, .str a))) = .ok d) ∨ (F a = none ∧ f ((wipeR ρ [i]).set i (some (false, .str a))) = .err NT)) :
    (∃ ds, allS F l = some ds ∧ lcXK (.ok (l.map .str)) [i] (gSet i) f ρ = .ok (.lst ds)) ∨ (allS F l = none ∧ lcXK (.ok (l.map .str)) [i] (gSet i) f ρ = .err NT) := by
  rcases lcX_all (f := f) (ρ := ρ) F l h with ⟨ds, h1, h2⟩ | ⟨h1, h2⟩
  · exact .inl ⟨ds, h1, lcXK16 (by rw [List.length_map]; exact hl) h2⟩
  · exact .inr ⟨h1, lcXK16e (by rw [List.length_map]; exact hl) h2⟩
theorem tell_callE {f : List D → R (Bool × D)} {ds : List D} {v : Option D} (h : Tells (f ds) v) : (∃ d, v = some d ∧ callE f ds = .ok d) ∨ (v = none ∧ callE f ds = .err NT) := by
  rcases h with ⟨d, o, h1, h2⟩ | ⟨h1, h2⟩
  · exact .inl ⟨d, h1, DL.callE_of h2⟩
  · exact .inr ⟨h1, callErr h2⟩
theorem leaf_rest (self : Den) (s1 : DL.Slot) (t w : Str) (ws : List Str) (hT : t.length ≤ 16000000) (hl : ws.length ≤ 16000000) (hw : ∀ x ∈ ws, x.length ≤ 16000000) : Tells (endD (seqK (iteK (andK (R.ok (decide (w = Str.ofString "tie"))) (tst (bop (nop (aCons (rd 2) aNil) dLen) (cst (.int 2)) (dEq false))) [some (false, .str t), s1, some (false, .lst (D.str w :: ws.map .str)), none, none, none]) (sRetO (nop (aCons (cst (.str (Str.ofString "tie"))) (aCons (nop (aCons (bop (rd 2) (cst (.int 1)) dIxA) aNil) (callE Fn.number_of_7739)) aNil)) mkTup)) sSkip [some (false, .str t), s1, some (false, .lst (D.str w :: ws.map .str)), none, none, none]) (sSeq (sIf (tst (bop (bop (rd 2) (cst (.int 0)) dIxA) (cst (.str (Str.ofString "short"))) (dEq false))) (sRetO (nop (aCons (cst (.str (Str.ofString "short"))) (aCons (lcX [5] (itr (slc (rd 2) (pSome (cst (.int 1))) pNone)) (gSet 5) (Fn.read_at_3388_e2 self)) aNil)) mkTup)) sSkip) (sSeq (sIf (bAnd (tst (bop (bop (rd 2) (cst (.int 0)) dIxA) (cst (.str (Str.ofString "dear"))) (dEq false))) (tst (bop (cst (.str (Str.ofString "/"))) (rd 2) (dIn false)))) (sSeq (sSet 3 (idx (rd 2) (cst (.str (Str.ofString "/"))))) (sRetO (nop (aCons (cst (.str (Str.ofString "dear"))) (aCons (lcX [5] (itr (slc (rd 2) (pSome (cst (.int 1))) (pSome (uop (rdE 3) flatO)))) (gSet 5) (Fn.read_at_3388_e3 self)) (aCons (lcX [5] (itr (slc (rd 2) (pSome (bop (rd 3) (cst (.int 1)) dAdd)) pNone)) (gSet 5) (Fn.read_at_3388_e4 self)) aNil))) mkTup))) sSkip) (sRaise (Str.ofString "NoText")))))) (leafV (w :: ws)) := by
  rw [leafV_cons]
  by_cases ht : w = Str.ofString "tie"
  · subst ht
    rw [decide_eq_true rfl]
    walk_at "dl"
    by_cases h2 : ws.length = 1
    · rw [if_pos (by first | exact ⟨rfl, h2⟩ | exact ⟨trivial, h2⟩), decide_eq_true (by omega)]
      obtain ⟨x, rfl⟩ : ∃ x, ws = [x] := List.length_eq_one_iff.mp h2
      walk_at "dl"
      rcases tell_callE (number_any x (hw x List.mem_cons_self)) with ⟨d, e1, e2⟩ | ⟨e1, e2⟩
      · rw [e2]
        walk_at "dl"
        cases hn : numV x with
        | none => rw [hn] at e1; cases e1
        | some k => rw [hn] at e1; cases e1; exact tells_ok (by rw [List.headD_cons, hn]; rfl)
      · rw [e2]
        walk_at "dl"
        cases hn : numV x with
        | none => exact tells_no (by rw [List.headD_cons, hn]; rfl)
        | some k => rw [hn] at e1; cases e1
    · rw [if_neg (fun z => h2 z.2), if_neg (show ¬ Str.ofString "tie" = Str.ofString "short" by decide +kernel), if_neg (fun z => absurd z.1 (show ¬ Str.ofString "tie" = Str.ofString "dear" by decide +kernel)), decide_eq_false (by omega)]
      walk_at "dl"
      rw [decide_eq_false (show ¬ Str.ofString "tie" = Str.ofString "short" by decide +kernel)]
      walk_at "dl"
      rw [decide_eq_false (show ¬ Str.ofString "tie" = Str.ofString "dear" by decide +kernel)]
      walk_at "dl"
      exact tells_no rfl
  rw [decide_eq_false ht, if_neg (fun z => ht z.1)]
  walk_at "dl"
  by_cases hs : w = Str.ofString "short"
  · rw [decide_eq_true hs, if_pos hs]
    walk_at "dl"
    walk_at "dq"
    rw [DL.cut_from (by omega), show (D.str w :: List.map D.str ws).drop (1 : Int).toNat = ws.map D.str from rfl]
    rcases lcx_tells (i := 5) (f := Fn.read_at_3388_e2 self) (ρ := [some (false, D.str t), s1, some (false, D.lst (D.str w :: List.map D.str ws)), none, none, none]) (F := fun x => (numV x).map .int) ws (by omega) (fun x hx => by
      unfold Fn.read_at_3388_e2
      walk_at "dl"
      exact tell_callE (number_any x (hw x hx))) with ⟨ds, e1, e2⟩ | ⟨e1, e2⟩
    · rw [e1, e2]
      walk_at "dl"
      exact tells_ok rfl
    · rw [e1, e2]
      walk_at "dl"
      exact tells_no rfl
  rw [decide_eq_false hs, if_neg hs]
  walk_at "dl"
  by_cases hd : w = Str.ofString "dear"
  case neg =>
    rw [decide_eq_false hd, if_neg (fun z => hd z.1)]
    walk_at "dl"
    exact tells_no rfl
  have hsl : ¬ w = Str.ofString "/" := by rw [hd]; decide +kernel
  have hmm : Str.ofString "/" ∈ w :: ws ↔ Str.ofString "/" ∈ ws := by
    rw [List.mem_cons]
    exact ⟨fun h => h.resolve_left fun z => hsl z.symm, .inr⟩
  rw [decide_eq_true hd]
  walk_at "dl"
  rw [show D.str w :: List.map D.str ws = (w :: ws).map D.str from rfl, in_strs2]
  by_cases hm : Str.ofString "/" ∈ ws
  case neg =>
    rw [decide_eq_false (fun z => hm (hmm.mp z)), if_neg (fun z => hm z.2)]
    walk_at "dl"
    exact tells_no rfl
  rw [decide_eq_true (hmm.mpr hm), if_pos ⟨hd, hm⟩]
  walk_at "dl"
  have hix : (w :: ws).idxOf (Str.ofString "/") = ws.idxOf (Str.ofString "/") + 1 := by
    rw [List.idxOf_cons, show (w == Str.ofString "/") = false from beq_eq_false_iff_ne.mpr hsl]; rfl
  rw [show D.str w :: List.map D.str ws = (w :: ws).map D.str from rfl, idx_strs2 (hmm.mpr hm), hix]
  walk_at "dl"
  walk_at "dq"
  generalize ws.idxOf (Str.ofString "/") = k
  have c1 : cutD (D.str w :: List.map D.str ws) (some 1) (some ((k + 1 : Nat) : Int)) = (ws.take k).map D.str := by
    rw [DL.cut_mid (by omega) (by omega), Int.toNat_natCast, show (1 : Int).toNat = 1 from rfl, show k + 1 - 1 = k by omega, List.drop_succ_cons, List.drop_zero, List.map_take]
  have c2 : cutD (D.str w :: List.map D.str ws) (some (((k + 1 : Nat) : Int) + 1)) none = (ws.drop (k + 1)).map D.str := by
    rw [DL.cut_from (by omega), show (((k + 1 : Nat) : Int) + 1).toNat = (k + 1) + 1 by omega, List.drop_succ_cons, List.map_drop]
  rw [c1, c2]
  rcases lcx_tells (i := 5) (f := Fn.read_at_3388_e3 self) (ρ := [some (false, D.str t), s1, some (false, D.lst (D.str w :: List.map D.str ws)), some (false, D.int ((k + 1 : Nat) : Int)), none, none]) (F := fun x => (priceV x).map .int) (ws.take k) (by rw [List.length_take]; omega) (fun x hx => by
    unfold Fn.read_at_3388_e3
    walk_at "dl"
    exact tell_callE (price_any x (hw x (List.mem_of_mem_take hx)))) with ⟨ds, e1, e2⟩ | ⟨e1, e2⟩
  case inr =>
    rw [e1, e2]
    walk_at "dl"
    exact tells_no rfl
  rw [e1, e2]
  walk_at "dl"
  rcases lcx_tells (i := 5) (f := Fn.read_at_3388_e4 self) (ρ := [some (false, D.str t), s1, some (false, D.lst (D.str w :: List.map D.str ws)), some (false, D.int ((k + 1 : Nat) : Int)), none, none]) (F := fun x => (dueV x).map prD) (ws.drop (k + 1)) (by rw [List.length_drop]; omega) (fun x hx => by
    unfold Fn.read_at_3388_e4
    walk_at "dl"
    exact tell_callE (due_any x (hw x (List.mem_of_mem_drop hx)))) with ⟨ds2, g1, g2⟩ | ⟨g1, g2⟩
  · rw [g1, g2]
    walk_at "dl"
    exact tells_ok rfl
  · rw [g1, g2]
    walk_at "dl"
    exact tells_no rfl
theorem read_at_any : ∀ (r n : Nat) (t : Str), r < n → t.length ≤ 16000000 → (∀ c ∈ TL.tl t, c < 256) → Tells (Fn.read_at_3388 n [.str t, .int (r : Int)]) (val r t) := by
  intro r
  induction r with
  | zero =>
    intro n t hn hT hc
    obtain ⟨n, rfl⟩ : ∃ n', n = n' + 1 := ⟨n - 1, by omega⟩
    have hgo : ∀ ds, Fn.read_at_3388 (n + 1) ds = DL.bodyD 2 6 (Fn.read_at_3388_g (Fn.read_at_3388 n)) ds := fun _ => rfl
    rw [hgo, DL.ap_bodyD (by rfl)]; unfold Fn.read_at_3388_g
    walk_at "dl"
    rw [DL.split_ok (by rw [sp1]; omega) sp_all (by omega)]
    obtain ⟨hl, hw⟩ := split_len t (Str.ofString " ")
    have hne := split_ne t (Str.ofString " ")
    unfold val
    generalize splitL t (Str.ofString " ") = ws at hl hw hne
    obtain ⟨w, ws, rfl⟩ : ∃ w r, ws = w :: r := by
      match ws, hne with
      | w :: r, _ => exact ⟨w, r, rfl⟩
    rw [List.length_cons] at hl
    walk_at "dl"
    have fin := fun s1 => leaf_rest (Fn.read_at_3388 n) s1 t w ws hT (by omega) (fun x hx => by have := hw x (List.mem_cons_of_mem _ hx); omega)
    by_cases h1 : w = Str.ofString "split"
    case neg =>
      rw [decide_eq_false h1]
      walk_at "dl"
      exact fin _
    rw [decide_eq_true h1]
    walk_at "dl"
    by_cases h2 : 1 < ws.length + 1
    case neg =>
      rw [decide_eq_false (show ¬ (1 : Int) < ((ws.length + 1 : Nat) : Int) by omega)]
      walk_at "dl"
      exact fin _
    rw [decide_eq_true (show (1 : Int) < ((ws.length + 1 : Nat) : Int) by omega)]
    walk_at "dl"
    rw [show decide ((0 : Int) < ((0 : Nat) : Int)) = false from rfl]
    walk_at "dl"
    exact fin _
  | succ r ih =>
  intro n t hn hT hc
  obtain ⟨n, rfl⟩ : ∃ n', n = n' + 1 := ⟨n - 1, by omega⟩
  have hgo : ∀ ds, Fn.read_at_3388 (n + 1) ds = DL.bodyD 2 6 (Fn.read_at_3388_g (Fn.read_at_3388 n)) ds := fun _ => rfl
  rw [hgo, DL.ap_bodyD (by rfl)]; unfold Fn.read_at_3388_g
  walk_at "dl"
  rw [DL.split_ok (by rw [sp1]; omega) sp_all (by omega)]
  obtain ⟨hl, hw⟩ := split_len t (Str.ofString " ")
  have hne := split_ne t (Str.ofString " ")
  unfold val
  generalize splitL t (Str.ofString " ") = ws at hl hw hne
  obtain ⟨w, ws, rfl⟩ : ∃ w r, ws = w :: r := by
    match ws, hne with
    | w :: r, _ => exact ⟨w, r, rfl⟩
  rw [List.length_cons] at hl
  rw [List.headD_cons, List.length_cons]
  walk_at "dl"
  have fin := fun s1 => leaf_rest (Fn.read_at_3388 n) s1 t w ws hT (by omega) (fun x hx => by have := hw x (List.mem_cons_of_mem _ hx); omega)
  by_cases h1 : w = Str.ofString "split"
  case neg =>
    rw [decide_eq_false h1, if_neg (fun z => h1 z.1)]
    walk_at "dl"
    exact fin _
  rw [decide_eq_true h1]
  walk_at "dl"
  by_cases h2 : 1 < ws.length + 1
  case neg =>
    rw [decide_eq_false (show ¬ (1 : Int) < ((ws.length + 1 : Nat) : Int) by omega), if_neg (fun z => h2 z.2)]
    walk_at "dl"
    exact fin _
  rw [decide_eq_true (show (1 : Int) < ((ws.length + 1 : Nat) : Int) by omega), if_pos ⟨h1, h2⟩]
  walk_at "dl"
  rw [decide_eq_true (show (0 : Int) < ((r + 1 : Nat) : Int) by omega)]
  walk_at "dl"
  walk_at "dq"
  rw [DL.cut_str, sm (by omega)]
  walk_at "dl"
  have hcut : TL.tl (L2.cutS t (some 6) none) = (TL.tl t).drop 6 := by rw [cut_tl, DL.cut_from (by omega)]; rfl
  have hcl : (L2.cutS t (some 6) none).length ≤ t.length := by
    have e : (TL.tl (L2.cutS t (some 6) none)).length = (L2.cutS t (some 6) none).length := rfl
    have e2 : (TL.tl t).length = t.length := rfl
    rw [hcut, List.length_drop] at e
    omega
  have hcc : ∀ c ∈ TL.tl (L2.cutS t (some 6) none), c < 256 := fun c hm => by
    rw [hcut] at hm
    exact hc c (List.mem_of_mem_drop hm)
  rcases parts_any (T := L2.cutS t (some 6) none) (by omega) hcc with ⟨ps, o, g1, g2⟩ | ⟨g1, g2⟩
  case inr =>
    rw [hcut] at g1
    rw [g1, callErr g2]
    walk_at "dl"
    exact tells_no rfl
  rw [hcut] at g1
  rw [g1, DL.callE_of g2]
  walk_at "dl"
  have hps : ∀ p ∈ ps, p.length ≤ 16000000 ∧ ∀ c ∈ TL.tl p, c < 256 := fun p hp => by
    unfold prt at g1
    cases e : prtL 0 [] [] ((TL.tl t).drop 6) with
    | none => rw [e] at g1; cases g1
    | some qs =>
      rw [e] at g1
      cases g1
      obtain ⟨q, hq, rfl⟩ := List.mem_map.mp hp
      have e2 : (TL.tl t).length = t.length := rfl
      constructor
      · have e3 : (ofL q).length = q.length := rfl
        rcases (len_prtL _ _ _ _ e).1 q hq with h | h
        · cases h
        · rw [List.length_nil, List.length_drop] at h
          omega
      · intro c hm
        rcases mem_prtL _ _ _ _ e q hq with h | h
        · cases h
        · rcases h c hm with h | h
          · cases h
          · exact hc c (List.mem_of_mem_drop h)
  have hpl : ps.length ≤ 16000001 := by
    unfold prt at g1
    cases e : prtL 0 [] [] ((TL.tl t).drop 6) with
    | none => rw [e] at g1; cases g1
    | some qs =>
      rw [e] at g1
      cases g1
      have := (len_prtL _ _ _ _ e).2
      have e2 : (TL.tl t).length = t.length := rfl
      rw [List.length_nil, List.length_drop] at this
      rw [List.length_map]
      omega
  rcases lcx_tells (i := 4) (f := Fn.read_at_3388_e1 (Fn.read_at_3388 n)) (ρ := [some (false, D.str t), some (false, D.int ((r + 1 : Nat) : Int)), some (false, D.lst (D.str w :: List.map D.str ws)), none, none, none]) (F := val r) ps hpl (fun p hp => by
    unfold Fn.read_at_3388_e1
    walk_at "dl"
    rw [show ((r + 1 : Nat) : Int) - 1 = (r : Int) by omega]
    exact tell_callE (ih n p (by omega) (hps p hp).1 (hps p hp).2)) with ⟨ds, f1, f2⟩ | ⟨f1, f2⟩
  · rw [f2, f1]
    walk_at "dl"
    exact tells_ok rfl
  · rw [f2, f1]
    walk_at "dl"
    exact tells_no rfl
theorem leaf_isC {ws : List Str} {d : D} (h : leafV ws = some d) : isC d = false := by
  cases ws with
  | nil => cases h
  | cons w r =>
    rw [leafV_cons] at h
    split at h
    · obtain ⟨k, _, rfl⟩ := Option.map_eq_some_iff.mp h; rfl
    · split at h
      · obtain ⟨k, _, rfl⟩ := Option.map_eq_some_iff.mp h; rfl
      · split at h
        · split at h
          · cases h; rfl
          · cases h
        · cases h
theorem val_isC {r : Nat} {t : Str} {d : D} (h : val r t = some d) : isC d = false := by
  cases r with
  | zero => exact leaf_isC h
  | succ r =>
    unfold val at h
    split at h
    · obtain ⟨ps, _, h⟩ := Option.bind_eq_some_iff.mp h
      obtain ⟨k, _, rfl⟩ := Option.map_eq_some_iff.mp h; rfl
    · exact leaf_isC h
theorem read_paper_any (t : Str) (hT : t.length ≤ 16000000) (hc : ∀ c ∈ TL.tl t, c < 256) : Tells (Fn.read_paper_f09b [.str t]) (val 8 t) := by
  unfold Fn.read_paper_f09b; rw [DL.ap_bodyD (by rfl)]; unfold Fn.read_paper_f09b_g
  walk_at "dl"
  rcases read_at_any 8 12 t (by omega) hT hc with ⟨d, o, h1, h2⟩ | ⟨h1, h2⟩
  · have h2 : Fn.read_at_3388 12 [.str t, .int 8] = .ok (o, d) := h2
    rw [DL.callO_flat h2 (val_isC h1)]
    walk_at "dl"
    exact tells_ok h1
  · have h2 : Fn.read_at_3388 12 [.str t, .int 8] = .err NT := h2
    rw [h1, callErrO h2]
    walk_at "dl"
    exact tells_no rfl
end Tv
namespace Tv
open PySem DL Ti De Gw Bi Lc Be Tx En Rt Tg
theorem numV_num {k : Int} (h0 : 0 ≤ k) (h1 : k < 10 ^ 60) : numV (num k) = some k := by
  obtain ⟨n, rfl⟩ : ∃ n : Nat, k = n := ⟨k.toNat, by omega⟩
  have hn : n < 10 ^ 60 := by omega
  unfold numV
  rw [num_tl, TL.numL_val]
  have h2 := numL_len60 hn
  have h3 : 1 ≤ (TL.numL n).length := List.length_pos_iff.mpr (TL.numL_ne n)
  have h4 : (TL.numL n).all digB = true := List.all_eq_true.mpr fun c hc => by
    have := TL.numL_digits n c hc
    unfold digB
    rw [decide_eq_true this.1, decide_eq_true this.2]; rfl
  have h5 : ¬ ((TL.numL n).headD 0 = 48 ∧ 1 < (TL.numL n).length) := fun ⟨h6, h7⟩ => by
    by_cases hs : n < 10
    · rw [TL.numL_lt hs] at h7
      simp at h7
    · obtain ⟨c, r, e, h8⟩ := numL_head n (by omega)
      rw [e, List.headD_cons] at h6
      omega
  have h6 : (decide ((TL.numL n).headD 0 = 48) && decide (1 < (TL.numL n).length)) = false := by
    rw [← Bool.not_eq_true, Bool.and_eq_true, decide_eq_true_eq, decide_eq_true_eq]
    exact h5
  rw [decide_eq_true h3, decide_eq_true h2, h6, h4, if_pos (by rfl)]
theorem priceV_num {k : Int} (h : k.natAbs < 10 ^ 60) : priceV (num k) = some k := by
  unfold priceV
  cases k with
  | ofNat n =>
    have h1 : ¬ (TL.tl (num (Int.ofNat n))).take 1 = [45] := fun e => by
      have hm : (45 : Nat) ∈ TL.tl (num (Int.ofNat n)) := List.mem_of_mem_take (i := 1) (by rw [e]; exact List.mem_cons_self)
      exact num_pos_not (k := Int.ofNat n) (Int.natCast_nonneg n) (s := 45) (.inl (by omega)) hm
    rw [if_neg h1]
    exact numV_num (Int.natCast_nonneg n) (by have : (Int.ofNat n).natAbs = n := rfl; have e : Int.ofNat n = (n : Int) := rfl; omega)
  | negSucc n =>
    have e := tl_neg n
    rw [if_pos (by rw [e]; rfl), if_neg (fun z => by
      rw [e] at z
      obtain ⟨c, r, e3, h3⟩ := numL_head (n + 1) (by omega)
      rw [e3] at z
      cases z
      omega)]
    have e4 : ofL ((TL.tl (num (Int.negSucc n))).drop 1) = num ((n + 1 : Nat) : Int) := TL.ext_tl (by rw [e, num_tl]; rfl)
    rw [e4, numV_num (by omega) (by omega)]
    show some (-((n + 1 : Nat) : Int)) = some (Int.negSucc n)
    rfl
theorem dueV_due {e : Int × Int} (h1 : 0 ≤ e.1 ∧ e.1 < 10 ^ 60) (h2 : 0 ≤ e.2 ∧ e.2 < 10 ^ 60) : dueV (due e) = some e := by
  unfold dueV
  have hp : partL (due e) (Str.ofString "=") = (num e.1, Str.ofString "=", num e.2) := DL.part_app tl_eq (num_pos_not h1.1 (.inr (by omega)))
  rw [hp]
  dsimp only
  rw [numV_num h1.1 h1.2, numV_num h2.1 h2.2]
theorem allS_map {α : Type} {F : Str → Option D} (f : α → Str) (g : α → D) : ∀ (l : List α), (∀ a ∈ l, F (f a) = some (g a)) → allS F (l.map f) = some (l.map g)
  | [], _ => rfl
  | a :: l, h => by
    rw [List.map_cons]
    unfold allS
    rw [h a List.mem_cons_self, allS_map f g l fun b hb => h b (List.mem_cons_of_mem _ hb)]
    rfl
theorem val_leaf {r : Nat} {t w : Str} {ws : List Str} (e : splitL t (Str.ofString " ") = w :: ws) (h : w ≠ Str.ofString "split") : val r t = leafV (w :: ws) := by
  cases r with
  | zero => unfold val; rw [e]
  | succ r =>
    unfold val
    rw [e, List.headD_cons, if_neg fun z => h z.1]
def fl (ps : List (List Nat)) : List Nat := (ps.map fun p => 40 :: (p ++ [41])).flatten
theorem prt_bal {l : List Nat} (hb : Bal l) : ∀ (deep : Nat) (cur : List Nat) (parts : List (List Nat)) (rest : List Nat), 1 ≤ deep → prtL deep cur parts (l ++ rest) = prtL deep (cur ++ l) parts rest := by
  induction hb with
  | nil => intro deep cur parts rest _; rw [List.append_nil]; rfl
  | @ch c l h1 h2 _ ih =>
    intro deep cur parts rest hd
    rw [List.cons_append]
    conv => lhs; unfold prtL
    rw [if_neg h1, if_neg (by omega), if_neg h2, ih deep _ parts rest hd, List.append_assoc]
    rfl
  | @br a b _ _ iha ihb =>
    intro deep cur parts rest hd
    rw [List.cons_append, List.append_assoc, List.cons_append]
    conv => lhs; unfold prtL
    rw [if_pos rfl, if_neg (by omega), iha (deep + 1) _ parts _ (by omega)]
    conv => lhs; unfold prtL
    rw [if_neg (by decide), if_neg (by omega), if_pos rfl, if_neg (by omega), show deep + 1 - 1 = deep by omega, ihb deep _ parts rest hd]
    congr 1
    simp
theorem prt_fl : ∀ (ps parts : List (List Nat)), (∀ p ∈ ps, Bal p) → prtL 0 [] parts (fl ps) = prtL 0 [] (parts ++ ps) []
  | [], parts, _ => by rw [List.append_nil]; rfl
  | p :: ps, parts, h => by
    have e : fl (p :: ps) = 40 :: (p ++ (41 :: fl ps)) := by
      unfold fl
      rw [List.map_cons, List.flatten_cons, List.cons_append, List.append_assoc]; rfl
    rw [e]
    conv => lhs; unfold prtL
    rw [if_pos rfl, if_pos rfl, prt_bal (h p List.mem_cons_self) 1 [] parts _ (Nat.le_refl _)]
    conv => lhs; unfold prtL
    rw [if_neg (by decide), if_neg (by decide), if_pos rfl, if_pos rfl, List.nil_append, prt_fl ps (parts ++ [p]) fun q hq => h q (List.mem_cons_of_mem _ hq), List.append_assoc]
    rfl
theorem prt_of {ps : List (List Nat)} (hne : ps ≠ []) (h : ∀ p ∈ ps, Bal p) : prt (fl ps) = some (ps.map ofL) := by
  unfold prt
  rw [prt_fl ps [] h, List.nil_append]
  unfold prtL
  rw [if_pos ⟨rfl, hne⟩]
  rfl
theorem split_word (x : Str) : splitL (Str.ofString "split " ++ x) (Str.ofString " ") = Str.ofString "split" :: splitL x (Str.ofString " ") := by
  rw [e_split]
  exact split_head _ _ b_split
theorem val_split (r : Nat) (l : List Nat) : val (r + 1) (Str.ofString "split " ++ ofL l) = (prt l).bind fun ps => (allS (val r) ps).map fun ds => .tup [.str (Str.ofString "split"), .lst ds] := by
  unfold val
  have hp := split_pos (ofL l) (Str.ofString " ")
  rw [split_word, List.headD_cons, List.length_cons, if_pos ⟨rfl, by omega⟩]
  rw [TL.tl_append, tl_split]
  rfl
theorem val_split0 (x : Str) : val 0 (Str.ofString "split " ++ x) = none := by
  unfold val
  rw [split_word, leafV_cons, if_neg (fun z => absurd z.1 (by decide +kernel)), if_neg (by decide +kernel), if_neg (fun z => absurd z.1 (by decide +kernel))]
theorem tx_fl (ds : List Pp) : tx (.split ds) = Str.ofString "split " ++ ofL (fl (ds.map fun p => TL.tl (tx p))) := by
  rw [tx_split]
  congr 1
  refine TL.ext_tl ?_
  rw [tl_join0]
  show _ = fl _
  unfold fl
  rw [List.map_map, List.map_map]
  congr 1
  exact List.map_congr_left fun p _ => tl_inB p
theorem val_tx : ∀ (m : Nat) (p : Pp), Rd m p → val m (tx p) = some (dP p) := by
  intro m p M
  induction M with
  | @tie m k h1 h2 =>
    have hs : splitL (tx (.tie k)) (Str.ofString " ") = [Str.ofString "tie", num k] := by
      rw [tx_tie, e_tie]
      exact split_cat (Str.ofString "tie") [num k] b_tie (fun y hy => by rw [List.mem_singleton.mp hy]; exact num_b k)
    rw [val_leaf hs (by decide +kernel), leafV_cons, if_pos ⟨rfl, rfl⟩, List.headD_cons, numV_num h1 h2]
    rfl
  | @short m qs h1 h2 =>
    have hs : splitL (tx (.short qs)) (Str.ofString " ") = Str.ofString "short" :: qs.map num := by
      rw [tx_short]
      exact split_cat (Str.ofString "short") (qs.map num) b_short (fun y hy => by
        obtain ⟨q, _, rfl⟩ := List.mem_map.mp hy
        exact num_b q)
    rw [val_leaf hs (by decide +kernel), leafV_cons, if_neg (fun z => absurd z.1 (by decide +kernel)), if_pos rfl, allS_map num D.int qs fun q hq => by rw [numV_num (h2 q hq).1 (h2 q hq).2]; rfl]
    rfl
  | @dear m pr td h1 h2 h3 h4 =>
    have hs : splitL (tx (.dear pr td)) (Str.ofString " ") = Str.ofString "dear" :: (pr.map num ++ Str.ofString "/" :: td.map due) := by
      rw [tx_dear]
      exact split_cat (Str.ofString "dear") (pr.map num ++ Str.ofString "/" :: td.map due) b_dear (fun y hy => by
        rcases List.mem_append.mp hy with hy | hy
        · obtain ⟨q, _, rfl⟩ := List.mem_map.mp hy
          exact num_b q
        · rcases List.mem_cons.mp hy with rfl | hy
          · exact b_sl
          · obtain ⟨q, _, rfl⟩ := List.mem_map.mp hy
            exact due_b q)
    have hix : (pr.map num ++ Str.ofString "/" :: td.map due).idxOf (Str.ofString "/") = (pr.map num).length := by
      rw [List.idxOf_append, if_neg (fun hm => by
        obtain ⟨q, _, e⟩ := List.mem_map.mp hm
        exact num_sl q e), List.idxOf_cons_self, Nat.zero_add]
    rw [val_leaf hs (by decide +kernel), leafV_cons, if_neg (fun z => absurd z.1 (by decide +kernel)), if_neg (by decide +kernel), if_pos ⟨rfl, by simp⟩, hix, List.take_left, ← List.drop_drop, List.drop_left, show (Str.ofString "/" :: td.map due).drop 1 = td.map due from rfl,
      allS_map num D.int pr fun q hq => by rw [priceV_num (h3 q hq)]; rfl, allS_map due prD td fun q hq => by rw [dueV_due (h4 q hq).1 (h4 q hq).2]; rfl]
    rfl
  | @split m ds h1 h2 h3 ih =>
    have hne : (ds.map fun p => TL.tl (tx p)) ≠ [] := by
      intro z
      rw [List.map_eq_nil_iff] at z
      rw [z] at h1
      exact absurd h1 (by decide)
    rw [tx_fl, val_split, prt_of hne fun l hl => by
      obtain ⟨p, hp, rfl⟩ := List.mem_map.mp hl
      obtain ⟨k, hk, rfl⟩ := List.getElem_of_mem hp
      exact (h3 k hk).bal, Option.bind_some, List.map_map]
    rw [allS_map (ofL ∘ fun p => TL.tl (tx p)) dP ds fun p hp => by
      obtain ⟨k, hk, rfl⟩ := List.getElem_of_mem hp
      show val m (ofL (TL.tl (tx ds[k]))) = _
      rw [DL.ofL_tl]
      exact ih k hk, dP_split]
    rfl
end Tv
namespace Tv
open PySem DL Ti De Gw Bi Lc Be Tx En Rt Tg
def sgns : List Nat := [43, 95, 44, 46, 65, 9, 10, 58, 91, 42, 122, 126, 92, 39]
def al (c : Nat) : Bool := !sgns.contains c
def Wrd2 (w : List Nat) : Prop := w ≠ [] ∧ ∀ c ∈ w, al c = true ∧ c ≠ 32 ∧ c ≠ 40 ∧ c ≠ 41
theorem w2_dec {w : List Nat} (h : (!w.isEmpty && w.all fun c => al c && !(c == 32) && !(c == 40) && !(c == 41)) = true) : Wrd2 w := by
  rw [Bool.and_eq_true, List.all_eq_true] at h
  refine ⟨fun z => ?_, fun c hc => ?_⟩
  · rw [z] at h
    exact absurd h.1 (by decide)
  · have := h.2 c hc
    simp only [Bool.and_eq_true, Bool.not_eq_true', beq_eq_false_iff_ne] at this
    exact ⟨this.1.1.1, this.1.1.2, this.1.2, this.2⟩
theorem dig_w {c : Nat} (h : digB c = true) : al c = true ∧ c ≠ 32 ∧ c ≠ 40 ∧ c ≠ 41 ∧ c ≠ 61 := by
  unfold digB at h
  rw [Bool.and_eq_true, decide_eq_true_eq, decide_eq_true_eq] at h
  refine ⟨?_, by omega, by omega, by omega, by omega⟩
  unfold al sgns
  rw [Bool.not_eq_true', ← Bool.not_eq_true, List.contains_iff_mem]
  simp only [List.mem_cons, List.not_mem_nil, or_false]
  omega
theorem numV_w {w : Str} {k : Int} (h : numV w = some k) : TL.tl w ≠ [] ∧ ∀ c ∈ TL.tl w, digB c = true := by
  unfold numV at h
  split at h
  · rename_i hh
    rw [Bool.and_eq_true, Bool.and_eq_true, Bool.and_eq_true, decide_eq_true_eq] at hh
    refine ⟨fun z => ?_, List.all_eq_true.mp hh.2⟩
    have := hh.1.1.1
    rw [z] at this
    exact absurd this (by decide)
  · cases h
theorem numV_w2 {w : Str} {k : Int} (h : numV w = some k) : Wrd2 (TL.tl w) := ⟨(numV_w h).1, fun c hc => by
  obtain ⟨h1, h2, h3, h4, _⟩ := dig_w ((numV_w h).2 c hc)
  exact ⟨h1, h2, h3, h4⟩⟩
theorem priceV_w2 {w : Str} {k : Int} (h : priceV w = some k) : Wrd2 (TL.tl w) := by
  unfold priceV at h
  split at h
  · rename_i h1
    split at h
    · cases h
    · obtain ⟨j, hj, _⟩ := Option.map_eq_some_iff.mp h
      have hw := numV_w2 hj
      have e : TL.tl (ofL ((TL.tl w).drop 1)) = (TL.tl w).drop 1 := rfl
      rw [e] at hw
      refine ⟨fun z => ?_, fun c hc => ?_⟩
      · rw [z] at h1; cases h1
      · rw [← List.take_append_drop 1 (TL.tl w), h1] at hc
        rcases List.mem_append.mp hc with hc | hc
        · rw [List.mem_singleton.mp hc]; exact ⟨by decide, by decide, by decide, by decide⟩
        · exact hw.2 c hc
  · exact numV_w2 h
theorem par_app (S : List Nat) : ∀ (l acc u v : List Nat), TL.par S acc l = some (u, v) → acc ++ l = u ++ S ++ v := by
  intro l
  induction l with
  | nil => intro acc u v h; cases h
  | cons c l ih =>
    intro acc u v h
    have h : (if TL.pre S (c :: l) = true then some (acc, (c :: l).drop S.length) else TL.par S (acc ++ [c]) l) = some (u, v) := h
    by_cases hp : TL.pre S (c :: l) = true
    · rw [if_pos hp] at h
      cases h
      have e : (c :: l).take S.length = S := eq_of_beq hp
      rw [List.append_assoc]
      conv => lhs; rw [← List.take_append_drop S.length (c :: l), e]
    · rw [if_neg hp] at h
      have := ih _ _ _ h
      rw [← this, List.append_assoc]; rfl
theorem dueV_w2 {w : Str} {k : Int × Int} (h : dueV w = some k) : Wrd2 (TL.tl w) := by
  unfold dueV at h
  cases e1 : numV (partL w (Str.ofString "=")).1 with
  | none => rw [e1] at h; cases h
  | some a =>
    cases e2 : numV (partL w (Str.ofString "=")).2.2 with
    | none => rw [e1, e2] at h; cases h
    | some b =>
      have w1 := numV_w2 e1
      have w2 := numV_w2 e2
      cases e : TL.par (TL.tl (Str.ofString "=")) [] (TL.tl w) with
      | none =>
        have : (partL w (Str.ofString "=")).2.2 = Str.empty := by unfold partL; rw [e]
        rw [this] at w2
        exact absurd rfl w2.1
      | some q =>
        obtain ⟨u, v⟩ := q
        have p1 : TL.tl (partL w (Str.ofString "=")).1 = u := by unfold partL; rw [e]; rfl
        have p2 : TL.tl (partL w (Str.ofString "=")).2.2 = v := by unfold partL; rw [e]; rfl
        rw [p1] at w1
        rw [p2] at w2
        have ea := par_app _ _ _ _ _ e
        rw [List.nil_append, tl_eq] at ea
        rw [ea]
        refine ⟨by simp, fun c hc => ?_⟩
        rcases List.mem_append.mp hc with hc | hc
        · rcases List.mem_append.mp hc with hc | hc
          · exact w1.2 c hc
          · rw [List.mem_singleton.mp hc]; exact ⟨by decide, by decide, by decide, by decide⟩
        · exact w2.2 c hc
theorem allS_mem {F : Str → Option D} : ∀ {l : List Str} {ds : List D}, allS F l = some ds → ∀ a ∈ l, ∃ d, F a = some d
  | [], _, _, a, h => by cases h
  | b :: l, ds, h, a, ha => by
    unfold allS at h
    split at h
    · rename_i e1 e2
      rcases List.mem_cons.mp ha with rfl | ha
      · exact ⟨_, e1⟩
      · exact allS_mem e2 a ha
    · cases h
theorem leaf_words {ws : List Str} {d : D} (h : leafV ws = some d) : ws ≠ [] ∧ ∀ w ∈ ws, Wrd2 (TL.tl w) := by
  cases ws with
  | nil => cases h
  | cons w r =>
    refine ⟨by simp, fun v hv => ?_⟩
    rw [leafV_cons] at h
    split at h
    · rename_i hh
      obtain ⟨hw, hr⟩ := hh
      obtain ⟨x, rfl⟩ := List.length_eq_one_iff.mp hr
      obtain ⟨k, hk, _⟩ := Option.map_eq_some_iff.mp h
      rcases List.mem_cons.mp hv with rfl | hv
      · rw [hw]; exact w2_dec (by decide +kernel)
      · rw [List.mem_singleton.mp hv]; exact numV_w2 hk
    · split at h
      · rename_i hw
        obtain ⟨k, hk, _⟩ := Option.map_eq_some_iff.mp h
        rcases List.mem_cons.mp hv with rfl | hv
        · rw [hw]; exact w2_dec (by decide +kernel)
        · obtain ⟨d, hd⟩ := allS_mem hk v hv
          obtain ⟨k, hk, _⟩ := Option.map_eq_some_iff.mp hd
          exact numV_w2 hk
      · split at h
        · rename_i hh
          obtain ⟨hw, hm⟩ := hh
          split at h
          · rename_i e1 e2
            rcases List.mem_cons.mp hv with rfl | hv
            · rw [hw]; exact w2_dec (by decide +kernel)
            · have hi := List.idxOf_lt_length_iff.mpr hm
              have hv2 := hv
              rw [← List.take_append_drop (r.idxOf (Str.ofString "/")) r] at hv2
              rcases List.mem_append.mp hv2 with hv2 | hv2
              · obtain ⟨d, hd⟩ := allS_mem e1 v hv2
                obtain ⟨k, hk, _⟩ := Option.map_eq_some_iff.mp hd
                exact priceV_w2 hk
              · rw [List.drop_eq_getElem_cons hi, List.getElem_idxOf hi] at hv2
                rcases List.mem_cons.mp hv2 with rfl | hv2
                · exact w2_dec (by decide +kernel)
                · obtain ⟨d, hd⟩ := allS_mem e2 v hv2
                  obtain ⟨k, hk, _⟩ := Option.map_eq_some_iff.mp hd
                  exact dueV_w2 hk
          · cases h
        · cases h
theorem fl_cons (p : List Nat) (ps : List (List Nat)) : fl (p :: ps) = 40 :: (p ++ (41 :: fl ps)) := by
  unfold fl
  rw [List.map_cons, List.flatten_cons, List.cons_append, List.append_assoc]; rfl
theorem fl_app (a b : List (List Nat)) : fl (a ++ b) = fl a ++ fl b := by unfold fl; rw [List.map_append, List.flatten_append]
theorem prt_inv : ∀ (l : List Nat) (deep : Nat) (cur : List Nat) (parts : List (List Nat)) {ps : List (List Nat)}, prtL deep cur parts l = some ps → fl ps = (if deep = 0 then fl parts ++ l else fl parts ++ 40 :: (cur ++ l))
  | [], deep, cur, parts, ps, h => by
    unfold prtL at h
    split at h
    · rename_i hh
      cases h
      rw [if_pos hh.1, List.append_nil]
    · cases h
  | c :: l, deep, cur, parts, ps, h => by
    unfold prtL at h
    by_cases h40 : c = 40
    · subst h40
      rw [if_pos rfl] at h
      by_cases h0 : deep = 0
      · subst h0
        rw [if_pos rfl] at h
        rw [prt_inv l _ _ _ h, if_neg (by decide), if_pos rfl]
        rfl
      · rw [if_neg h0] at h
        rw [prt_inv l _ _ _ h, if_neg (by omega), if_neg h0, List.append_assoc]
        rfl
    rw [if_neg h40] at h
    by_cases h0 : deep = 0
    · rw [if_pos h0] at h; cases h
    rw [if_neg h0] at h
    by_cases h41 : c = 41
    · subst h41
      rw [if_pos rfl] at h
      by_cases h1 : deep = 1
      · rw [if_pos h1] at h
        rw [prt_inv l _ _ _ h, if_pos rfl, if_neg h0, fl_app, fl_cons, List.append_assoc]
        simp [fl]
      · rw [if_neg h1] at h
        rw [prt_inv l _ _ _ h, if_neg (by omega), if_neg h0, List.append_assoc]
        rfl
    · rw [if_neg h41] at h
      rw [prt_inv l _ _ _ h, if_neg h0, if_neg h0, List.append_assoc]
      rfl
theorem prt_cnt : ∀ (l : List Nat) (deep : Nat) (cur : List Nat) (parts : List (List Nat)) {ps : List (List Nat)}, prtL deep cur parts l = some ps → l.count 40 + deep = l.count 41
  | [], deep, cur, parts, ps, h => by
    unfold prtL at h
    split at h
    · rename_i hh
      rw [hh.1]; rfl
    · cases h
  | c :: l, deep, cur, parts, ps, h => by
    rw [List.count_cons, List.count_cons]
    unfold prtL at h
    by_cases h40 : c = 40
    · subst h40
      rw [if_pos rfl] at h
      rw [if_pos (by decide), if_neg (by decide)]
      by_cases h0 : deep = 0
      · rw [if_pos h0] at h
        have := prt_cnt l _ _ _ h
        omega
      · rw [if_neg h0] at h
        have := prt_cnt l _ _ _ h
        omega
    rw [if_neg h40] at h
    rw [if_neg (by simpa using h40)]
    by_cases h0 : deep = 0
    · rw [if_pos h0] at h; cases h
    rw [if_neg h0] at h
    by_cases h41 : c = 41
    · subst h41
      rw [if_pos rfl] at h
      rw [if_pos (by decide)]
      by_cases h1 : deep = 1
      · rw [if_pos h1] at h
        have := prt_cnt l _ _ _ h
        omega
      · rw [if_neg h1] at h
        have := prt_cnt l _ _ _ h
        omega
    · rw [if_neg h41] at h
      rw [if_neg (by simpa using h41)]
      have := prt_cnt l _ _ _ h
      omega
theorem val_made {r : Nat} {t : Str} {d : D} (h : val r t = some d) : (∃ ws, ws ≠ [] ∧ (∀ w ∈ ws, Wrd2 (TL.tl w)) ∧ TL.tl t = TL.joinL [32] (ws.map TL.tl)) ∨ (∃ r' ps, r = r' + 1 ∧ ps ≠ [] ∧ TL.tl t = [115, 112, 108, 105, 116, 32] ++ fl ps ∧ (fl ps).count 40 = (fl ps).count 41 ∧ ∀ p ∈ ps, ∃ d, val r' (ofL p) = some d) := by
  have hj : TL.tl t = TL.joinL [32] ((splitL t (Str.ofString " ")).map TL.tl) := by
    conv => lhs; rw [← split_back t (y := Str.ofString " ") (by decide +kernel)]
    rw [TL.tl_join, Rt.tl_sp]
  have leaf : leafV (splitL t (Str.ofString " ")) = some d → ∃ ws, ws ≠ [] ∧ (∀ w ∈ ws, Wrd2 (TL.tl w)) ∧ TL.tl t = TL.joinL [32] (ws.map TL.tl) := fun h => ⟨_, (leaf_words h).1, (leaf_words h).2, hj⟩
  cases r with
  | zero => exact .inl (leaf h)
  | succ r =>
    unfold val at h
    split at h
    case isFalse => exact .inl (leaf h)
    rename_i hh
    obtain ⟨ps, h1, h2⟩ := Option.bind_eq_some_iff.mp h
    obtain ⟨ds, h3, _⟩ := Option.map_eq_some_iff.mp h2
    obtain ⟨w, v, ws, e⟩ : ∃ w v ws, splitL t (Str.ofString " ") = w :: v :: ws := by
      match splitL t (Str.ofString " "), hh.2 with
      | w :: v :: ws, _ => exact ⟨w, v, ws, rfl⟩
    rw [e, List.headD_cons] at hh
    rw [e, List.map_cons, List.map_cons, joinL_cons _ _ (by simp), hh.1, tl_split0] at hj
    unfold prt at h1
    obtain ⟨qs, h4, rfl⟩ := Option.map_eq_some_iff.mp h1
    have hd : (TL.tl t).drop 6 = TL.joinL [32] (TL.tl v :: ws.map TL.tl) := by rw [hj]; rfl
    have hinv := prt_inv _ _ _ _ h4
    rw [if_pos rfl, show fl [] = [] from rfl, List.nil_append, hd] at hinv
    have hc := prt_cnt _ _ _ _ h4
    rw [hd, ← hinv, Nat.add_zero] at hc
    refine .inr ⟨r, qs, rfl, fun z => ?_, ?_, hc, fun p hp => ?_⟩
    · rw [z] at h4
      have : ∀ (l : List Nat) (deep : Nat) (cur : List Nat) (parts : List (List Nat)), prtL deep cur parts l = some [] → False := by
        intro l
        induction l with
        | nil =>
          intro deep cur parts h
          unfold prtL at h
          split at h
          · rename_i hh; cases h; exact hh.2 rfl
          · cases h
        | cons c l ih =>
          intro deep cur parts h
          unfold prtL at h
          split at h
          · split at h
            · exact ih _ _ _ h
            · exact ih _ _ _ h
          · split at h
            · cases h
            · split at h
              · split at h
                · exact ih _ _ _ h
                · exact ih _ _ _ h
              · exact ih _ _ _ h
      exact this _ _ _ _ h4
    · rw [hinv, hj]; rfl
    · exact allS_mem h3 (ofL p) (List.mem_map.mpr ⟨p, hp, rfl⟩)
def gr2 : List Nat → Bool
  | [] => true
  | [c] => al c && !(c == 32)
  | c :: d :: r => al c && !((c == 32) && (d == 32)) && gr2 (d :: r)
def gram2 : List Nat → Bool
  | [] => false
  | c :: r => !(c == 32) && gr2 (c :: r)
theorem gr2_tail {c : Nat} {l : List Nat} (h : gr2 (c :: l) = true) : gr2 l = true := by
  cases l with
  | nil => rfl
  | cons d r => unfold gr2 at h; rw [Bool.and_eq_true] at h; exact h.2
theorem gr2_suf : ∀ {a b : List Nat}, gr2 (a ++ b) = true → gr2 b = true
  | [], _, h => h
  | _ :: a, b, h => gr2_suf (a := a) (gr2_tail h)
theorem gr2_mem : ∀ {l : List Nat}, gr2 l = true → ∀ c ∈ l, al c = true
  | [], _, c, hc => by cases hc
  | [d], h, c, hc => by
    rw [List.mem_singleton.mp hc]
    unfold gr2 at h
    rw [Bool.and_eq_true] at h
    exact h.1
  | d :: e :: r, h, c, hc => by
    rcases List.mem_cons.mp hc with rfl | hc
    · unfold gr2 at h
      rw [Bool.and_eq_true, Bool.and_eq_true] at h
      exact h.1.1
    · exact gr2_mem (gr2_tail h) c hc
theorem gr2_app : ∀ {a b : List Nat}, gr2 a = true → gr2 b = true → gr2 (a ++ b) = true
  | [], b, _, hb => hb
  | [c], b, ha, hb => by
    have hc : (al c && !(c == 32)) = true := ha
    rw [Bool.and_eq_true, Bool.not_eq_true'] at hc
    cases b with
    | nil => exact ha
    | cons d r =>
      show (al c && !((c == 32) && (d == 32)) && gr2 (d :: r)) = true
      rw [hc.1, hc.2, hb]; rfl
  | c :: d :: r, b, ha, hb => by
    unfold gr2 at ha
    rw [Bool.and_eq_true] at ha
    show (al c && !((c == 32) && (d == 32)) && gr2 (d :: r ++ b)) = true
    rw [ha.1, gr2_app ha.2 hb]; rfl
theorem gr2_word : ∀ {w : List Nat}, (∀ c ∈ w, al c = true ∧ c ≠ 32) → gr2 w = true
  | [], _ => rfl
  | [c], h => by
    have := h c List.mem_cons_self
    show (al c && !(c == 32)) = true
    rw [this.1, show (c == 32) = false from beq_eq_false_iff_ne.mpr this.2]; rfl
  | c :: d :: r, h => by
    have hc := h c List.mem_cons_self
    show (al c && !((c == 32) && (d == 32)) && gr2 (d :: r)) = true
    rw [hc.1, show (c == 32) = false from beq_eq_false_iff_ne.mpr hc.2, gr2_word fun x hx => h x (List.mem_cons_of_mem _ hx)]; rfl
theorem gram2_gr {l : List Nat} (h : gram2 l = true) : gr2 l = true := by
  cases l with
  | nil => cases h
  | cons c r => unfold gram2 at h; rw [Bool.and_eq_true] at h; exact h.2
theorem gram2_word {w : List Nat} (h : Wrd2 w) : gram2 w = true := by
  obtain ⟨h1, h2⟩ := h
  cases w with
  | nil => exact absurd rfl h1
  | cons c r =>
    show (!(c == 32) && gr2 (c :: r)) = true
    rw [show (c == 32) = false from beq_eq_false_iff_ne.mpr (h2 c List.mem_cons_self).2.1, gr2_word fun x hx => ⟨(h2 x hx).1, (h2 x hx).2.1⟩]; rfl
theorem gr2_sp {l : List Nat} (h : gram2 l = true) : gr2 (32 :: l) = true := by
  cases l with
  | nil => cases h
  | cons c r =>
    unfold gram2 at h
    rw [Bool.and_eq_true, Bool.not_eq_true'] at h
    show (al 32 && !(((32 : Nat) == 32) && (c == 32)) && gr2 (c :: r)) = true
    rw [h.1, h.2]; rfl
theorem gram2_app {a b : List Nat} (ha : gram2 a = true) (hb : gr2 b = true) : gram2 (a ++ b) = true := by
  cases a with
  | nil => cases ha
  | cons c r =>
    have hg := gr2_app (gram2_gr ha) hb
    unfold gram2 at ha
    rw [Bool.and_eq_true] at ha
    show (!(c == 32) && gr2 (c :: r ++ b)) = true
    rw [ha.1, hg]; rfl
theorem gram2_join : ∀ {ws : List (List Nat)}, ws ≠ [] → (∀ w ∈ ws, Wrd2 w) → gram2 (TL.joinL [32] ws) = true
  | [], h, _ => absurd rfl h
  | [w], _, h => gram2_word (h w List.mem_cons_self)
  | w :: v :: ws, _, h => by
    rw [joinL_cons _ _ (by simp)]
    exact gram2_app (gram2_word (h w List.mem_cons_self)) (gr2_sp (gram2_join (by simp) fun x hx => h x (List.mem_cons_of_mem _ hx)))
theorem gr2_fl : ∀ {ps : List (List Nat)}, (∀ p ∈ ps, gram2 p = true) → gr2 (fl ps) = true
  | [], _ => rfl
  | p :: ps, h => by
    rw [fl_cons]
    have h1 := gram2_gr (h p List.mem_cons_self)
    have h2 := gr2_fl fun q hq => h q (List.mem_cons_of_mem _ hq)
    exact gr2_app (a := [40]) (by decide) (gr2_app h1 (gr2_app (a := [41]) (by decide) h2))
theorem val_gram : ∀ (r : Nat) (t : Str) (d : D), val r t = some d → gram2 (TL.tl t) = true := by
  intro r
  induction r with
  | zero =>
    intro t d h
    rcases val_made h with ⟨ws, h1, h2, h3⟩ | ⟨_, _, h, _⟩
    · rw [h3]
      exact gram2_join (by simpa using h1) fun w hw => by
        obtain ⟨z, hz, rfl⟩ := List.mem_map.mp hw
        exact h2 z hz
    · cases h
  | succ r ih =>
    intro t d h
    rcases val_made h with ⟨ws, h1, h2, h3⟩ | ⟨r', ps, h0, h1, h2, _, h3⟩
    · rw [h3]
      exact gram2_join (by simpa using h1) fun w hw => by
        obtain ⟨z, hz, rfl⟩ := List.mem_map.mp hw
        exact h2 z hz
    · cases h0
      have hp : ∀ p ∈ ps, gram2 p = true := fun p hp => by
        obtain ⟨d, hd⟩ := h3 p hp
        exact ih (ofL p) d hd
      rw [h2]
      have e : gr2 (32 :: fl ps) = true := by
        cases ps with
        | nil => exact absurd rfl h1
        | cons p ps =>
          have := gr2_fl hp
          rw [fl_cons] at this ⊢
          refine gr2_sp ?_
          show (!((40 : Nat) == 32) && gr2 (40 :: (p ++ (41 :: fl ps)))) = true
          rw [this]; rfl
      exact gram2_app (a := [115, 112, 108, 105, 116]) (by decide) e
theorem cnt_join : ∀ {ws : List (List Nat)} (s : Nat), s ≠ 32 → (∀ w ∈ ws, s ∉ w) → (TL.joinL [32] ws).count s = 0
  | [], _, _, _ => rfl
  | [w], s, _, h => List.count_eq_zero.mpr (h w List.mem_cons_self)
  | w :: v :: ws, s, hs, h => by
    rw [joinL_cons _ _ (by simp), List.count_append, List.count_append, cnt_join s hs fun x hx => h x (List.mem_cons_of_mem _ hx), List.count_eq_zero.mpr (h w List.mem_cons_self), List.count_eq_zero.mpr (show s ∉ [32] from fun z => hs (List.mem_singleton.mp z))]
theorem val_cnt {r : Nat} {t : Str} {d : D} (h : val r t = some d) : (TL.tl t).count 40 = (TL.tl t).count 41 := by
  rcases val_made h with ⟨ws, h1, h2, h3⟩ | ⟨r', ps, h0, h1, h2, h3, _⟩
  · rw [h3, cnt_join 40 (by decide) fun w hw hm => by
      obtain ⟨z, hz, rfl⟩ := List.mem_map.mp hw
      exact ((h2 z hz).2 _ hm).2.2.1 rfl, cnt_join 41 (by decide) fun w hw hm => by
      obtain ⟨z, hz, rfl⟩ := List.mem_map.mp hw
      exact ((h2 z hz).2 _ hm).2.2.2 rfl]
  · rw [h2, List.count_append, List.count_append, h3]
    rfl
theorem no_gram {r : Nat} {t : Str} (h : gr2 (TL.tl t) = false) : val r t = none := by
  cases e : val r t with
  | none => rfl
  | some d =>
    have := gram2_gr (val_gram r t d e)
    rw [h] at this
    cases this
theorem no_gram1 {r : Nat} {t : Str} (h : gram2 (TL.tl t) = false) : val r t = none := by
  cases e : val r t with
  | none => rfl
  | some d =>
    have := val_gram r t d e
    rw [h] at this
    cases this
theorem gr2_not_sp {a b : List Nat} : gr2 (a ++ 32 :: 32 :: b) = false := by
  rw [← Bool.not_eq_true]
  intro h
  have := gr2_suf (a := a) h
  unfold gr2 at this
  rw [Bool.and_eq_true, Bool.and_eq_true] at this
  exact absurd this.1.2 (by decide)
theorem gr2_not_end {a : List Nat} : gr2 (a ++ [32]) = false := by
  rw [← Bool.not_eq_true]
  intro h
  have := gr2_suf (a := a) h
  exact absurd this (by decide)
theorem gr2_not_mem {l : List Nat} {c : Nat} (hc : c ∈ l) (h : al c = false) : gr2 l = false := by
  rw [← Bool.not_eq_true]
  intro z
  rw [gr2_mem z c hc] at h
  cases h
end Tv
namespace Tv
open PySem DL Ti De Gw Bi Lc Be Tx En Rt Tg
def badC (t : Str) : Bool :=
  (leafV (splitL t (Str.ofString " "))).isNone && (!(decide ((splitL t (Str.ofString " ")).headD Str.empty = Str.ofString "split") && decide (1 < (splitL t (Str.ofString " ")).length)) || match prt ((TL.tl t).drop 6) with
    | none => true
    | some ps => ps.any fun p => (leafV (splitL p (Str.ofString " "))).isNone && !(decide ((splitL p (Str.ofString " ")).headD Str.empty = Str.ofString "split") && decide (1 < (splitL p (Str.ofString " ")).length)))
theorem allS_none {F : Str → Option D} {a : Str} (h : F a = none) : ∀ {l : List Str}, a ∈ l → allS F l = none
  | b :: l, ha => by
    unfold allS
    rcases List.mem_cons.mp ha with rfl | ha
    · rw [h]
    · rw [allS_none h ha]
      cases F b <;> rfl
theorem none_leaf {t : Str} (h1 : (leafV (splitL t (Str.ofString " "))).isNone = true) (h2 : (decide ((splitL t (Str.ofString " ")).headD Str.empty = Str.ofString "split") && decide (1 < (splitL t (Str.ofString " ")).length)) = false) (r : Nat) : val r t = none := by
  have h1 := Option.isNone_iff_eq_none.mp h1
  cases r with
  | zero => exact h1
  | succ r =>
    unfold val
    rw [if_neg fun z => by rw [decide_eq_true z.1, decide_eq_true z.2] at h2; cases h2]
    exact h1
theorem badC_none {t : Str} (h : badC t = true) (r : Nat) : val r t = none := by
  unfold badC at h
  rw [Bool.and_eq_true, Bool.or_eq_true] at h
  obtain ⟨h1, h2⟩ := h
  rcases h2 with h2 | h2
  · rw [Bool.not_eq_true'] at h2
    exact none_leaf h1 h2 r
  cases r with
  | zero => exact Option.isNone_iff_eq_none.mp h1
  | succ r =>
    unfold val
    split
    · cases e : prt ((TL.tl t).drop 6) with
      | none => rfl
      | some ps =>
        rw [e] at h2
        dsimp only at h2
        obtain ⟨p, hp, hq⟩ := List.any_eq_true.mp h2
        rw [Bool.and_eq_true, Bool.not_eq_true'] at hq
        rw [Option.bind_some, allS_none (none_leaf hq.1 hq.2 r) hp]
        rfl
    · exact Option.isNone_iff_eq_none.mp h1
def dip : Nat → List Nat → Bool
  | d, [] => d == 0
  | d, c :: l => if c = 40 then dip (d + 1) l else if c = 41 then (match d with | 0 => false | d + 1 => dip d l) else dip d l
def BB (l : List Nat) : Prop := ∀ (deep : Nat) (cur : List Nat) (parts : List (List Nat)) (rest : List Nat), 1 ≤ deep → prtL deep cur parts (l ++ rest) = prtL deep (cur ++ l) parts rest
theorem bb_dip : ∀ (l : List Nat) (d deep : Nat) (cur : List Nat) (parts : List (List Nat)) (rest : List Nat), 1 ≤ deep → dip d l = true → prtL (deep + d) cur parts (l ++ rest) = prtL deep (cur ++ l) parts rest
  | [], d, deep, cur, parts, rest, hd, h => by
    have h : (d == 0) = true := h
    rw [beq_iff_eq] at h
    subst h
    rw [List.append_nil]; rfl
  | c :: l, d, deep, cur, parts, rest, hd, h => by
    rw [List.cons_append]
    conv => lhs; unfold prtL
    unfold dip at h
    by_cases h40 : c = 40
    · rw [if_pos h40] at h
      rw [if_pos h40, if_neg (by omega), Nat.add_assoc, bb_dip l (d + 1) deep _ parts rest hd h, List.append_assoc]
      rfl
    rw [if_neg h40] at h
    rw [if_neg h40, if_neg (by omega)]
    by_cases h41 : c = 41
    · rw [if_pos h41] at h
      rw [if_pos h41]
      cases d with
      | zero => cases h
      | succ d =>
        rw [if_neg (by omega), show deep + (d + 1) - 1 = deep + d by omega, bb_dip l d deep _ parts rest hd h, List.append_assoc]
        rfl
    · rw [if_neg h41] at h
      rw [if_neg h41, bb_dip l d deep _ parts rest hd h, List.append_assoc]
      rfl
theorem BB.of {l : List Nat} (h : dip 0 l = true) : BB l := fun deep cur parts rest hd => bb_dip l 0 deep cur parts rest hd h
theorem BB.bal {l : List Nat} (h : Bal l) : BB l := fun deep cur parts rest hd => prt_bal h deep cur parts rest hd
theorem BB.app {a b : List Nat} (ha : BB a) (hb : BB b) : BB (a ++ b) := fun deep cur parts rest hd => by
  rw [List.append_assoc, ha deep cur parts _ hd, hb deep _ parts _ hd, List.append_assoc]
theorem BB.br {a : List Nat} (ha : BB a) : BB (40 :: (a ++ [41])) := fun deep cur parts rest hd => by
  rw [List.cons_append, List.append_assoc]
  conv => lhs; unfold prtL
  rw [if_pos rfl, if_neg (by omega), ha (deep + 1) _ parts _ (by omega)]
  show prtL (deep + 1) _ parts (41 :: rest) = _
  conv => lhs; unfold prtL
  rw [if_neg (by decide), if_neg (by omega), if_pos rfl, if_neg (by omega), show deep + 1 - 1 = deep by omega]
  congr 1
  simp
theorem BB.fl : ∀ {ps : List (List Nat)}, (∀ p ∈ ps, BB p) → BB (fl ps)
  | [], _ => BB.of (by decide)
  | p :: ps, h => by
    have e : Tv.fl (p :: ps) = (40 :: (p ++ [41])) ++ Tv.fl ps := rfl
    rw [e]
    exact (BB.br (h p List.mem_cons_self)).app (BB.fl fun q hq => h q (List.mem_cons_of_mem _ hq))
theorem prt_flB : ∀ (ps parts : List (List Nat)), (∀ p ∈ ps, BB p) → prtL 0 [] parts (fl ps) = prtL 0 [] (parts ++ ps) []
  | [], parts, _ => by rw [List.append_nil]; rfl
  | p :: ps, parts, h => by
    rw [fl_cons]
    conv => lhs; unfold prtL
    rw [if_pos rfl, if_pos rfl, h p List.mem_cons_self 1 [] parts _ (Nat.le_refl _)]
    conv => lhs; unfold prtL
    rw [if_neg (by decide), if_neg (by decide), if_pos rfl, if_pos rfl, List.nil_append, prt_flB ps (parts ++ [p]) fun q hq => h q (List.mem_cons_of_mem _ hq), List.append_assoc]
    rfl
theorem prt_ofB {ps : List (List Nat)} (hne : ps ≠ []) (h : ∀ p ∈ ps, BB p) : prt (fl ps) = some (ps.map ofL) := by
  unfold prt
  rw [prt_flB ps [] h, List.nil_append]
  unfold prtL
  rw [if_pos ⟨rfl, hne⟩]
  rfl
def dl (l : List Nat) : Int := (l.count 40 : Int) - (l.count 41 : Int)
theorem dl_app (a b : List Nat) : dl (a ++ b) = dl a + dl b := by unfold dl; rw [List.count_append, List.count_append]; omega
theorem dl_br (a : List Nat) : dl (40 :: (a ++ [41])) = dl a := by
  unfold dl
  rw [List.count_cons, List.count_cons, List.count_append, List.count_append]
  rw [show List.count 40 [41] = 0 from rfl, show List.count 41 [41] = 1 from rfl, if_pos (by decide), if_neg (by decide)]
  omega
theorem dl_fl0 : ∀ {ps : List (List Nat)}, (∀ p ∈ ps, dl p = 0) → dl (fl ps) = 0
  | [], _ => rfl
  | p :: ps, h => by
    have e : fl (p :: ps) = (40 :: (p ++ [41])) ++ fl ps := rfl
    rw [e, dl_app, dl_br, h p List.mem_cons_self, dl_fl0 fun q hq => h q (List.mem_cons_of_mem _ hq)]
    rfl
theorem dl_set (u : List Nat) : ∀ {ps : List (List Nat)} {k : Nat}, (∀ p ∈ ps, dl p = 0) → k < ps.length → dl (fl (ps.set k u)) = dl u
  | p :: ps, 0, h, _ => by
    have e : fl ((p :: ps).set 0 u) = (40 :: (u ++ [41])) ++ fl ps := rfl
    rw [e, dl_app, dl_br, dl_fl0 fun q hq => h q (List.mem_cons_of_mem _ hq)]
    omega
  | p :: ps, k + 1, h, hk => by
    have e : fl ((p :: ps).set (k + 1) u) = (40 :: (p ++ [41])) ++ fl (ps.set k u) := rfl
    rw [e, dl_app, dl_br, h p List.mem_cons_self, dl_set u (fun q hq => h q (List.mem_cons_of_mem _ hq)) (by rw [List.length_cons] at hk; omega)]
    omega
theorem val_dl {r : Nat} {t : Str} (h : dl (TL.tl t) ≠ 0) : val r t = none := by
  cases e : val r t with
  | none => rfl
  | some d =>
    have := val_cnt e
    unfold dl at h
    omega
def BadT (t : Str) : Prop := (∀ r, val r t = none) ∧ (BB (TL.tl t) ∨ dl (TL.tl t) ≠ 0)
def badB (t : Str) : Bool := badC t && (dip 0 (TL.tl t) || !decide (dl (TL.tl t) = 0)) && decide (t.length ≤ 200) && (TL.tl t).all fun c => decide (c < 256)
theorem BadT.of {t : Str} (h : badB t = true) : BadT t ∧ t.length ≤ 200 ∧ ∀ c ∈ TL.tl t, c < 256 := by
  unfold badB at h
  rw [Bool.and_eq_true, Bool.and_eq_true, Bool.and_eq_true, Bool.or_eq_true, Bool.not_eq_true', decide_eq_false_iff_not, decide_eq_true_eq, List.all_eq_true] at h
  exact ⟨⟨fun r => badC_none h.1.1.1 r, h.1.1.2.imp BB.of id⟩, h.1.2, fun c hc => of_decide_eq_true (h.2 c hc)⟩
inductive Put (bad : Str) : Pp → Str → Prop
  | here {p : Pp} : Put bad p bad
  | sub {ds : List Pp} {k : Nat} {t : Str} (h : k < ds.length) : Put bad ds[k] t → Put bad (.split ds) (Str.ofString "split " ++ ofL (fl ((ds.map fun p => TL.tl (tx p)).set k (TL.tl t))))
theorem Rd.kid {m : Nat} {ds : List Pp} (h : Rd m (.split ds)) : ∀ p ∈ ds, ∃ m', Rd m' p := by
  cases h with
  | split h1 h2 h3 =>
    intro p hp
    obtain ⟨k, hk, rfl⟩ := List.getElem_of_mem hp
    exact ⟨_, h3 k hk⟩
theorem Put.bad {bad : Str} (hb : BadT bad) {p : Pp} {t : Str} (h : Put bad p t) : ∀ m, Rd m p → BadT t := by
  induction h with
  | here => exact fun _ _ => hb
  | @sub ds k t hk _ ih =>
    intro m M
    obtain ⟨m', M'⟩ := Rd.kid M ds[k] (List.getElem_mem _)
    obtain ⟨i1, i2⟩ := ih m' M'
    have hne : (ds.map fun p => TL.tl (tx p)).set k (TL.tl t) ≠ [] := fun z => by
      have := congrArg List.length z
      rw [List.length_set, List.length_map] at this
      rw [this] at hk
      exact absurd hk (by simp)
    have etl : TL.tl (Str.ofString "split " ++ ofL (fl ((ds.map fun p => TL.tl (tx p)).set k (TL.tl t)))) = [115, 112, 108, 105, 116, 32] ++ fl ((ds.map fun p => TL.tl (tx p)).set k (TL.tl t)) := by
      rw [TL.tl_append, tl_split]; rfl
    rcases i2 with i2 | i2
    · have hB : ∀ q ∈ (ds.map fun p => TL.tl (tx p)).set k (TL.tl t), BB q := fun q hq => by
        rcases List.mem_or_eq_of_mem_set hq with hq | rfl
        · obtain ⟨p, hp, rfl⟩ := List.mem_map.mp hq
          obtain ⟨m2, M2⟩ := Rd.kid M p hp
          exact BB.bal M2.bal
        · exact i2
      refine ⟨fun r => ?_, .inl ?_⟩
      · cases r with
        | zero => exact val_split0 _
        | succ r =>
          rw [val_split, prt_ofB hne hB, Option.bind_some, allS_none (a := t) (i1 r) (by
            refine List.mem_map.mpr ⟨TL.tl t, ?_, DL.ofL_tl t⟩
            exact List.mem_iff_getElem.mpr ⟨k, by rw [List.length_set, List.length_map]; exact hk, List.getElem_set_self _⟩)]
          rfl
      · rw [etl]
        exact (BB.of (by decide)).app (BB.fl hB)
    · have hd : dl (TL.tl (Str.ofString "split " ++ ofL (fl ((ds.map fun p => TL.tl (tx p)).set k (TL.tl t))))) ≠ 0 := by
        rw [etl, dl_app, dl_set _ (fun q hq => by
          obtain ⟨p, hp, rfl⟩ := List.mem_map.mp hq
          obtain ⟨m2, M2⟩ := Rd.kid M p hp
          have := val_cnt (val_tx m2 p M2)
          unfold dl
          omega) (by rw [List.length_map]; exact hk), show dl [115, 112, 108, 105, 116, 32] = 0 from rfl]
        omega
      exact ⟨fun r => val_dl hd, .inr hd⟩
theorem fl_len0 : ∀ {ds : List Pp}, (∀ p ∈ ds, (tx p).length ≤ sz p) → (fl (ds.map fun p => TL.tl (tx p))).length ≤ szs ds
  | [], _ => Nat.le_refl _
  | p :: ds, h => by
    have e : fl ((p :: ds).map fun p => TL.tl (tx p)) = (40 :: (TL.tl (tx p) ++ [41])) ++ fl (ds.map fun p => TL.tl (tx p)) := rfl
    have i := fl_len0 fun q hq => h q (List.mem_cons_of_mem _ hq)
    have h1 := h p List.mem_cons_self
    have e3 : szs (p :: ds) = 2 + sz p + szs ds := rfl
    have e4 : (TL.tl (tx p)).length = (tx p).length := rfl
    rw [e, e3, List.length_append, List.length_cons, List.length_append, List.length_singleton]
    omega
theorem fl_len : ∀ {ds : List Pp} {u : List Nat} {k : Nat} (hk : k < ds.length), (∀ p ∈ ds, (tx p).length ≤ sz p) → (fl ((ds.map fun p => TL.tl (tx p)).set k u)).length + sz ds[k] ≤ szs ds + u.length
  | p :: ds, u, 0, _, h => by
    have e : fl (((p :: ds).map fun p => TL.tl (tx p)).set 0 u) = (40 :: (u ++ [41])) ++ fl (ds.map fun p => TL.tl (tx p)) := rfl
    have i := fl_len0 fun q hq => h q (List.mem_cons_of_mem _ hq)
    have e3 : szs (p :: ds) = 2 + sz p + szs ds := rfl
    rw [e, e3, List.length_append, List.length_cons, List.length_append, List.length_singleton, List.getElem_cons_zero]
    omega
  | p :: ds, u, k + 1, hk, h => by
    have e : fl (((p :: ds).map fun p => TL.tl (tx p)).set (k + 1) u) = (40 :: (TL.tl (tx p) ++ [41])) ++ fl ((ds.map fun p => TL.tl (tx p)).set k u) := rfl
    have i := fl_len (u := u) (k := k) (by rw [List.length_cons] at hk; omega) fun q hq => h q (List.mem_cons_of_mem _ hq)
    have h1 := h p List.mem_cons_self
    have e3 : szs (p :: ds) = 2 + sz p + szs ds := rfl
    have e4 : (TL.tl (tx p)).length = (tx p).length := rfl
    rw [e, e3, List.length_append, List.length_cons, List.length_append, List.length_singleton, List.getElem_cons_succ]
    omega
theorem mem_fl {ps : List (List Nat)} {c : Nat} (h : c ∈ fl ps) : c = 40 ∨ c = 41 ∨ ∃ p ∈ ps, c ∈ p := by
  unfold fl at h
  obtain ⟨l, hl, hc⟩ := List.mem_flatten.mp h
  obtain ⟨p, hp, rfl⟩ := List.mem_map.mp hl
  rcases List.mem_cons.mp hc with rfl | hc
  · exact .inl rfl
  · rcases List.mem_append.mp hc with hc | hc
    · exact .inr (.inr ⟨p, hp, hc⟩)
    · exact .inr (.inl (List.mem_singleton.mp hc))
theorem Put.size {bad : Str} (hb : ∀ c ∈ TL.tl bad, c < 256) {p : Pp} {t : Str} (h : Put bad p t) : ∀ m, Rd m p → t.length ≤ sz p + bad.length ∧ ∀ c ∈ TL.tl t, c < 256 := by
  induction h with
  | here => exact fun _ _ => ⟨by omega, hb⟩
  | @sub ds k t hk _ ih =>
    intro m M
    obtain ⟨m', M'⟩ := Rd.kid M ds[k] (List.getElem_mem _)
    obtain ⟨i1, i2⟩ := ih m' M'
    have hl := fl_len (u := TL.tl t) hk fun p hp => by
      obtain ⟨m2, M2⟩ := Rd.kid M p hp
      exact M2.tk.len
    have e1 : (TL.tl t).length = t.length := rfl
    refine ⟨?_, fun c hc => ?_⟩
    · rw [len_app, w_split, sz_split]
      have e2 : (ofL (fl ((ds.map fun p => TL.tl (tx p)).set k (TL.tl t)))).length = (fl ((ds.map fun p => TL.tl (tx p)).set k (TL.tl t))).length := rfl
      omega
    · rw [TL.tl_append, tl_split] at hc
      rcases List.mem_append.mp hc with hc | hc
      · simp only [List.mem_cons, List.not_mem_nil, or_false] at hc
        omega
      · have hc : c ∈ fl ((ds.map fun p => TL.tl (tx p)).set k (TL.tl t)) := hc
        rcases mem_fl hc with rfl | rfl | ⟨q, hq, hc⟩
        · omega
        · omega
        · rcases List.mem_or_eq_of_mem_set hq with hq | rfl
          · obtain ⟨p, hp, rfl⟩ := List.mem_map.mp hq
            obtain ⟨m2, M2⟩ := Rd.kid M p hp
            exact M2.codes c hc
          · exact i2 c hc
end Tv
namespace Tv
open PySem DL Ti De Gw Bi Lc Be Tx En Rt Tg
def one61 : Str := Str.ofString "1111111111111111111111111111111111111111111111111111111111111"
def nine61 : Str := Str.ofString "9999999999999999999999999999999999999999999999999999999999999"
def badsP : List Str := [Str.ofString "tie", Str.ofString "tie ", Str.ofString "tie 01", Str.ofString "tie -1", Str.ofString "tie +1", Str.ofString "tie 1_0", Str.ofString "tie 1 2", Str.ofString "tie x", Str.ofString "tie 00", Str.ofString "tie0", Str.ofString "Tie 0", Str.ofString "tie 0=1", Str.ofString "tie " ++ one61, Str.ofString "tie  1", Str.ofString "short -1", Str.ofString "short 01", Str.ofString "short 1,2", Str.ofString "short  1", Str.ofString "short x", Str.ofString "short /", Str.ofString "short " ++ nine61 ++ Str.ofString " 1", Str.ofString "dear 1 " ++ nine61 ++ Str.ofString " /", Str.ofString "dear / 1=2 / 3=4", Str.ofString "short " ++ nine61, Str.ofString "shortest", Str.ofString "short1", Str.ofString "dear", Str.ofString "dear 1", Str.ofString "dear 1 2", Str.ofString "dear / 1", Str.ofString "dear /1=2", Str.ofString "dear 1/ 1=2", Str.ofString "dear -0 /", Str.ofString "dear --1 /", Str.ofString "dear - /", Str.ofString "dear -01 /", Str.ofString "dear 01 /", Str.ofString "dear / =", Str.ofString "dear / 1=", Str.ofString "dear / =1", Str.ofString "dear / 1=-1", Str.ofString "dear / -1=1", Str.ofString "dear / 1=2=3", Str.ofString "dear / 01=1", Str.ofString "dear / 1=01", Str.ofString "dear / 1 = 2", Str.ofString "dear / /", Str.ofString "dear 1 / 2=3 /", Str.ofString "dear  /", Str.ofString "dear -" ++ one61 ++ Str.ofString " /", Str.ofString "dear / 1=" ++ one61, Str.ofString "dear / " ++ one61 ++ Str.ofString "=1", Str.ofString "plan 1", Str.ofString "split", Str.ofString "split ", Str.ofString "split ()", Str.ofString "split()", Str.ofString "split (tie 0) (tie 1)", Str.ofString "split (tie 0)tie 1", Str.ofString "split tie 0", Str.ofString "split [tie 0]", Str.ofString "split ((tie 0))", Str.ofString "split (tie 0", Str.ofString "split tie 0)", Str.ofString "split (tie 0))", Str.ofString "", Str.ofString " ", Str.ofString "(tie 0)", Str.ofString "split (tie 0)()", Str.ofString "split (tie 0)(tie)", Str.ofString "split(tie 0)", Str.ofString "tie 0 (tie 0)", Str.ofString "short 1 (tie 0)", Str.ofString "/", Str.ofString "0", Str.ofString "-1"]
theorem rep1 : dMulS (D.str (Str.ofString "1")) (D.int 61) = .ok (.str one61) := by rfl
theorem rep9 : dMulS (D.str (Str.ofString "9")) (D.int 61) = .ok (.str nine61) := by rfl
theorem bads_ok : badsP.all badB = true := by decide +kernel
theorem pickP {xs : List Str} (hx : xs ≠ []) (c : Int) : ∃ x ∈ xs, dIxA (.lst (xs.map .str)) (.int (c % (xs.length : Int))) = .ok (.str x) := by
  have h0 : 0 < xs.length := List.length_pos_iff.mpr hx
  have h1 : 0 ≤ c % (xs.length : Int) := Int.emod_nonneg _ (by omega)
  have h2 : c % (xs.length : Int) < (xs.length : Int) := Int.emod_lt_of_pos _ (by omega)
  have h3 : (c % (xs.length : Int)).toNat < xs.length := by omega
  exact ⟨xs[(c % (xs.length : Int)).toNat], List.getElem_mem _, DL.ixA_lst h1 (by rw [List.getElem?_map, List.getElem?_eq_getElem h3]; rfl)⟩
theorem bad_eq (c : Int) : ∃ o t, Fn.law_bad_1e63 [.int c] = .ok (o, .str t) ∧ badB t = true := by
  unfold Fn.law_bad_1e63; rw [DL.ap_body (by rfl)]; unfold Fn.law_bad_1e63_g
  walk_at "dl"
  repeat (first | (rw [rep1]; walk_at "dl") | (rw [rep9]; walk_at "dl") | (rw [DL.small_of (by decide +kernel)]; walk_at "dl"))
  rw [DL.mod_pos (by decide)]
  obtain ⟨t, ht, e⟩ := pickP (xs := badsP) (List.cons_ne_nil _ _) c
  refine ⟨false, t, ?_, List.all_eq_true.mp bads_ok t ht⟩
  show endD (noE (retK (dIxA (.lst (badsP.map .str)) (.int (c % (badsP.length : Int)))) false)) = _
  rw [e]
  rfl
end Tv
namespace Wn
open PySem DL Ti De Gw Bi Lc Be Tx En
theorem dP_tie (k : Int) : dP (.tie k) = .tup [.str (Str.ofString "tie"), .int k] := rfl
theorem dP_short (qs : List Int) : dP (.short qs) = .tup [.str (Str.ofString "short"), .lst (qs.map .int)] := rfl
theorem dP_dear (pr : List Int) (td : List (Int × Int)) : dP (.dear pr td) = .tup [.str (Str.ofString "dear"), .lst (pr.map .int), .lst (td.map prD)] := rfl
theorem m1 : Str.ofString "tie" ≠ Str.ofString "split" := by decide +kernel
theorem m2 : Str.ofString "short" ≠ Str.ofString "split" := by decide +kernel
theorem m3 : Str.ofString "short" ≠ Str.ofString "tie" := by decide +kernel
theorem m4 : Str.ofString "dear" ≠ Str.ofString "split" := by decide +kernel
theorem m5 : Str.ofString "dear" ≠ Str.ofString "tie" := by decide +kernel
theorem m6 : Str.ofString "dear" ≠ Str.ofString "short" := by decide +kernel
theorem take_snoc {α : Type} {xs : List α} {i : Nat} {a : α} (h : xs[i]? = some a) : xs.take (i + 1) = xs.take i ++ [a] := by
  rw [List.take_add_one, h]; rfl
theorem cat_snoc (t : Str) (l : List Str) (y : Str) : cat t (l ++ [y]) = cat t l ++ Str.ofString " " ++ y := by
  rw [cat_two]; rfl
theorem written_eq : ∀ (m : Nat) (p : Pp), Tk m p → sz p ≤ 16000000 → ∀ n, m < n → ∃ o, Fn.law_written_a355 n [dP p] = .ok (o, .str (tx p)) := by
  intro m p M
  induction M with
  | @tie m k h =>
    intro hz n hn
    obtain ⟨n, rfl⟩ : ∃ n', n = n' + 1 := ⟨n - 1, by omega⟩
    have hgo : ∀ ds, Fn.law_written_a355 (n + 1) ds = DL.bodyN 1 6 (Fn.law_written_a355_g (Fn.law_written_a355 n)) ds := fun _ => rfl
    rw [hgo, DL.ap_body (by rfl)]; unfold Fn.law_written_a355_g
    rw [dP_tie]
    walk_at "dl"
    rw [decide_eq_false m1]
    walk_at "dl"
    rw [str_num h]
    walk_at "dl"
    rw [sm (by have := num_len h; rw [w_tie]; omega)]
    walk_at "dl"
    exact ⟨_, rfl⟩
  | @short m qs h1 h2 =>
    intro hz n hn
    obtain ⟨n, rfl⟩ : ∃ n', n = n' + 1 := ⟨n - 1, by omega⟩
    have hgo : ∀ ds, Fn.law_written_a355 (n + 1) ds = DL.bodyN 1 6 (Fn.law_written_a355_g (Fn.law_written_a355 n)) ds := fun _ => rfl
    rw [hgo, DL.ap_body (by rfl)]; unfold Fn.law_written_a355_g
    rw [dP_short]
    walk_at "dl"
    rw [decide_eq_false m2]
    walk_at "dl"
    rw [decide_eq_false m3]
    walk_at "dl"
    obtain ⟨ρ', g1, z2, g2⟩ := DL.loop_at (g := gSet 2) (gb := Fn.law_written_a355_b2 (Fn.law_written_a355 n)) D.int qs
      (fun i ρ => ∃ z2 : DL.Slot, ρ = [some (false, D.tup [D.str (Str.ofString "short"), D.lst (qs.map D.int)]), some (false, .str (cat (Str.ofString "short") ((qs.take i).map num))), z2, none, none, none])
      [some (false, D.tup [D.str (Str.ofString "short"), D.lst (qs.map D.int)]), some (false, .str (Str.ofString "short")), none, none, none, none] ⟨none, rfl⟩ (fun i a ρ ha ⟨z2, hρ⟩ => by
        subst hρ
        have hm := List.mem_of_getElem? ha
        refine ⟨_, rfl, ?_⟩
        unfold Fn.law_written_a355_b2
        walk_at "dl"
        rw [str_num (h2 a hm)]
        walk_at "dl"
        have u1 := num_len (h2 a hm)
        have u2 := Tk.short_len (qs := qs.take i) fun q hq => h2 q (List.mem_of_mem_take hq)
        have u3 : (qs.take i).length ≤ 100 := by rw [List.length_take]; omega
        rw [sm (by rw [sp1]; omega)]
        walk_at "dl"
        rw [sm (by rw [len_app, sp1]; omega)]
        walk_at "dl"
        rw [show cat (Str.ofString "short") ((qs.take (i + 1)).map num) = cat (Str.ofString "short") ((qs.take i).map num) ++ Str.ofString " " ++ num a by rw [take_snoc ha, List.map_append, List.map_singleton, cat_snoc]]
        exact ⟨_, rfl, _, rfl⟩)
    rw [g1]
    subst g2
    walk_at "dl"
    rw [decide_eq_false m6.symm]
    walk_at "dl"
    rw [List.take_length]
    exact ⟨_, rfl⟩
  | @dear m pr td h1 h2 h3 h4 =>
    intro hz n hn
    obtain ⟨n, rfl⟩ : ∃ n', n = n' + 1 := ⟨n - 1, by omega⟩
    have hgo : ∀ ds, Fn.law_written_a355 (n + 1) ds = DL.bodyN 1 6 (Fn.law_written_a355_g (Fn.law_written_a355 n)) ds := fun _ => rfl
    rw [hgo, DL.ap_body (by rfl)]; unfold Fn.law_written_a355_g
    rw [dP_dear]
    walk_at "dl"
    rw [decide_eq_false m4]
    walk_at "dl"
    rw [decide_eq_false m5]
    walk_at "dl"
    obtain ⟨ρ', g1, z2, g2⟩ := DL.loop_at (g := gSet 2) (gb := Fn.law_written_a355_b2 (Fn.law_written_a355 n)) D.int pr
      (fun i ρ => ∃ z2 : DL.Slot, ρ = [some (false, D.tup [D.str (Str.ofString "dear"), D.lst (pr.map D.int), D.lst (td.map prD)]), some (false, .str (cat (Str.ofString "dear") ((pr.take i).map num))), z2, none, none, none])
      [some (false, D.tup [D.str (Str.ofString "dear"), D.lst (pr.map D.int), D.lst (td.map prD)]), some (false, .str (Str.ofString "dear")), none, none, none, none] ⟨none, rfl⟩ (fun i a ρ ha ⟨z2, hρ⟩ => by
        subst hρ
        have hm := List.mem_of_getElem? ha
        refine ⟨_, rfl, ?_⟩
        unfold Fn.law_written_a355_b2
        walk_at "dl"
        rw [str_num (h3 a hm)]
        walk_at "dl"
        have u1 := num_len (h3 a hm)
        have u2 := Tk.dear1_len (qs := pr.take i) fun q hq => h3 q (List.mem_of_mem_take hq)
        have u3 : (pr.take i).length ≤ 100 := by rw [List.length_take]; omega
        rw [sm (by rw [sp1]; omega)]
        walk_at "dl"
        rw [sm (by rw [len_app, sp1]; omega)]
        walk_at "dl"
        rw [show cat (Str.ofString "dear") ((pr.take (i + 1)).map num) = cat (Str.ofString "dear") ((pr.take i).map num) ++ Str.ofString " " ++ num a by rw [take_snoc ha, List.map_append, List.map_singleton, cat_snoc]]
        exact ⟨_, rfl, _, rfl⟩)
    rw [g1]
    subst g2
    walk_at "dl"
    rw [List.take_length]
    have u2 := Tk.dear1_len h3
    have usl : (Str.ofString " /").length = 2 := by decide +kernel
    rw [sm (by rw [usl]; omega)]
    walk_at "dl"
    have esl : Str.ofString " /" = Str.ofString " " ++ Str.ofString "/" := by decide +kernel
    have e0 : cat (Str.ofString "dear") (pr.map num) ++ Str.ofString " /" = cat (Str.ofString "dear") (pr.map num ++ [Str.ofString "/"]) := by
      rw [cat_snoc, esl, s_assoc]
    rw [e0]
    obtain ⟨ρ', g1, z3, z4, g2⟩ := DL.loop_at (g := gSeqD 2 (gsCons (gSet 3) (gsCons (gSet 4) gsNil))) (gb := Fn.law_written_a355_b3 (Fn.law_written_a355 n)) prD td
      (fun i ρ => ∃ z3 z4 : DL.Slot, ρ = [some (false, D.tup [D.str (Str.ofString "dear"), D.lst (pr.map D.int), D.lst (td.map prD)]), some (false, .str (cat (Str.ofString "dear") (pr.map num ++ Str.ofString "/" :: (td.take i).map due))), z2, z3, z4, none])
      [some (false, D.tup [D.str (Str.ofString "dear"), D.lst (pr.map D.int), D.lst (td.map prD)]), some (false, .str (cat (Str.ofString "dear") (pr.map num ++ [Str.ofString "/"]))), z2, none, none, none] ⟨none, none, rfl⟩ (fun i a ρ ha ⟨z3, z4, hρ⟩ => by
        subst hρ
        have hm := List.mem_of_getElem? ha
        refine ⟨_, rfl, ?_⟩
        unfold Fn.law_written_a355_b3
        walk_at "dl"
        rw [str_num (h4 a hm).1, str_num (h4 a hm).2]
        walk_at "dl"
        have v1 := num_len (h4 a hm).1
        have v2 := num_len (h4 a hm).2
        have u2 := Tk.dear_len (qs := pr) (td := td.take i) h3 fun q hq => h4 q (List.mem_of_mem_take hq)
        have u3 : (td.take i).length ≤ 100 := by rw [List.length_take]; omega
        rw [sm (by rw [sp1]; omega)]
        walk_at "dl"
        rw [sm (by rw [len_app, sp1]; omega)]
        walk_at "dl"
        rw [sm (by rw [len_app, len_app, sp1, eq1]; omega)]
        walk_at "dl"
        rw [sm (by rw [len_app, len_app, len_app, sp1, eq1]; omega)]
        walk_at "dl"
        have e1 : cat (Str.ofString "dear") (pr.map num ++ Str.ofString "/" :: (td.take (i + 1)).map due) = cat (Str.ofString "dear") (pr.map num ++ Str.ofString "/" :: (td.take i).map due) ++ Str.ofString " " ++ num a.1 ++ Str.ofString "=" ++ num a.2 := by
          rw [take_snoc ha, List.map_append, List.map_singleton, ← List.cons_append, ← List.append_assoc, cat_snoc, due, s_assoc _ (num a.1), s_assoc _ (num a.1 ++ Str.ofString "=")]
        rw [e1]
        exact ⟨_, rfl, _, _, rfl⟩)
    have g1' : loopD (gSeqD 2 (gsCons (gSet 3) (gsCons (gSet 4) gsNil))) (Fn.law_written_a355_b3 (Fn.law_written_a355 n)) (td.map prD) [some (false, D.tup [D.str (Str.ofString "dear"), D.lst (pr.map D.int), D.lst (td.map prD)]), some (false, .str (cat (Str.ofString "dear") (pr.map num ++ [Str.ofString "/"]))), z2, none, none, none] = .ok (.next ρ') := g1
    rw [g1']
    subst g2
    walk_at "dl"
    rw [List.take_length]
    exact ⟨_, rfl⟩
  | @split m ds h1 h2 ih =>
    intro hz n hn
    obtain ⟨n, rfl⟩ : ∃ n', n = n' + 1 := ⟨n - 1, by omega⟩
    have hgo : ∀ ds, Fn.law_written_a355 (n + 1) ds = DL.bodyN 1 6 (Fn.law_written_a355_g (Fn.law_written_a355 n)) ds := fun _ => rfl
    rw [hgo, DL.ap_body (by rfl)]; unfold Fn.law_written_a355_g
    rw [dP_split]
    walk_at "dl"
    rw [lc_map (i := 5) (f := Fn.law_written_a355_e1 (Fn.law_written_a355 n)) dP (fun p => D.str (inB p)) ds (by omega) (fun p hp => by
      obtain ⟨k, hk, rfl⟩ := List.getElem_of_mem hp
      have hz2 := sz_mem hp
      rw [sz_split] at hz
      obtain ⟨o, e⟩ := ih k hk (by omega) n (by omega)
      unfold Fn.law_written_a355_e1
      walk_at "dl"
      rw [DL.callE_of e]
      walk_at "dl"
      have := (h2 k hk).len
      rw [sm (by rw [lpar1]; omega)]
      walk_at "dl"
      rw [sm (by rw [len_app, lpar1, rpar1]; omega)]
      rfl)]
    walk_at "dl"
    rw [show ds.map (fun p => D.str (inB p)) = (ds.map inB).map D.str by rw [List.map_map]; rfl]
    have hl : ∀ p ∈ ds, (tx p).length ≤ sz p := fun p hp => by
      obtain ⟨k, hk, rfl⟩ := List.getElem_of_mem hp
      exact (h2 k hk).len
    have hs := sum_le ds hl
    rw [sz_split] at hz
    rw [DL.join_strs (by rw [len0]; omega)]
    walk_at "dl"
    rw [sm (by rw [w_split, join0]; omega)]
    walk_at "dl"
    rw [tx_split]
    exact ⟨_, rfl⟩
end Wn
namespace Tv
open PySem DL Ti De Gw Bi Lc Be Tx En Rt Tg
theorem fl_take {L : List (List Nat)} {i : Nat} (h : i < L.length) : fl (L.take (i + 1)) = fl (L.take i) ++ (40 :: (L[i] ++ [41])) := by
  rw [List.take_succ_eq_append_getElem h, fl_app]
  congr 1
  unfold fl
  simp
theorem fl_take_len (L : List (List Nat)) (i : Nat) : (fl (L.take i)).length ≤ (fl L).length := by
  conv => rhs; rw [← List.take_append_drop i L, fl_app, List.length_append]
  omega
theorem k1 : Str.ofString "tie" ≠ Str.ofString "split" := by decide +kernel
theorem k2 : Str.ofString "short" ≠ Str.ofString "split" := by decide +kernel
theorem k3 : Str.ofString "dear" ≠ Str.ofString "split" := by decide +kernel
theorem put_in_eq : ∀ (m : Nat) (p : Pp), Rd m p → sz p ≤ 15000000 → ∀ n, m < n → n ≤ 12 → ∀ (c : Int) (bad : Str), bad.length ≤ 200 → (∀ c ∈ TL.tl bad, c < 256) → ∃ o t, Fn.law_put_in_df41 n [dP p, .str bad, .int c] = .ok (o, .str t) ∧ Put bad p t := by
  intro m p M
  have hgo : ∀ n ds, Fn.law_put_in_df41 (n + 1) ds = DL.bodyN 3 8 (Fn.law_put_in_df41_g (Fn.law_put_in_df41 n)) ds := fun _ _ => rfl
  induction M with
  | @tie m k h1 h2 =>
    intro hz n hn hn12 c bad hb _
    obtain ⟨n, rfl⟩ : ∃ n', n = n' + 1 := ⟨n - 1, by omega⟩
    rw [hgo, DL.ap_body (by rfl)]; unfold Fn.law_put_in_df41_g
    rw [show dP (.tie k) = .tup [.str (Str.ofString "tie"), .int k] from rfl]
    walk_at "dl"
    rw [decide_eq_false k1]
    walk_at "dl"
    exact ⟨_, _, rfl, .here⟩
  | @short m qs h1 h2 =>
    intro hz n hn hn12 c bad hb _
    obtain ⟨n, rfl⟩ : ∃ n', n = n' + 1 := ⟨n - 1, by omega⟩
    rw [hgo, DL.ap_body (by rfl)]; unfold Fn.law_put_in_df41_g
    rw [show dP (.short qs) = .tup [.str (Str.ofString "short"), .lst (qs.map .int)] from rfl]
    walk_at "dl"
    rw [decide_eq_false k2]
    walk_at "dl"
    exact ⟨_, _, rfl, .here⟩
  | @dear m pr td h1 h2 h3 h4 =>
    intro hz n hn hn12 c bad hb _
    obtain ⟨n, rfl⟩ : ∃ n', n = n' + 1 := ⟨n - 1, by omega⟩
    rw [hgo, DL.ap_body (by rfl)]; unfold Fn.law_put_in_df41_g
    rw [show dP (.dear pr td) = .tup [.str (Str.ofString "dear"), .lst (pr.map .int), .lst (td.map prD)] from rfl]
    walk_at "dl"
    rw [decide_eq_false k3]
    walk_at "dl"
    exact ⟨_, _, rfl, .here⟩
  | @split m ds h1 h2 h3 ih =>
    intro hz n hn hn12 c bad hb hbc
    obtain ⟨n, rfl⟩ : ∃ n', n = n' + 1 := ⟨n - 1, by omega⟩
    rw [hgo, DL.ap_body (by rfl)]; unfold Fn.law_put_in_df41_g
    rw [dP_split]
    walk_at "dl"
    by_cases h4 : c % 4 = 0
    · rw [decide_eq_true h4]
      walk_at "dl"
      exact ⟨_, _, rfl, .here⟩
    rw [decide_eq_false h4]
    walk_at "dl"
    rw [DL.mod_pos (by omega)]
    have q1 := Int.emod_nonneg (c / 4) (show ((ds.length : Nat) : Int) ≠ 0 by omega)
    have q2 := Int.emod_lt_of_pos (c / 4) (show 0 < ((ds.length : Nat) : Int) by omega)
    obtain ⟨a, ha⟩ : ∃ k : Nat, c / 4 % (ds.length : Int) = (k : Int) := ⟨_, (Int.toNat_of_nonneg q1).symm⟩
    rw [ha] at q2 ⊢
    have hal : a < ds.length := by omega
    walk_at "dl"
    rw [DL.inR_small (by omega) (by omega)]
    walk_at "dl"
    rw [Int.toNat_natCast]
    rw [sz_split] at hz
    have hza := sz_mem (List.getElem_mem hal)
    obtain ⟨ou, u, eu, hu⟩ := ih a hal (by omega) n (by omega) (by omega) (c / 4 / (ds.length : Int)) bad hb hbc
    obtain ⟨mk, Mk⟩ : ∃ m', Rd m' ds[a] := ⟨m, h3 a hal⟩
    have hul := (hu.size hbc mk Mk).1
    have hfl := fl_len (u := TL.tl u) hal fun p hp => by
      obtain ⟨k, hk, rfl⟩ := List.getElem_of_mem hp
      exact (h3 k hk).tk.len
    have eul : (TL.tl u).length = u.length := rfl
    obtain ⟨L, hL⟩ : ∃ L, (ds.map fun p => TL.tl (tx p)).set a (TL.tl u) = L := ⟨_, rfl⟩
    rw [hL] at hfl
    have hLl : L.length = ds.length := by rw [← hL, List.length_set, List.length_map]
    obtain ⟨ρ', g1, z6, z7, g2⟩ := DL.loop_at (g := gSet 6) (gb := Fn.law_put_in_df41_b1 (Fn.law_put_in_df41 n)) (fun i : Nat => D.int (0 + (i : Int))) (List.range ds.length)
      (fun i ρ => ∃ z6 z7 : DL.Slot, ρ = [some (false, D.tup [D.str (Str.ofString "split"), D.lst (ds.map dP)]), some (false, .str bad), some (false, .int c), some (false, .int (c / 4)), some (false, .int (a : Int)), some (false, .str (Str.ofString "split " ++ ofL (fl (L.take i)))), z6, z7])
      [some (false, D.tup [D.str (Str.ofString "split"), D.lst (ds.map dP)]), some (false, .str bad), some (false, .int c), some (false, .int (c / 4)), some (false, .int (a : Int)), some (false, .str (Str.ofString "split ")), none, none] ⟨none, none, by
        rw [List.take_zero, show ofL (fl []) = Str.empty from rfl, show Str.ofString "split " ++ Str.empty = Str.ofString "split " from TL.ext_tl (by rw [TL.tl_append]; exact List.append_nil _)]⟩ (fun i b ρ hb' ⟨z6, z7, hρ⟩ => by
        subst hρ
        have hi := DL.at_lt hb'
        rw [List.length_range] at hi
        rw [List.getElem?_eq_getElem (by rw [List.length_range]; exact hi), List.getElem_range] at hb'
        cases hb'
        refine ⟨_, rfl, ?_⟩
        have hzi := sz_mem (List.getElem_mem hi)
        obtain ⟨ow, ew⟩ := Wn.written_eq m ds[i] (h3 i hi).tk (by omega) 12 (by omega)
        have hti := (h3 i hi).tk.len
        have hft := fl_take_len L i
        have h5 := fl_take_len L (i + 1)
        rw [fl_take (by omega), List.length_append, List.length_cons, List.length_append, List.length_singleton] at h5
        have eoff : (ofL (fl (L.take i))).length = (fl (L.take i)).length := rfl
        unfold Fn.law_put_in_df41_b1
        walk_at "dl"
        have eix : dIxA (D.lst (ds.map dP)) (D.int (0 + (i : Int))) = .ok (dP ds[i]) := DL.ixA_lst (by omega) (by rw [show (0 + (i : Int)).toNat = i by omega, List.getElem?_map, List.getElem?_eq_getElem hi]; rfl)
        rw [eix]
        walk_at "dl"
        rw [DL.callE_of ew]
        walk_at "dl"
        have fin : ∀ x : Str, TL.tl x = L[i]'(by omega) → Str.ofString "split " ++ ofL (fl (L.take i)) ++ Str.ofString "(" ++ x ++ Str.ofString ")" = Str.ofString "split " ++ ofL (fl (L.take (i + 1))) := fun x hx => TL.ext_tl (by
          rw [fl_take (by omega), TL.tl_append, TL.tl_append, TL.tl_append, TL.tl_append, TL.tl_append, tl_lp, tl_rp, hx]
          show TL.tl (Str.ofString "split ") ++ fl (L.take i) ++ [40] ++ L[i] ++ [41] = TL.tl (Str.ofString "split ") ++ (fl (L.take i) ++ (40 :: (L[i] ++ [41])))
          simp)
        by_cases h : i = a
        · subst h
          rw [decide_eq_true (show (0 + (i : Int)) = (i : Int) by omega)]
          walk_at "dl"
          rw [eix]
          walk_at "dl"
          rw [DL.div_pos (by omega) (Int.lt_trans (show ((ds.length : Nat) : Int) < 101 by omega) (by decide))]
          walk_at "dl"
          rw [DL.callE_of eu]
          walk_at "dl"
          have h6 : (L[i]'(by omega)).length = u.length := by simp [← hL, eul]
          rw [sm (by rw [len_app, w_split, lpar1]; omega)]
          walk_at "dl"
          rw [sm (by rw [len_app, len_app, w_split, lpar1]; omega)]
          walk_at "dl"
          rw [sm (by rw [len_app, len_app, len_app, w_split, lpar1, rpar1]; omega)]
          walk_at "dl"
          rw [fin u (by simp [← hL])]
          exact ⟨_, rfl, _, _, rfl⟩
        · rw [decide_eq_false (show ¬ (0 + (i : Int)) = (a : Int) by omega)]
          walk_at "dl"
          have h6 : (L[i]'(by omega)).length = (tx ds[i]).length := by simp [← hL, List.getElem_set_ne (Ne.symm h)]; rfl
          rw [sm (by rw [len_app, w_split, lpar1]; omega)]
          walk_at "dl"
          rw [sm (by rw [len_app, len_app, w_split, lpar1]; omega)]
          walk_at "dl"
          rw [sm (by rw [len_app, len_app, len_app, w_split, lpar1, rpar1]; omega)]
          walk_at "dl"
          rw [fin (tx ds[i]) (by simp [← hL, List.getElem_set_ne (Ne.symm h)])]
          exact ⟨_, rfl, _, _, rfl⟩)
    rw [g1]
    subst g2
    walk_at "dl"
    refine ⟨_, _, rfl, ?_⟩
    rw [← hLl, List.take_length, ← hL]
    exact .sub hal hu
def deepP : Nat → Pp
  | 0 => .tie 0
  | n + 1 => .split [deepP n]
theorem deep_rd : ∀ n, Rd n (deepP n)
  | 0 => .tie (by omega) (by omega)
  | n + 1 => .split (by simp) (by simp) fun k hk => by
    have : k = 0 := by simpa using hk
    subst this
    exact deep_rd n
theorem deep_sz : ∀ n, sz (deepP n) = 70 + 8 * n
  | 0 => rfl
  | n + 1 => by
    show 6 + (2 + sz (deepP n) + 0) = _
    rw [deep_sz n]
    omega
theorem deep_no : ∀ (n r : Nat), r < n → val r (tx (deepP n)) = none
  | 0, r, h => by omega
  | n + 1, 0, _ => by
    rw [show deepP (n + 1) = .split [deepP n] from rfl, tx_fl]
    exact val_split0 _
  | n + 1, r + 1, h => by
    rw [show deepP (n + 1) = .split [deepP n] from rfl, tx_fl, val_split, prt_of (by simp) (fun l hl => by
      rw [List.mem_singleton.mp hl]
      exact (deep_rd n).bal), Option.bind_some, allS_none (a := tx (deepP n)) (deep_no n r (by omega)) (by
      refine List.mem_map.mpr ⟨TL.tl (tx (deepP n)), List.mem_singleton.mpr rfl, DL.ofL_tl _⟩)]
    rfl
theorem tx_deep (n : Nat) : tx (deepP (n + 1)) = Str.ofString "split (" ++ tx (deepP n) ++ Str.ofString ")" := by
  rw [show deepP (n + 1) = .split [deepP n] from rfl, tx_split]
  refine TL.ext_tl ?_
  rw [TL.tl_append, TL.tl_append, TL.tl_append, tl_join0, List.map_singleton, List.map_singleton, tl_inB, tl_split, tl_rp, show TL.tl (Str.ofString "split (") = [115, 112, 108, 105, 116, 32, 40] by decide +kernel]
  simp
theorem deep_eq73 (n : Nat) (hn : n ≤ 100) : ∃ o, Fn.law_deep_c3cf [.int (n : Int)] = .ok (o, .str (tx (deepP n))) := by
  unfold Fn.law_deep_c3cf; rw [DL.ap_body (by rfl)]; unfold Fn.law_deep_c3cf_g
  walk_at "dl"
  rw [DL.inR_small (by omega) (by omega)]
  walk_at "dl"
  rw [Int.toNat_natCast]
  obtain ⟨ρ', g1, z, g2⟩ := DL.loop_at (g := gSet 2) (gb := Fn.law_deep_c3cf_b1) (fun i : Nat => D.int (0 + (i : Int))) (List.range n)
    (fun i ρ => ∃ z : DL.Slot, ρ = [some (false, .int (n : Int)), some (false, .str (tx (deepP i))), z])
    [some (false, .int (n : Int)), some (false, .str (Str.ofString "tie 0")), none] ⟨none, by
      rw [show tx (deepP 0) = Str.ofString "tie 0" by decide +kernel]⟩ (fun i b ρ hb ⟨z, hρ⟩ => by
      subst hρ
      have hi := DL.at_lt hb
      rw [List.length_range] at hi
      refine ⟨_, rfl, ?_⟩
      have hl := (deep_rd i).tk.len
      rw [deep_sz] at hl
      unfold Fn.law_deep_c3cf_b1
      walk_at "dl"
      rw [sm (by rw [show (Str.ofString "split (").length = 7 by decide +kernel]; omega)]
      walk_at "dl"
      rw [sm (by rw [len_app, show (Str.ofString "split (").length = 7 by decide +kernel, rpar1]; omega)]
      walk_at "dl"
      rw [tx_deep]
      exact ⟨_, rfl, _, rfl⟩)
  rw [g1]
  subst g2
  rw [List.length_range]
  walk_at "dl"
  exact ⟨_, rfl⟩
end Tv
namespace Tv
open PySem DL Ti De Gw Bi Lc Be Tx En Rt Tg
theorem lc_if16 {α : Type} {i : Nat} {t : En → R Bool} {f : En → R D} {ρ : En} (F G : α → D) (p : α → Bool) (xs : List α) (hl : xs.length ≤ 16000000) (ht : ∀ a ∈ xs, t ((wipeR ρ [i]).set i (some (false, F a))) = .ok (p a)) (hf : ∀ a ∈ xs, p a = true → f ((wipeR ρ [i]).set i (some (false, F a))) = .ok (G a)) : lcK (.ok (xs.map F)) [i] (gSet i) t f ρ = .ok (.lst ((xs.filter p).map G)) := by
  have h := lc_fmap (g := gSet i) (t := t) (f := f) (ρ := wipeR ρ [i]) F G p xs (fun a ha => lc_one rfl (ht a ha) fun h => hf a ha h)
  unfold lcK
  rw [bd_ok, show decide ((xs.map F).length < sizeLine) = true from decide_eq_true (Nat.lt_of_le_of_lt (by rw [List.length_map]; exact hl) (by decide)), grd_t, h]
  rfl
theorem cut_len_to (z : Str) (k : Nat) : (L2.cutS z none (some (k : Int))).length ≤ min k z.length := by
  have e : (TL.tl (L2.cutS z none (some (k : Int)))).length = (L2.cutS z none (some (k : Int))).length := rfl
  have e2 : (TL.tl z).length = z.length := rfl
  rw [cut_tl, DL.cut_to (by omega), List.length_take] at e
  omega
theorem cut_len_from (z : Str) (k : Nat) : (L2.cutS z (some (k : Int)) none).length ≤ z.length - k := by
  have e : (TL.tl (L2.cutS z (some (k : Int)) none)).length = (L2.cutS z (some (k : Int)) none).length := rfl
  have e2 : (TL.tl z).length = z.length := rfl
  rw [cut_tl, DL.cut_from (by omega), List.length_drop] at e
  omega
theorem pickQ {xs : List D} (hx : xs ≠ []) (c : Int) : ∃ x ∈ xs, dIxA (.lst xs) (.int (c % (xs.length : Int))) = .ok x := by
  have h0 : 0 < xs.length := List.length_pos_iff.mpr hx
  have h1 : 0 ≤ c % (xs.length : Int) := Int.emod_nonneg _ (by omega)
  have h2 : c % (xs.length : Int) < (xs.length : Int) := Int.emod_lt_of_pos _ (by omega)
  have h3 : (c % (xs.length : Int)).toNat < xs.length := by omega
  exact ⟨xs[(c % (xs.length : Int)).toNat], List.getElem_mem _, DL.ixA_lst h1 (by rw [List.getElem?_eq_getElem h3])⟩
def NotS (v : D) : Prop := v = .non ∨ (∃ n, v = .int n) ∨ (∃ b, v = .bl b) ∨ (∃ l, v = .lst l) ∨ ∃ l, v = .tup l
def Spt (v : D) : Prop := (∃ t, v = .str t ∧ t.length ≤ 16000000 ∧ (∀ c ∈ TL.tl t, c < 256) ∧ val 8 t = none) ∨ NotS v
def sgnL : List Str := [Str.ofString "+", Str.ofString "_", Str.ofString ",", Str.ofString ".", Str.ofString "A", Str.ofString "\t", Str.ofString "\n", Str.ofString ":", Str.ofString "[", Str.ofString "*", Str.ofString "z", Str.ofString "~", Str.ofString "\\", Str.ofString "'"]
theorem sgn_ok : ∀ x ∈ sgnL, x.length = 1 ∧ (TL.tl x).all (fun c => !al c && decide (c < 256)) = true := by
  unfold sgnL
  decide +kernel
theorem spoilt73 {p : Pp} (M : Rd 8 p) (hz : sz p ≤ 15000000) (c : Int) : ∃ o v, Fn.law_spoilt_ed1f [dP p, .int c] = .ok (o, v) ∧ Spt v := by
  have hl := M.tk.len
  have hc := M.codes
  obtain ⟨o1, e1⟩ := Wn.written_eq 8 p M.tk (by omega) 12 (by omega)
  unfold Fn.law_spoilt_ed1f; rw [DL.ap_body (by rfl)]; unfold Fn.law_spoilt_ed1f_g
  walk_at "dl"
  rw [DL.callE_of e1]
  walk_at "dl"
  have q1 := Int.emod_nonneg c (show (6 : Int) ≠ 0 by omega)
  have q2 := Int.emod_lt_of_pos c (show (0 : Int) < 6 by omega)
  have s1 : (Str.ofString " ").length = 1 := by decide +kernel
  by_cases k1 : c % 6 < 2
  · rw [decide_eq_true k1]
    walk_at "dl"
    obtain ⟨ob, t, eb, hb⟩ := bad_eq (c / 6)
    obtain ⟨hB, hbl, hbc⟩ := BadT.of hb
    rw [DL.callE_of eb]
    walk_at "dl"
    obtain ⟨op, u, ep, hu⟩ := put_in_eq 8 p M hz 12 (by omega) (by omega) (c / 6 / 80) t hbl hbc
    rw [DL.callO_flat ep rfl]
    walk_at "dl"
    obtain ⟨g1, g2⟩ := hu.size hbc 8 M
    exact ⟨_, _, rfl, .inl ⟨u, rfl, by omega, g2, (hu.bad hB 8 M).1 8⟩⟩
  rw [decide_eq_false k1]
  walk_at "dl"
  by_cases k2 : c % 6 = 2
  · rw [decide_eq_true k2]
    walk_at "dl"
    rw [sm (by omega)]
    walk_at "dl"
    rw [DL.mod_pos (by omega)]
    have r1 := Int.emod_nonneg (c / 6) (show (((tx p).length : Int) + 1) ≠ 0 by omega)
    have r2 := Int.emod_lt_of_pos (c / 6) (show 0 < (((tx p).length : Int) + 1) by omega)
    obtain ⟨k, hk⟩ : ∃ k : Nat, c / 6 % (((tx p).length : Int) + 1) = (k : Int) := ⟨_, (Int.toNat_of_nonneg r1).symm⟩
    rw [hk] at r2 ⊢
    walk_at "dl"
    rw [DL.cut_str, DL.cut_str, sm (by omega)]
    walk_at "dl"
    obtain ⟨s, hs, es⟩ := pickP (xs := sgnL) (List.cons_ne_nil _ _) (c / 6 / 7)
    have es : dIxA (D.lst [D.str (Str.ofString "+"), D.str (Str.ofString "_"), D.str (Str.ofString ","), D.str (Str.ofString "."), D.str (Str.ofString "A"), D.str (Str.ofString "\t"), D.str (Str.ofString "\n"), D.str (Str.ofString ":"), D.str (Str.ofString "["), D.str (Str.ofString "*"), D.str (Str.ofString "z"), D.str (Str.ofString "~"), D.str (Str.ofString "\\"), D.str (Str.ofString "'")]) (D.int (c / 6 / 7 % 14)) = .ok (.str s) := es
    obtain ⟨t1, t2⟩ := sgn_ok s hs
    have c1 := cut_len_to (tx p) k
    have c2 := cut_len_from (tx p) k
    rw [es]
    walk_at "dl"
    rw [sm (by omega)]
    walk_at "dl"
    rw [sm (by rw [len_app]; omega)]
    walk_at "dl"
    have etl : TL.tl (L2.cutS (tx p) none (some (k : Int)) ++ s ++ L2.cutS (tx p) (some (k : Int)) none) = (TL.tl (tx p)).take k ++ TL.tl s ++ (TL.tl (tx p)).drop k := by
      rw [TL.tl_append, TL.tl_append, cut_tl, cut_tl, DL.cut_to (by omega), DL.cut_from (by omega), Int.toNat_natCast]
    rw [List.all_eq_true] at t2
    refine ⟨_, _, rfl, .inl ⟨_, rfl, by rw [len_app, len_app]; omega, fun d hd => ?_, no_gram ?_⟩⟩
    · rw [etl] at hd
      rcases List.mem_append.mp hd with hd | hd
      · rcases List.mem_append.mp hd with hd | hd
        · exact hc d (List.mem_of_mem_take hd)
        · have := t2 d hd
          rw [Bool.and_eq_true, decide_eq_true_eq] at this
          exact this.2
      · exact hc d (List.mem_of_mem_drop hd)
    · rw [etl]
      have sl : (TL.tl s).length = s.length := rfl
      cases e : TL.tl s with
      | nil => rw [e] at sl; simp at sl; omega
      | cons d r =>
        have := t2 d (by rw [e]; exact List.mem_cons_self)
        rw [Bool.and_eq_true, Bool.not_eq_true'] at this
        exact gr2_not_mem (c := d) (by simp) this.1
  rw [decide_eq_false k2]
  walk_at "dl"
  by_cases k3 : c % 6 = 3
  · rw [decide_eq_true k3]
    walk_at "dl"
    rw [sm (by omega)]
    walk_at "dl"
    rw [DL.inR_small (by omega) (by omega)]
    walk_at "dl"
    rw [Int.toNat_natCast]
    rw [lc_if16 (i := 7) (t := Fn.law_spoilt_ed1f_t2) (f := Fn.law_spoilt_ed1f_e1) (fun k : Nat => D.int (0 + (k : Int))) (fun k : Nat => D.int (k : Int)) (fun k => decide ((TL.tl (tx p))[k]? = some 32)) (List.range (tx p).length) (by rw [List.length_range]; omega) (fun k hk => by
      have hk := List.mem_range.mp hk
      have hk2 : k < (TL.tl (tx p)).length := hk
      have e : (TL.tl (tx p))[k]? = some (TL.tl (tx p))[k] := List.getElem?_eq_getElem hk2
      unfold Fn.law_spoilt_ed1f_t2
      walk_at "dl"
      rw [at_code' e (by omega)]
      walk_at "dl"
      rw [e]
      congr 1
      refine decide_eq_decide.mpr ?_
      rw [str1 Rt.tl_sp, Option.some_inj]) (fun k hk _ => by
      unfold Fn.law_spoilt_ed1f_e1
      walk_at "dl"
      rw [Int.zero_add])]
    walk_at "dl"
    have hF : ∀ v ∈ (List.filter (fun k => decide ((TL.tl (tx p))[k]? = some 32)) (List.range (tx p).length)).map (fun k : Nat => D.int (k : Int)) ++ [D.int 0, D.int ((tx p).length : Int)], ∃ n : Nat, v = .int (n : Int) ∧ n ≤ (tx p).length ∧ ((TL.tl (tx p))[n]? = some 32 ∨ n = 0 ∨ n = (tx p).length) := fun v hv => by
      rcases List.mem_append.mp hv with hv | hv
      · obtain ⟨k, hk, rfl⟩ := List.mem_map.mp hv
        obtain ⟨g1, g2⟩ := List.mem_filter.mp hk
        have := List.mem_range.mp g1
        exact ⟨k, rfl, by omega, .inl (of_decide_eq_true g2)⟩
      · simp only [List.mem_cons, List.not_mem_nil, or_false] at hv
        rcases hv with rfl | rfl
        · exact ⟨0, rfl, by omega, .inr (.inl rfl)⟩
        · exact ⟨_, rfl, by omega, .inr (.inr rfl)⟩
    have hfl := List.length_filter_le (fun k => decide ((TL.tl (tx p))[k]? = some 32)) (List.range (tx p).length)
    rw [List.length_range] at hfl
    rw [sm (by omega)]
    have hcl : ((List.filter (fun k => decide ((TL.tl (tx p))[k]? = some 32)) (List.range (tx p).length)).map (fun k : Nat => D.int (k : Int)) ++ [D.int 0, D.int ((tx p).length : Int)]) ≠ [] := by simp
    generalize (List.filter (fun k => decide ((TL.tl (tx p))[k]? = some 32)) (List.range (tx p).length)).map (fun k : Nat => D.int (k : Int)) ++ [D.int 0, D.int ((tx p).length : Int)] = spots at hF hcl ⊢
    walk_at "dl"
    rw [DL.mod_pos (by have := List.length_pos_iff.mpr hcl; omega)]
    walk_at "dl"
    obtain ⟨v, hv, ev⟩ := pickQ hcl (c / 6)
    obtain ⟨n, rfl, hn, h3⟩ := hF v hv
    rw [ev]
    walk_at "dl"
    rw [DL.cut_str, DL.cut_str, sm (by omega)]
    walk_at "dl"
    have c1 := cut_len_to (tx p) n
    have c2 := cut_len_from (tx p) n
    rw [sm (by omega)]
    walk_at "dl"
    rw [sm (by rw [len_app]; omega)]
    walk_at "dl"
    have etl : TL.tl (L2.cutS (tx p) none (some (n : Int)) ++ Str.ofString " " ++ L2.cutS (tx p) (some (n : Int)) none) = (TL.tl (tx p)).take n ++ 32 :: (TL.tl (tx p)).drop n := by
      rw [TL.tl_append, TL.tl_append, Rt.tl_sp, cut_tl, cut_tl, DL.cut_to (by omega), DL.cut_from (by omega), Int.toNat_natCast, List.append_assoc]
      rfl
    refine ⟨_, _, rfl, .inl ⟨_, rfl, by rw [len_app, len_app]; omega, fun d hd => ?_, ?_⟩⟩
    · rw [etl] at hd
      rcases List.mem_append.mp hd with hd | hd
      · exact hc d (List.mem_of_mem_take hd)
      · rcases List.mem_cons.mp hd with rfl | hd
        · omega
        · exact hc d (List.mem_of_mem_drop hd)
    rcases h3 with h3 | rfl | h3
    · refine no_gram ?_
      have hlt := (List.getElem?_eq_some_iff.mp h3).1
      rw [etl, List.drop_eq_getElem_cons hlt, (List.getElem?_eq_some_iff.mp h3).2]
      exact gr2_not_sp
    · refine no_gram1 ?_
      rw [etl, List.take_zero, List.nil_append]
      rfl
    · refine no_gram ?_
      rw [etl, List.drop_of_length_le (by rw [h3]; exact Nat.le_refl _)]
      exact gr2_not_end
  rw [decide_eq_false k3]
  walk_at "dl"
  by_cases k4 : c % 6 = 4
  · rw [decide_eq_true k4]
    walk_at "dl"
    have fin : ∀ n : Nat, 9 ≤ n → n ≤ 40 → Spt (.str (tx (deepP n))) := fun n h9 h40 => by
      have hdl := (deep_rd n).tk.len
      rw [deep_sz] at hdl
      exact .inl ⟨_, rfl, by omega, (deep_rd n).codes, deep_no n 8 (by omega)⟩
    have w1 := Int.emod_nonneg (c / 6) (show (32 : Int) ≠ 0 by omega)
    have w2 := Int.emod_lt_of_pos (c / 6) (show (0 : Int) < 32 by omega)
    obtain ⟨k, hk⟩ : ∃ k : Nat, c / 6 % 32 = (k : Int) := ⟨_, (Int.toNat_of_nonneg w1).symm⟩
    rw [hk] at w2 ⊢
    rcases (by omega : c / 6 / 32 % 2 = 0 ∨ c / 6 / 32 % 2 = 1) with h | h
    · rw [h]
      walk_at "dl"
      obtain ⟨od, ed⟩ := deep_eq73 9 (by omega)
      have ed : Fn.law_deep_c3cf [.int 9] = .ok (od, .str (tx (deepP 9))) := ed
      rw [DL.callO_flat ed rfl]
      walk_at "dl"
      exact ⟨_, _, rfl, fin 9 (by omega) (by omega)⟩
    · rw [h]
      walk_at "dl"
      rw [show (9 : Int) + (k : Int) = ((9 + k : Nat) : Int) by omega]
      obtain ⟨od, ed⟩ := deep_eq73 (9 + k) (by omega)
      rw [DL.callO_flat ed rfl]
      walk_at "dl"
      exact ⟨_, _, rfl, fin (9 + k) (by omega) (by omega)⟩
  rw [decide_eq_false k4]
  walk_at "dl"
  obtain ⟨v, hv, ev⟩ := pickQ (xs := [D.non, D.int 0, D.bl true, D.lst [D.str (Str.ofString "tie 0")], D.tup [D.str (Str.ofString "tie"), D.int 0], D.int 1000000000000000000000000000000, D.bl false, D.lst [], D.tup [], D.int (-1)]) (List.cons_ne_nil _ _) (c / 6)
  refine ⟨false, v, ?_, .inr ?_⟩
  · show endD (noE (retK (dIxA (D.lst [D.non, D.int 0, D.bl true, D.lst [D.str (Str.ofString "tie 0")], D.tup [D.str (Str.ofString "tie"), D.int 0], D.int 1000000000000000000000000000000, D.bl false, D.lst [], D.tup [], D.int (-1)]) (D.int (c / 6 % (([D.non, D.int 0, D.bl true, D.lst [D.str (Str.ofString "tie 0")], D.tup [D.str (Str.ofString "tie"), D.int 0], D.int 1000000000000000000000000000000, D.bl false, D.lst [], D.tup [], D.int (-1)].length : Nat) : Int)))) false)) = _
    rw [ev]
    rfl
  · simp only [List.mem_cons, List.not_mem_nil, or_false] at hv
    rcases hv with rfl | rfl | rfl | rfl | rfl | rfl | rfl | rfl | rfl | rfl
    · exact .inl rfl
    · exact .inr (.inl ⟨_, rfl⟩)
    · exact .inr (.inr (.inl ⟨_, rfl⟩))
    · exact .inr (.inr (.inr (.inl ⟨_, rfl⟩)))
    · exact .inr (.inr (.inr (.inr ⟨_, rfl⟩)))
    · exact .inr (.inl ⟨_, rfl⟩)
    · exact .inr (.inr (.inl ⟨_, rfl⟩))
    · exact .inr (.inr (.inr (.inl ⟨_, rfl⟩)))
    · exact .inr (.inr (.inr (.inr ⟨_, rfl⟩)))
    · exact .inr (.inl ⟨_, rfl⟩)
end Tv
namespace Fn
open PySem DL
end Fn
namespace Tr
open PySem DL Ti De Gw Bi Lc Be Tx En Rt
theorem number_eq (c : Int) : ∃ o q, Fn.law_number_4c34 [.int c] = .ok (o, .int q) ∧ 0 ≤ q ∧ q < 10 ^ 60 := by
  unfold Fn.law_number_4c34; rw [DL.ap_body (by rfl)]; unfold Fn.law_number_4c34_g
  walk_at "dl"
  rcases (by omega : c / 5 % 4 = 0 ∨ c / 5 % 4 = 1 ∨ c / 5 % 4 = 2 ∨ c / 5 % 4 = 3) with h | h | h | h <;> rw [h]
  all_goals
    walk_at "dl"
    by_cases h : c / 20 % 5 = 4
    · rw [decide_eq_true h]
      walk_at "dl"
      exact ⟨_, _, rfl, by omega, by omega⟩
    · rw [decide_eq_false h]
      walk_at "dl"
      exact ⟨_, _, rfl, by omega, by omega⟩
def B : Nat → Nat
  | 0 => 600
  | r + 1 => 12 + 3 * B r
def C : Nat → Nat
  | 0 => 600
  | r + 1 => 6 + 7 * (2 + B r)
theorem B_lo : ∀ r, 600 ≤ B r
  | 0 => Nat.le_refl _
  | r + 1 => by have := B_lo r; show 600 ≤ 12 + 3 * B r; omega
theorem tree_eq (cells : List Int) (hc : cells.length = 16) : ∀ (n r : Nat) (pl : Int), 0 ≤ pl → r < n → ∃ o p pl', Fn.law_tree_0852 n [.lst (cells.map .int), .int pl, .int (r : Int)] = .ok (o, .tup [dP p, .int pl']) ∧ Rd r p ∧ pl ≤ pl' ∧ sz p ≤ (if pl = 0 then C r else B r) := by
  intro n
  induction n with
  | zero => intro r pl h0 h; omega
  | succ n ih =>
    intro r pl h0 hr
    have hgo : ∀ ds, Fn.law_tree_0852 (n + 1) ds = DL.bodyN 3 12 (Fn.law_tree_0852_g (Fn.law_tree_0852 n)) ds := fun _ => rfl
    rw [hgo, DL.ap_body (by rfl)]; unfold Fn.law_tree_0852_g
    walk_at "dl"
    rw [hc]
    walk_at "dl"
    have hB : 600 ≤ (if pl = 0 then C r else B r) := by
      split
      · cases r with
        | zero => exact Nat.le_refl _
        | succ r => have := B_lo r; show 600 ≤ 6 + 7 * (2 + B r); omega
      · exact B_lo r
    rw [show ((16 : Nat) : Int) = 16 from rfl, DL.mod_pos (by omega)]
    walk_at "dl"
    rw [DL.ixA_ints (by omega) (by omega)]
    generalize cells.getD (pl % 16).toNat 0 = c
    walk_at "dl"
    have hcond : andK (R.ok (decide (c % 5 < 2))) (bAnd (tst (bop (rd 2) (cst (D.int 0)) dGt)) (tst (bop (rd 1) (nop (aCons (rd 0) aNil) dLen) dLt))) [some (false, D.lst (cells.map D.int)), some (false, D.int pl), some (false, D.int (r : Int)), some (false, D.int c), none, none, none, none, none, none, none, none] = R.ok (decide (c % 5 < 2 ∧ 0 < r ∧ pl < 16)) := by
      by_cases q1 : c % 5 < 2
      · rw [decide_eq_true q1]
        walk_at "dl"
        by_cases q2 : 0 < r
        · rw [decide_eq_true (show (0 : Int) < (r : Int) by omega)]
          walk_at "dl"
          rw [hc]
          congr 1
          exact decide_eq_decide.mpr ⟨fun h => ⟨q1, q2, h⟩, fun h => h.2.2⟩
        · rw [decide_eq_false (show ¬ (0 : Int) < (r : Int) by omega), decide_eq_false (fun h => q2 h.2.1)]
          walk_at "dl"
      · rw [decide_eq_false q1, decide_eq_false (fun h => q1 h.1)]
        walk_at "dl"
    rw [hcond]
    by_cases hsp : c % 5 < 2 ∧ 0 < r ∧ pl < 16
    · rw [decide_eq_true hsp]
      obtain ⟨q1, q2, q3⟩ := hsp
      obtain ⟨r, rfl⟩ : ∃ r', r = r' + 1 := ⟨r - 1, by omega⟩
      walk_at "dl"
      have loop : ∀ many : Int, 0 ≤ many → many ≤ 7 → ∃ (ps : List Pp) (q : Int) (z9 z11 : DL.Slot), (ps.length : Int) = many ∧ (∀ p ∈ ps, Rd r p ∧ sz p ≤ B r) ∧ pl ≤ q ∧
          loopD (gSet 9) (Fn.law_tree_0852_b1 (Fn.law_tree_0852 n)) ((List.range many.toNat).map fun i : Nat => D.int (0 + (i : Int))) [some (false, D.lst (cells.map D.int)), some (false, D.int pl), some (false, D.int ((r + 1 : Nat) : Int)), some (false, D.int c), some (false, D.int many), none, none, none, some (true, D.lst []), none, none, none] =
          .ok (.next [some (false, D.lst (cells.map D.int)), some (false, D.int q), some (false, D.int ((r + 1 : Nat) : Int)), some (false, D.int c), some (false, D.int many), none, none, none, some (true, D.lst (ps.map dP)), z9, none, z11]) := fun many m0 m7 => by
        obtain ⟨ρ', g1, ps, q, z9, z11, u1, u2, u3, g2⟩ := DL.loop_at (g := gSet 9) (gb := Fn.law_tree_0852_b1 (Fn.law_tree_0852 n)) (fun i : Nat => D.int (0 + (i : Int))) (List.range many.toNat)
          (fun i ρ => ∃ (ps : List Pp) (q : Int) (z9 z11 : DL.Slot), ps.length = i ∧ (∀ p ∈ ps, Rd r p ∧ sz p ≤ B r) ∧ pl ≤ q ∧ ρ = [some (false, D.lst (cells.map D.int)), some (false, D.int q), some (false, D.int ((r + 1 : Nat) : Int)), some (false, D.int c), some (false, D.int many), none, none, none, some (true, D.lst (ps.map dP)), z9, none, z11])
          [some (false, D.lst (cells.map D.int)), some (false, D.int pl), some (false, D.int ((r + 1 : Nat) : Int)), some (false, D.int c), some (false, D.int many), none, none, none, some (true, D.lst []), none, none, none] ⟨[], pl, none, none, rfl, (fun p h => nomatch h), Int.le_refl _, rfl⟩ (fun i a ρ ha ⟨ps, q, z9, z11, u1, u2, u3, hρ⟩ => by
            subst hρ
            have hi := DL.at_lt ha
            rw [List.length_range] at hi
            refine ⟨_, rfl, ?_⟩
            unfold Fn.law_tree_0852_b1
            walk_at "dl"
            rw [show ((r + 1 : Nat) : Int) - 1 = (r : Int) by omega]
            obtain ⟨o, p, pl', e, t1, t2, t3⟩ := ih r (q + 1) (by omega) (by omega)
            rw [if_neg (by omega)] at t3
            rw [DL.callE_of e]
            walk_at "dl"
            rw [DL.app_ok (by rw [List.length_map]; omega)]
            refine ⟨_, rfl, ps ++ [p], pl', _, _, by rw [List.length_append, List.length_singleton, u1], fun x hx => ?_, by omega, by rw [List.map_append]; rfl⟩
            rcases List.mem_append.mp hx with hx | hx
            · exact u2 x hx
            · rw [List.mem_singleton.mp hx]; exact ⟨t1, t3⟩)
        refine ⟨ps, q, z9, z11, by rw [u1, List.length_range]; omega, u2, u3, ?_⟩
        rw [← g2]; exact g1
      have fin : ∀ (ps : List Pp) (q : Int), (∀ p ∈ ps, Rd r p ∧ sz p ≤ B r) → pl ≤ q → ps.length ≤ 7 → (pl ≠ 0 → ps.length ≤ 3) → 1 ≤ ps.length → ∃ o p pl', (R.ok (true, D.tup [D.tup [D.str (Str.ofString "split"), D.lst (ps.map dP)], D.int q]) : R (Bool × D)) = R.ok (o, D.tup [dP p, D.int pl']) ∧ Rd (r + 1) p ∧ pl ≤ pl' ∧ sz p ≤ if pl = 0 then C (r + 1) else B (r + 1) := fun ps q h1 h2 h3 h4 h5 => by
        refine ⟨true, .split ps, q, by rw [dP_split], .split h5 (by omega) fun k hk => (h1 _ (List.getElem_mem hk)).1, h2, ?_⟩
        have hs := szs_le (B r) fun p hp => (h1 p hp).2
        rw [sz_split]
        split
        · have : ps.length * (2 + B r) ≤ 7 * (2 + B r) := Nat.mul_le_mul_right _ h3
          show 6 + szs ps ≤ 6 + 7 * (2 + B r)
          omega
        · rename_i hp
          have : ps.length * (2 + B r) ≤ 3 * (2 + B r) := Nat.mul_le_mul_right _ (h4 hp)
          show 6 + szs ps ≤ 12 + 3 * B r
          omega
      by_cases h0' : pl = 0
      · rw [decide_eq_true h0']
        walk_at "dl"
        by_cases h1' : c / 15 % 4 = 1
        · rw [decide_eq_true h1']
          walk_at "dl"
          obtain ⟨ps, q, z9, z11, u1, u2, u3, e⟩ := loop 7 (by omega) (by omega)
          have e' : loopD (gSet 9) (Fn.law_tree_0852_b1 (Fn.law_tree_0852 n)) ((List.range 7).map fun i : Nat => D.int (0 + (i : Int))) [some (false, D.lst (cells.map D.int)), some (false, D.int pl), some (false, D.int ((r + 1 : Nat) : Int)), some (false, D.int c), some (false, D.int 7), none, none, none, some (true, D.lst []), none, none, none] = _ := e
          rw [e']
          walk_at "dl"
          exact fin ps q u2 u3 (by omega) (fun h => absurd h0' h) (by omega)
        · rw [decide_eq_false h1']
          walk_at "dl"
          rw [DL.inR_small (by omega) (by omega)]
          walk_at "dl"
          obtain ⟨ps, q, z9, z11, u1, u2, u3, e⟩ := loop (1 + c / 5 % 3) (by omega) (by omega)
          rw [e]
          walk_at "dl"
          exact fin ps q u2 u3 (by omega) (fun h => absurd h0' h) (by omega)
      · rw [decide_eq_false h0']
        walk_at "dl"
        rw [DL.inR_small (by omega) (by omega)]
        walk_at "dl"
        obtain ⟨ps, q, z9, z11, u1, u2, u3, e⟩ := loop (1 + c / 5 % 3) (by omega) (by omega)
        rw [e]
        walk_at "dl"
        exact fin ps q u2 u3 (by omega) (fun _ => by omega) (by omega)
    · rw [decide_eq_false hsp]
      walk_at "dl"
      by_cases q1 : c % 5 < 3
      · rw [decide_eq_true q1]
        walk_at "dl"
        obtain ⟨o, q, e, b1, b2⟩ := number_eq (c / 5)
        rw [DL.callE_of e]
        walk_at "dl"
        exact ⟨_, .tie q, pl, rfl, .tie b1 b2, Int.le_refl _, Nat.le_trans (show 70 ≤ 600 by omega) hB⟩
      · rw [decide_eq_false q1]
        walk_at "dl"
        rw [DL.inR_small (by omega) (by omega)]
        walk_at "dl"
        obtain ⟨nums, n1, n2, _⟩ := lc_some (i := 9) (f := Fn.law_tree_0852_e2 (Fn.law_tree_0852 n)) (ρ := [some (false, D.lst (cells.map D.int)), some (false, D.int pl), some (false, D.int (r : Int)), some (false, D.int c), some (false, D.int (c / 5 % 5)), none, none, none, none, none, none, none]) (fun i : Nat => D.int (0 + (i : Int))) D.int (fun _ => True) (List.range (c / 5 % 5).toNat) (by rw [List.length_range]; omega) (fun a ha => by
          unfold Fn.law_tree_0852_e2
          walk_at "dl"
          rw [hc, show ((16 : Nat) : Int) = 16 from rfl, DL.mod_pos (by omega)]
          walk_at "dl"
          rw [DL.ixA_ints (by omega) (by omega)]
          exact ⟨_, rfl, trivial⟩)
        rw [List.length_range] at n1
        rw [n2]
        walk_at "dl"
        have hnum : ∀ (cs : List Int), cs.length ≤ 4 → ∀ ρ : En, ∃ qs : List Int, qs.length = cs.length ∧ lcK (.ok (cs.map D.int)) [10] (gSet 10) tYesD (Fn.law_tree_0852_e3 (Fn.law_tree_0852 n)) ([some (false, D.lst (cells.map D.int)), some (false, D.int pl), some (false, D.int (r : Int)), some (false, D.int c), some (false, D.int (c / 5 % 5)), some (false, D.lst (nums.map D.int)), none, none, none, none, none, none]) = .ok (.lst (qs.map D.int)) ∧ ∀ q ∈ qs, 0 ≤ q ∧ q < 10 ^ 60 := fun cs hcs ρ =>
          lc_some D.int D.int (fun q : Int => 0 ≤ q ∧ q < 10 ^ 60) cs (by omega) fun a _ => by
            obtain ⟨o, q, e, b1, b2⟩ := number_eq a
            unfold Fn.law_tree_0852_e3
            walk_at "dl"
            rw [DL.callE_of e]
            exact ⟨q, rfl, b1, b2⟩
        by_cases q2 : c % 5 = 3
        · rw [decide_eq_true q2]
          walk_at "dl"
          obtain ⟨qs, l1, l2, l3⟩ := hnum nums (by omega) []
          rw [l2]
          walk_at "dl"
          refine ⟨_, .short qs, pl + c / 5 % 5, rfl, .short (by omega) l3, by omega, Nat.le_trans ?_ hB⟩
          show 10 + 63 * qs.length ≤ 600
          omega
        · rw [decide_eq_false q2]
          walk_at "dl"
          rw [DL.cut_to (by omega), ← List.map_take]
          obtain ⟨pr, p1, p2, p3⟩ := lc_some (i := 10) (f := Fn.law_tree_0852_e4 (Fn.law_tree_0852 n)) (ρ := [some (false, D.lst (cells.map D.int)), some (false, D.int pl), some (false, D.int (r : Int)), some (false, D.int c), some (false, D.int (c / 5 % 5)), some (false, D.lst (nums.map D.int)), none, none, none, none, none, none]) D.int D.int (fun q : Int => q.natAbs < 10 ^ 60) (nums.take (c / 25 % 4).toNat) (by rw [List.length_take]; omega) (fun a ha => by
            obtain ⟨o, q, e, b1, b2⟩ := number_eq a
            unfold Fn.law_tree_0852_e4
            walk_at "dl"
            rw [DL.callE_of e]
            walk_at "dl"
            rw [DL.mul_r (by omega) (by omega)]
            walk_at "dl"
            rw [DL.mul_r (by omega) (by omega)]
            refine ⟨_, rfl, ?_⟩
            rcases (by omega : a / 3 % 2 = 0 ∨ a / 3 % 2 = 1) with h | h <;> rw [h] <;> omega)
          rw [p2]
          walk_at "dl"
          rw [DL.cut_from (by omega), ← List.map_drop]
          obtain ⟨td, t1, t2, t3⟩ := lc_some (i := 10) (f := Fn.law_tree_0852_e5 (Fn.law_tree_0852 n)) (ρ := [some (false, D.lst (cells.map D.int)), some (false, D.int pl), some (false, D.int (r : Int)), some (false, D.int c), some (false, D.int (c / 5 % 5)), some (false, D.lst (nums.map D.int)), some (false, D.lst (pr.map D.int)), none, none, none, none, none]) D.int prD (fun e : Int × Int => (0 ≤ e.1 ∧ e.1 < 10 ^ 60) ∧ 0 ≤ e.2 ∧ e.2 < 10 ^ 60) (nums.drop (c / 25 % 4).toNat) (by rw [List.length_drop]; omega) (fun a ha => by
            obtain ⟨o, q, e, b1, b2⟩ := number_eq (a / 7)
            obtain ⟨o2, q2, e2, b3, b4⟩ := number_eq a
            unfold Fn.law_tree_0852_e5
            walk_at "dl"
            rw [DL.callE_of e, DL.callE_of e2]
            walk_at "dl"
            exact ⟨(q, q2), rfl, ⟨b1, b2⟩, b3, b4⟩)
          rw [t2]
          walk_at "dl"
          rw [List.length_take] at p1
          rw [List.length_drop] at t1
          refine ⟨_, .dear pr td, pl + c / 5 % 5, rfl, .dear (by omega) (by omega) p3 t3, by omega, Nat.le_trans ?_ hB⟩
          show 12 + 63 * pr.length + 126 * td.length ≤ 600
          omega
theorem CB : ∀ r, r ≤ 8 → C r ≤ 15000000 := fun r h => by
  rcases (by omega : r = 0 ∨ r = 1 ∨ r = 2 ∨ r = 3 ∨ r = 4 ∨ r = 5 ∨ r = 6 ∨ r = 7 ∨ r = 8) with rfl | rfl | rfl | rfl | rfl | rfl | rfl | rfl | rfl <;> decide
theorem five_at (c : Int) : ∃ r : Nat, r ≤ 8 ∧ dIxA (.lst [.int 8, .int 3, .int 0, .int 8, .int 1]) (.int (c % 5)) = .ok (.int (r : Int)) := by
  rcases (by omega : c % 5 = 0 ∨ c % 5 = 1 ∨ c % 5 = 2 ∨ c % 5 = 3 ∨ c % 5 = 4) with h | h | h | h | h <;> rw [h]
  · exact ⟨8, by omega, rfl⟩
  · exact ⟨3, by omega, rfl⟩
  · exact ⟨0, by omega, rfl⟩
  · exact ⟨8, by omega, rfl⟩
  · exact ⟨1, by omega, rfl⟩
end Tr
namespace Lk73
open PySem DL Ti De Gw Bi Lc Be Tx En Rt Tg Tv Tr
theorem read_no {v : D} (h : NotS v) : Fn.read_paper_f09b [v] = .err (Str.ofString "NoText") := by
  unfold Fn.read_paper_f09b; rw [DL.ap_bodyD (by rfl)]; unfold Fn.read_paper_f09b_g
  rcases h with rfl | ⟨n, rfl⟩ | ⟨n, rfl⟩ | ⟨n, rfl⟩ | ⟨n, rfl⟩
  · walk_at "dl"
    try rw [show isB "str" D.non = false from rfl]
    try walk_at "dl"
  · walk_at "dl"
    try rw [show isB "str" (D.int n) = false from rfl]
    try walk_at "dl"
  · walk_at "dl"
    try rw [show isB "str" (D.bl n) = false from rfl]
    try walk_at "dl"
  · walk_at "dl"
    try rw [show isB "str" (D.lst n) = false from rfl]
    try walk_at "dl"
  · walk_at "dl"
    try rw [show isB "str" (D.tup n) = false from rfl]
    try walk_at "dl"
theorem spt_no {v : D} (h : Spt v) : Fn.read_paper_f09b [v] = .err (Str.ofString "NoText") := by
  rcases h with ⟨t, rfl, h1, h2, h3⟩ | h
  · rcases read_paper_any t h1 h2 with ⟨d, o, g, _⟩ | ⟨_, g⟩
    · rw [h3] at g; cases g
    · exact g
  · exact read_no h
theorem read_yes {p : Pp} (M : Rd 8 p) (hz : sz p ≤ 15000000) : ∃ o, Fn.read_paper_f09b [.str (tx p)] = .ok (o, dP p) := by
  have hl := M.tk.len
  rcases read_paper_any (tx p) (by omega) M.codes with ⟨d, o, g, h⟩ | ⟨g, _⟩
  · rw [val_tx 8 p M] at g
    cases g
    exact ⟨o, h⟩
  · rw [val_tx 8 p M] at g
    cases g
theorem ref_yes {v : D} (h : Fn.read_paper_f09b [v] = .err (Str.ofString "NoText")) : ∃ o, Fn.law_refused_5ec6 [v] = .ok (o, .bl true) := by
  have hy : Fn.law_refused_5ec6_y1 [some (false, v), some (false, D.bl false)] = .err (Str.ofString "NoText") := by
    unfold Fn.law_refused_5ec6_y1
    walk_at "dl"
    unfold callE
    rw [h]; rfl
  unfold Fn.law_refused_5ec6; rw [DL.ap_body (by rfl)]; unfold Fn.law_refused_5ec6_g
  walk_at "dl"
  rw [hy]
  have ht : tryK (.err (Str.ofString "NoText")) (fun x ρ => R.ok (Fl.next ρ)) [(Str.ofString "NoText", 0)] [Fn.law_refused_5ec6_h2] [some (false, v), some (false, D.bl false)] = Fn.law_refused_5ec6_h2 [some (false, v), some (false, D.bl false)] := by rfl
  rw [ht]
  unfold Fn.law_refused_5ec6_h2
  walk_at "dl"
  exact ⟨_, rfl⟩
theorem ref_no {v w : D} {o : Bool} (h : Fn.read_paper_f09b [v] = .ok (o, w)) : ∃ o, Fn.law_refused_5ec6 [v] = .ok (o, .bl false) := by
  have hy : Fn.law_refused_5ec6_y1 [some (false, v), some (false, D.bl false)] = .ok w := by
    unfold Fn.law_refused_5ec6_y1
    walk_at "dl"
    rw [DL.callE_of h]
  unfold Fn.law_refused_5ec6; rw [DL.ap_body (by rfl)]; unfold Fn.law_refused_5ec6_g
  walk_at "dl"
  rw [hy]
  have ht : tryK (.ok w) (fun x ρ => R.ok (Fl.next ρ)) [(Str.ofString "NoText", 0)] [Fn.law_refused_5ec6_h2] [some (false, v), some (false, D.bl false)] = .ok (.next [some (false, v), some (false, D.bl false)]) := by rfl
  rw [ht]
  walk_at "dl"
  exact ⟨_, rfl⟩
theorem class_yes {v : D} (h : Fn.read_paper_f09b [v] = .err (Str.ofString "NoText")) : ∃ o, Fn.law_class_ba70 [v] = .ok (o, .bl true) := by
  have hy : Fn.law_class_ba70_y1 [some (false, v), some (false, D.bl false), none] = .err (Str.ofString "NoText") := by
    unfold Fn.law_class_ba70_y1
    walk_at "dl"
    unfold callE
    rw [h]; rfl
  unfold Fn.law_class_ba70; rw [DL.ap_body (by rfl)]; unfold Fn.law_class_ba70_g
  walk_at "dl"
  rw [hy]
  walk_at "dl"
  have hc : catchAs 2 [(Str.ofString "NoText", true)] Fn.law_class_ba70_h2 (Str.ofString "NoText") [some (false, v), some (false, D.bl false), none] = .ok (.next [some (false, v), some (false, D.bl true), none]) := by rfl
  rw [hc]
  walk_at "dl"
  exact ⟨_, rfl⟩
theorem law_true : ∀ ns : List Int, ns.length ≤ 63 → ∃ o, Fn.law_89dc [.scr ns] = .ok (o, .bl true) := by
  intro ns hl
  unfold Fn.law_89dc; rw [DL.ap_body (by rfl)]; unfold Fn.law_89dc_g
  walk_at "dl"
  obtain ⟨o0, e0⟩ := cell0_eq ns 0 (by omega)
  rw [DL.callE_of e0]
  generalize ns.getD (0 : Int).toNat 0 = c0
  walk_at "dl"
  obtain ⟨r, hr, e5⟩ := five_at c0
  rw [e5]
  walk_at "dl"
  obtain ⟨cells, hc, e16⟩ := entries_eq ns hl 16 (by omega) (by omega)
  have e16 : Fn.law_entries_7bb9 [.scr ns, .int 16] = .ok (true, .lst (cells.map .int)) := e16
  rw [DL.callE_of e16]
  walk_at "dl"
  obtain ⟨ot, p, pl', et, M', _, hz⟩ := tree_eq cells hc 12 r 0 (by omega) (by omega)
  have M := M'.mono hr
  have hz : sz p ≤ 15000000 := Nat.le_trans hz (by rw [if_pos rfl]; exact CB r hr)
  rw [DL.callE_of et]
  walk_at "dl"
  obtain ⟨o1, e1⟩ := Wn.written_eq 8 p M.tk (by omega) 12 (by omega)
  rw [DL.callE_of e1]
  walk_at "dl"
  obtain ⟨o2, e2⟩ := cell0_eq ns 2 (by omega)
  rw [DL.callE_of e2]
  generalize ns.getD (2 : Int).toNat 0 = c2
  walk_at "dl"
  obtain ⟨o3, v, e3, hS⟩ := spoilt73 M hz c2
  rw [DL.callE_of e3]
  walk_at "dl"
  obtain ⟨oy, ey⟩ := read_yes M hz
  obtain ⟨o4, e4⟩ := ref_no ey
  obtain ⟨o5, e5⟩ := ref_yes (spt_no hS)
  obtain ⟨o6, e6⟩ := class_yes (spt_no hS)
  rw [DL.callO_flat e4 rfl]
  walk_at "dl"
  rw [DL.callO_flat e5 rfl]
  walk_at "dl"
  rw [DL.callO_flat e6 rfl]
  walk_at "dl"
  obtain ⟨ρ', g1, z, g2⟩ := DL.loop_at (g := gSet 6) (gb := Fn.law_89dc_b1) (fun i : Nat => D.int (0 + (i : Int))) (List.range 8)
    (fun i ρ => ∃ z : DL.Slot, ρ = [some (false, D.scr ns), some (false, D.int (r : Int)), some (false, dP p), some (false, D.str (tx p)), some (false, v), some (false, dP (deepP i)), z])
    [some (false, D.scr ns), some (false, D.int (r : Int)), some (false, dP p), some (false, D.str (tx p)), some (false, v), some (false, D.tup [D.str (Str.ofString "tie"), D.int 0]), none] ⟨none, rfl⟩ (fun i b ρ hb ⟨z, hρ⟩ => by
      subst hρ
      refine ⟨_, rfl, ?_⟩
      unfold Fn.law_89dc_b1
      walk_at "dl"
      exact ⟨_, rfl, _, rfl⟩)
  rw [g1]
  subst g2
  walk_at "dl"
  obtain ⟨o7, e7⟩ := deep_eq73 8 (by omega)
  have e7 : Fn.law_deep_c3cf [.int 8] = .ok (o7, .str (tx (deepP 8))) := e7
  rw [DL.callE_of e7]
  walk_at "dl"
  obtain ⟨o8, e8⟩ := read_yes (deep_rd 8) (by rw [deep_sz]; omega)
  rw [DL.callE_of e8]
  walk_at "dl"
  obtain ⟨o9, e9⟩ := same_eq 8 (deepP 8) (deep_rd 8) 12 (by omega)
  rw [DL.callO_flat e9 rfl]
  walk_at "dl"
  rw [DL.callE_of ey]
  walk_at "dl"
  obtain ⟨oa, ea⟩ := same_eq 8 p M 12 (by omega)
  rw [DL.callO_flat ea rfl]
  walk_at "dl"
  exact ⟨_, rfl⟩
end Lk73
open PySem PySem.W PyProof.Rows
set_option maxHeartbeats 0 in
theorem PySem.Challenge.cw_deskround_k73_no_paper_holds : PySem.Challenge.rw_deskround_k73_no_paper.Holds := by
  refine hdTop ?_
  k_fill
  refine L2.walk_of (l := PySem.Challenge.rw_deskround_k73_no_paper) (n := 63) (k := 28) (x := "script") (CX := fun _ => L2.CX0) (sp := fun w => DL.spLaw _) rfl (by decide) rfl ⟨rfl, by decide, by decide⟩ (fun w h Y => PySem.W.kIn_of Y) ?F (fun _ _ a ns hl _ hS => ⟨a, ns, rfl, hS, hl, fun _ => rfl⟩) (fun _ _ _ _ _ h => h)
  case F =>
    intro w mg fa h KX G hmg
    refine' Lk73.all_mk Lk73.law_true KX G hmg ?a_number_of ?l_number_of ?c_number_of ?k_number_of ?a_parts_of ?l_parts_of ?c_parts_of ?k_parts_of ?a__law_cell ?l__law_cell ?c__law_cell ?k__law_cell ?a__law_entries ?l__law_entries ?c__law_entries ?k__law_entries ?a__law_whole ?l__law_whole ?c__law_whole ?k__law_whole ?a__law_number ?l__law_number ?c__law_number ?k__law_number ?a__law_written ?l__law_written ?c__law_written ?k__law_written ?a__law_bad ?l__law_bad ?c__law_bad ?k__law_bad ?a__law_deep ?l__law_deep ?c__law_deep ?k__law_deep ?a_price_of ?l_price_of ?c_price_of ?k_price_of ?a_due_of ?l_due_of ?c_due_of ?k_due_of ?a__law_tree ?l__law_tree ?c__law_tree ?k__law_tree ?a__law_same ?l__law_same ?c__law_same ?k__law_same ?a__law_put_in ?l__law_put_in ?c__law_put_in ?k__law_put_in ?a_read_at ?l_read_at ?c_read_at ?k_read_at ?a__law_spoilt ?l__law_spoilt ?c__law_spoilt ?k__law_spoilt ?a_read_paper ?l_read_paper ?c_read_paper ?k_read_paper ?a__law_refused ?l__law_refused ?c__law_refused ?k__law_refused ?a__law_class ?l__law_class ?c__law_class ?k__law_class ?a_law ?l_law ?c_law ?k_law ?n_DeskError ?ex_DeskError ?ek_DeskError ?es_DeskError ?et_DeskError ?n_NoText ?ex_NoText ?ek_NoText ?es_NoText ?et_NoText ?n_Ring ?ex_Ring ?ek_Ring ?es_Ring ?et_Ring ?em_NoText_DeskError ?em_NoText_NoText ?ki_NoText_NoText ?ki_NoText_Ring ?ki_NoText_ValueError ?kn_NoText ?kn_Ring ?kn_ValueError ?c1_NoText ?c2_NoText ?c3_NoText ?c4_NoText ?c5_NoText ?oc1 ?oc2 ?z_ValueError ?z_bool ?z_int ?z_isinstance ?z_len ?z_list ?z_range ?z_str ?z_tuple ?e_DEEPEST ?e_FIGURES ?e_LONGEST
    (case n_DeskError => k_is); (case n_NoText => k_is); (case n_Ring => k_is); (case a_number_of => k_is); (case l_number_of => k_is); (case c_number_of => k_is); (case k_number_of => k_is); (case a_parts_of => k_is); (case l_parts_of => k_is); (case c_parts_of => k_is); (case k_parts_of => k_is); (case a__law_cell => k_is); (case l__law_cell => k_is); (case c__law_cell => k_is); (case k__law_cell => k_is); (case a__law_entries => k_is); (case l__law_entries => k_is); (case c__law_entries => k_is); (case k__law_entries => k_is); (case a__law_whole => k_is); (case l__law_whole => k_is); (case c__law_whole => k_is); (case k__law_whole => k_is); (case a__law_number => k_is); (case l__law_number => k_is); (case c__law_number => k_is); (case k__law_number => k_is); (case a__law_written => k_is); (case l__law_written => k_is); (case c__law_written => k_is); (case k__law_written => k_is); (case a__law_bad => k_is); (case l__law_bad => k_is); (case c__law_bad => k_is); (case k__law_bad => k_is); (case a__law_deep => k_is); (case l__law_deep => k_is); (case c__law_deep => k_is); (case k__law_deep => k_is); (case a_price_of => k_is); (case l_price_of => k_is); (case c_price_of => k_is); (case k_price_of => k_is); (case a_due_of => k_is); (case l_due_of => k_is); (case c_due_of => k_is); (case k_due_of => k_is); (case a__law_tree => k_is); (case l__law_tree => k_is); (case c__law_tree => k_is); (case k__law_tree => k_is); (case a__law_same => k_is); (case l__law_same => k_is); (case c__law_same => k_is); (case k__law_same => k_is); (case a__law_put_in => k_is); (case l__law_put_in => k_is); (case c__law_put_in => k_is); (case k__law_put_in => k_is); (case a_read_at => k_is); (case l_read_at => k_is); (case c_read_at => k_is); (case k_read_at => k_is); (case a__law_spoilt => k_is); (case l__law_spoilt => k_is); (case c__law_spoilt => k_is); (case k__law_spoilt => k_is); (case a_read_paper => k_is); (case l_read_paper => k_is); (case c_read_paper => k_is); (case k_read_paper => k_is); (case a__law_refused => k_is); (case l__law_refused => k_is); (case c__law_refused => k_is); (case k__law_refused => k_is); (case a__law_class => k_is); (case l__law_class => k_is); (case c__law_class => k_is); (case k__law_class => k_is); (case a_law => k_is); (case l_law => k_is); (case c_law => k_is); (case k_law => k_is); (case ex_DeskError => k_exc); (case ek_DeskError => k_is); (case es_DeskError => k_is); (case et_DeskError => k_is); (case ex_NoText => k_exc); (case ek_NoText => k_is); (case es_NoText => k_is); (case et_NoText => k_is); (case ex_Ring => k_exc); (case ek_Ring => k_is); (case es_Ring => k_is); (case et_Ring => k_is); (case em_NoText_DeskError => kts_exm); (case em_NoText_NoText => kts_exm); (case ki_NoText_NoText => kit_is); (case ki_NoText_Ring => kit_is); (case ki_NoText_ValueError => kit_is); (case kn_NoText => kit_is); (case kn_Ring => kit_is); (case kn_ValueError => kit_is); (case c1_NoText => k_is); (case c2_NoText => k_is); (case c3_NoText => k_is); (case c4_NoText => k_is); (case c5_NoText => k_is); (case oc1 => k_is); (case oc2 => k_is); (case z_ValueError => k_is); (case z_bool => k_is); (case z_int => k_is); (case z_isinstance => k_is); (case z_len => k_is); (case z_list => k_is); (case z_range => k_is); (case z_str => k_is); (case z_tuple => k_is); (case e_DEEPEST => k_is); (case e_FIGURES => k_is); (case e_LONGEST => k_is)

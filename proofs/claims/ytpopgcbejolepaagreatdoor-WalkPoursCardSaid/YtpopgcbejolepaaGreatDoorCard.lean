/- It is proved that the law's card holds: for every input the call returns true and each argument reads as before; conditions: the row's own cells (the listed package variables hold what the program's text lays). -/
import Derived.Test.YtpopgcbejolepaaGreatDoorHolds
import Derived.Test.YtpopgcbejolepaaGreatDoorTie
import Derived.Test.YtpopgcbejolepaaGreatDoorCards
namespace Go.Proofs.YtpopgcbejolepaaGreatDoor
open Go
open Go.ChangeShapes Go.WideShapes Go.ChangeAt Go.RowKit
theorem c_hw : Rows.walkPoursRow.wfByText (OpenSpec.ofChange Rows.walkPoursSpec) = true := by kernel_rfl
theorem c_hm : Tryz.pinned.checked.prog.mainIs = some (true, "c19190bfd5848e97f3519043ddc73c686199b25b2f0301b3777bdc4433c4700f".toList) := by kernel_rfl
theorem c_lk : true = Tryz.pinned.checked.prog.looks [] := by kernel_rfl
theorem c_st : ([3, 3].all fun u => !Tryz.prog.wantsStandIn u) = true := by kernel_rfl
theorem c_fn : Tryz.prog.funcNamed "derrick/derricklaw11.WalkPours" = some 7 := by kernel_rfl
theorem c_hg : false = Rows.walkPoursRow.goesBy Tryz.pinned.checked.prog := by kernel_rfl
theorem card_holds : Rows.WalkPoursCardSaid :=
  Claim7.holds_tied_plain_at .later [] [.data, .data, .data, .sentinel] true (true, "c19190bfd5848e97f3519043ddc73c686199b25b2f0301b3777bdc4433c4700f") true
    law_holds (fun _ h => by cases h) c_hw (fun _ h => by cases h) walkPours_row_tie rfl ⟨rfl, rfl⟩ c_hm rfl
    (fun f fn hf hfn => by
      obtain rfl : f = 7 := Option.some.inj (c_fn.symm.trans hf) |>.symm
      obtain rfl : fn = Tryz.f7 := (Option.some.inj (Tryz.func7.symm.trans hfn)).symm
      exact ⟨c_lk, fun j t ht => by
        rw [Tryz.params7] at ht
        have hm : t ∈ [3, 3] := by simpa using Array.mem_of_getElem? ht
        exact (show Tryz.prog.wantsStandIn t = false by simpa using List.all_eq_true.1 c_st t hm)⟩)
    c_hg
#print axioms card_holds
end Go.Proofs.YtpopgcbejolepaaGreatDoor

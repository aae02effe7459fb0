/- TalkOwn answers true at each of its four inputs, and leaves them alone: no condition beyond the row's own, that the package-level variables hold what the program's text lays. -/
import Derived.Test.YtkafdfjimlihdaaGreatDoorQ1X3
import Derived.Test.YtkafdfjimlihdaaGreatDoorTie
import Derived.Test.YtkafdfjimlihdaaGreatDoorCards
import Derived.SevenTiedAt
set_option linter.unusedVariables false
set_option linter.unusedSimpArgs false
namespace Go.Proofs.YtkafdfjimlihdaaGreatDoor
open Go Go.Ev Go.ChangeShapes Go.WideShapes Go.ChangeAt Go.RowKit
set_option maxRecDepth 100000
theorem card_wf : Rows.talkOwnRow.wfByText (OpenSpec.ofChange Rows.talkOwnSpec) = true := by kernel_rfl
theorem card_main : Tryz.pinned.checked.prog.mainIs = some (true, "a3be6cf6912433eb2258c4ef27cf167af81180d39ceec447bbfe19a0a898f41f".toList) := by kernel_rfl
theorem card_named : Tryz.pinned.checked.prog.funcNamed Rows.talkOwnRow.func = some 6 := by kernel_rfl
theorem card_looks : false = Tryz.pinned.checked.prog.looks [] := by kernel_rfl
theorem card_wants : Tryz.pinned.checked.prog.wantsStandIn 4 = false := by kernel_rfl
theorem card_unf : Tryz.prog.unfollowed 6 = true := by
  have h := talkOwnFacts.c10
  rw [beq_iff_eq] at h
  exact h.symm
theorem card_goes0 : Tryz.prog.goes 6 = false := by unfold Program.goes; rw [talkOwnFacts.clo_eq, card_unf]; kernel_rfl
theorem card_goes : false = Rows.talkOwnRow.goesBy Tryz.pinned.checked.prog := Go.Ev.goes_of (f := 6) rfl said_named card_goes0

theorem talkOwn_holds : Rows.TalkOwnCardSaid :=
  Claim7.holds_tied_plain_at .later [] [.data, .data, .data, .data, .data, .data, .widerDeep, .widerDeep, .widerDeep, .data] true (true, "a3be6cf6912433eb2258c4ef27cf167af81180d39ceec447bbfe19a0a898f41f") false
    talkOwn_said (fun _ h => by cases h) card_wf (fun _ h => by cases h) talkOwn_row_tie rfl ⟨rfl, rfl⟩ card_main rfl
    (fun f fn hf hfn => by
      obtain rfl : f = 6 := (Option.some.inj (card_named.symm.trans hf)).symm
      obtain rfl : fn = Tryz.f6 := (Option.some.inj (said_func.symm.trans hfn)).symm
      exact ⟨card_looks, fun j t ht => by
        rw [Tryz.params6] at ht
        have h4 : t = 4 := by
          rcases j with _ | _ | j
          · simpa using ht.symm
          · simpa using ht.symm
          · simp at ht
        subst h4
        exact card_wants⟩)
    card_goes
#print axioms talkOwn_holds
end Go.Proofs.YtkafdfjimlihdaaGreatDoor

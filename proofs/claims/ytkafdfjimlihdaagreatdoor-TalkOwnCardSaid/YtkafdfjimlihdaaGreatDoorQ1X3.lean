/- TalkOwn: the row. -/
import Derived.Test.YtkafdfjimlihdaaGreatDoorQ1X2
import Derived.Test.YtkafdfjimlihdaaGreatDoorQ1F
set_option linter.unusedVariables false
set_option linter.unusedSimpArgs false
namespace Go.Proofs.YtkafdfjimlihdaaGreatDoor
open Go Go.Ev Go.ChangeShapes Go.WideShapes Go.ChangeAt Go.RowKit
set_option maxRecDepth 100000
theorem said_facts : joinedFacts Tryz.pinned.checked.prog 6 Tryz.f6 Rows.talkOwnSpec Rows.talkOwnRow = true := talkOwnFacts.all
theorem said_func : Tryz.pinned.checked.prog.funcs[6]? = some Tryz.f6 := Tryz.func6
theorem said_named : Tryz.pinned.checked.prog.funcNamed "ostiary/ostiarylaw20.TalkOwn" = some 6 := by kernel_rfl
theorem said_inst : Tryz.f6.isInstance Tryz.pinned.checked.prog Rows.talkOwnRow.origin Rows.talkOwnRow.targs := of_decide_eq_true (by kernel_rfl)
theorem said_wrap : Tryz.f6.isWrapper Tryz.pinned.checked.prog Rows.talkOwnRow.wrapper Rows.talkOwnRow.mainSum := by
  unfold Func.isWrapper; first | (rw [if_pos (by decide +kernel)]; kernel_rfl) | (rw [if_neg (by decide +kernel)]; exact ⟨rfl, rfl⟩)
theorem talkOwn_said : Rows.TalkOwnSaid :=
  OpenClaim.holds_of_wide 6 Tryz.f6 rfl rfl rfl rfl rfl rfl rfl ⟨rfl, rfl, rfl, rfl, rfl⟩ rfl rfl rfl rfl rfl said_named said_func said_facts said_inst said_wrap
    (fun os started H enc _ => lifted os started H enc)
end Go.Proofs.YtkafdfjimlihdaaGreatDoor

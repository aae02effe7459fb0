/- The walk of TalkOwn. -/
import Derived.Test.YtkafdfjimlihdaaGreatDoorQ1W
import Derived.Test.YtkafdfjimlihdaaGreatDoorQ1Kd
import Derived.Test.YtkafdfjimlihdaaGreatDoorQ1Ke
import Derived.Test.YtkafdfjimlihdaaGreatDoorRows
set_option linter.unusedVariables false
set_option linter.unusedSimpArgs false
namespace Go.Proofs.YtkafdfjimlihdaaGreatDoor
open Go Go.Ev Go.ChangeShapes Go.WideShapes Go.ChangeAt Go.RowKit
set_option maxRecDepth 100000
theorem isT_mk' {r : CR} (h : isT r = true) : ∃ s1, r = .mk (.bool true) s1 := isT_mk h
theorem own : ownKnob Tryz.prog.godebug = none := by kernel_rfl
theorem laid_is : laidB Tryz.prog Rows.talkOwnRow.laid GL = true := by kernel_rfl
theorem body_B : PT.get TbB (.i (.i .h)) = some F6 := by kernel_rfl
theorem body_C : PT.get TbC (.i (.i .h)) = some F6 := by kernel_rfl

/-- Whatever the world, under the row's condition: the call returns true, and what was there is as it was. -/
theorem walk (a b : Bool) (W : World) (hs : W.ShapedOpen Tryz.prog) (hl : laidMet Tryz.prog Rows.talkOwnRow.laid W) : Calls Tryz.prog 6 #[.bool a, .bool b] W fun e W' => e = .returned (.bool true) ∧ Below W.heap.size W W' := by
  have hb : ∃ x r, PT.get TbB (.i (.i .h)) = some (.body x r) := ⟨_, _, body_B⟩
  have hc : ∃ x r, PT.get TbC (.i (.i .h)) = some (.body x r) := ⟨_, _, body_C⟩
  obtain ⟨_, _, hb⟩ := hb
  obtain ⟨_, _, hc⟩ := hc
  have hn : Tryz.prog.globals.size < Pos.num (.i (.o (.o (.o (.o (.o .h)))))) := of_decide_eq_true (by kernel_rfl)
  have ha : RVs (sgW Tryz.prog W) (Pos.num (.i (.o (.o (.o (.o (.o .h))))))) [.bool a, .bool b] [.bool a, .bool b] := by simp [RVs, RV]
  cases a <;> cases b
  · obtain ⟨s1, h⟩ := isT_mk' ownFF
    exact law_calls mixed TbC_ok hs hl laid_is hc ha hn h
  · obtain ⟨s1, h⟩ := isT_mk' ownFT
    exact law_calls mixed TbC_ok hs hl laid_is hc ha hn h
  · obtain ⟨s1, h⟩ := isT_mk' ownTF
    exact law_calls mixed TbB_ok hs hl laid_is hb ha hn h
  · obtain ⟨s1, h⟩ := isT_mk' ownTT
    exact law_calls mixed TbB_ok hs hl laid_is hb ha hn h

end Go.Proofs.YtkafdfjimlihdaaGreatDoor

/- Runs, by the kernel. -/
import Derived.Test.YtkafdfjimlihdaaGreatDoorQ1M
set_option linter.unusedVariables false
set_option linter.unusedSimpArgs false
namespace Go.Proofs.YtkafdfjimlihdaaGreatDoor
open Go Go.Ev
set_option maxRecDepth 100000
theorem mLay0_ok : runM (callF Tb (runS Tb 1000000) (.o (.o (.i (.i .h)))) mLay0.args mLay0.start) mLay0.v mLay0.nx' mLay0.X' = true := by kernel_rfl
theorem mFin0_ok : runM (callF Tb (runS Tb 1000000) (.o (.o (.o (.o (.o .h))))) mFin0.args mFin0.start) mFin0.v mFin0.nx' mFin0.X' = true := by kernel_rfl
theorem mAw_ok : runM (callF TbA (runS TbA 1000000) (.i (.i (.o (.i .h)))) mAw.args mAw.start) mAw.v mAw.nx' mAw.X' = true := by kernel_rfl
end Go.Proofs.YtkafdfjimlihdaaGreatDoor

/- Runs, by the kernel. -/
import Derived.Test.YtkafdfjimlihdaaGreatDoorQ1M
set_option linter.unusedVariables false
set_option linter.unusedSimpArgs false
namespace Go.Proofs.YtkafdfjimlihdaaGreatDoor
open Go Go.Ev
set_option maxRecDepth 100000
theorem mLayT_ok : runM (callF Tb (runS Tb 1000000) (.o (.o (.i (.i .h)))) mLayT.args mLayT.start) mLayT.v mLayT.nx' mLayT.X' = true := by kernel_rfl
theorem mFinC_ok : runM (callF Tb (runS Tb 1000000) (.o (.o (.o (.o (.o .h))))) mFinC.args mFinC.start) mFinC.v mFinC.nx' mFinC.X' = true := by kernel_rfl
theorem mFinD_ok : runM (callF Tb (runS Tb 1000000) (.o (.o (.o (.o (.o .h))))) mFinD.args mFinD.start) mFinD.v mFinD.nx' mFinD.X' = true := by kernel_rfl
end Go.Proofs.YtkafdfjimlihdaaGreatDoor

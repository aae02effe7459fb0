/- Runs, by the kernel. -/
import Derived.Test.YtkafdfjimlihdaaGreatDoorQ1M
set_option linter.unusedVariables false
set_option linter.unusedSimpArgs false
namespace Go.Proofs.YtkafdfjimlihdaaGreatDoor
open Go Go.Ev
set_option maxRecDepth 100000
theorem mLayF_ok : runM (callF Tb (runS Tb 1000000) (.o (.o (.i (.i .h)))) mLayF.args mLayF.start) mLayF.v mLayF.nx' mLayF.X' = true := by kernel_rfl
theorem mFinA_ok : runM (callF Tb (runS Tb 1000000) (.o (.o (.o (.o (.o .h))))) mFinA.args mFinA.start) mFinA.v mFinA.nx' mFinA.X' = true := by kernel_rfl
theorem mFinB_ok : runM (callF Tb (runS Tb 1000000) (.o (.o (.o (.o (.o .h))))) mFinB.args mFinB.start) mFinB.v mFinB.nx' mFinB.X' = true := by kernel_rfl
end Go.Proofs.YtkafdfjimlihdaaGreatDoor

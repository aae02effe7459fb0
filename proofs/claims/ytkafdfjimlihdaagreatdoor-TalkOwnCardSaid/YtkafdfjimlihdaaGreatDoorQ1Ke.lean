/- Runs, by the kernel. -/
import Derived.Test.YtkafdfjimlihdaaGreatDoorQ1M
set_option linter.unusedVariables false
set_option linter.unusedSimpArgs false
namespace Go.Proofs.YtkafdfjimlihdaaGreatDoor
open Go Go.Ev
set_option maxRecDepth 100000
theorem ownTF : isT (callF TbB (runS TbB 1000000) (.i (.i .h)) [.bool true, .bool false] S0) = true := by kernel_rfl
theorem ownTT : isT (callF TbB (runS TbB 1000000) (.i (.i .h)) [.bool true, .bool true] S0) = true := by kernel_rfl
end Go.Proofs.YtkafdfjimlihdaaGreatDoor

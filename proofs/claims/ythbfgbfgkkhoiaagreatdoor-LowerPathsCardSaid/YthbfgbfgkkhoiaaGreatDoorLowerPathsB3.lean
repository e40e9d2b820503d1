/- LowerPaths: cases. No condition. -/
import Derived.Test.YthbfgbfgkkhoiaaGreatDoorLowerPathsA
import Derived.KernelRfl
set_option maxRecDepth 100000
namespace Go.Proofs.YthbfgbfgkkhoiaaGreatDoor
open Go Go.Ax
theorem lp__5 (p0 : Int) : lpG p0 5 = true := by kernel_rfl
end Go.Proofs.YthbfgbfgkkhoiaaGreatDoor

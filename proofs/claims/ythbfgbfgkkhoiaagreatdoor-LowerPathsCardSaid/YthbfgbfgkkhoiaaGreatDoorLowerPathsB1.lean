/- LowerPaths: cases. No condition. -/
import Derived.Test.YthbfgbfgkkhoiaaGreatDoorLowerPathsA
import Derived.KernelRfl
set_option maxRecDepth 100000
namespace Go.Proofs.YthbfgbfgkkhoiaaGreatDoor
open Go Go.Ax
theorem lp__4 (p0 : Int) : lpG p0 4 = true := by kernel_rfl
theorem lp__9 (p0 : Int) : lpG p0 9 = true := by kernel_rfl
theorem lp__8 (p0 : Int) : lpG p0 8 = true := by kernel_rfl
theorem lp__3 (p0 : Int) : lpG p0 3 = true := by kernel_rfl
end Go.Proofs.YthbfgbfgkkhoiaaGreatDoor

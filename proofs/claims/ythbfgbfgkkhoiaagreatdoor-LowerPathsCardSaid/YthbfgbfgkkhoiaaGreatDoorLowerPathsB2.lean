/- LowerPaths: cases. No condition. -/
import Derived.Test.YthbfgbfgkkhoiaaGreatDoorLowerPathsA
import Derived.KernelRfl
set_option maxRecDepth 100000
namespace Go.Proofs.YthbfgbfgkkhoiaaGreatDoor
open Go Go.Ax
theorem lp__6 (p0 : Int) : lpG p0 6 = true := by kernel_rfl
theorem lp__7 (p0 : Int) : lpG p0 7 = true := by kernel_rfl
theorem lp__2 (p0 : Int) : lpG p0 2 = true := by kernel_rfl
theorem lp__1 (p0 : Int) : lpG p0 1 = true := by kernel_rfl
theorem lp__0 (p0 : Int) : lpG p0 0 = true := by kernel_rfl
end Go.Proofs.YthbfgbfgkkhoiaaGreatDoor

/- LowerArcs: cases. No condition. -/
import Derived.Test.YthbfgbfgkkhoiaaGreatDoorLowerArcsA
import Derived.KernelRfl
set_option maxRecDepth 100000
namespace Go.Proofs.YthbfgbfgkkhoiaaGreatDoor
open Go Go.Ax
theorem la_f_8_7 (p0 : Int) (p1 : Int) : laG p0 p1 false 8 7 = true := by kernel_rfl
theorem la_f_8_8 (p0 : Int) (p1 : Int) : laG p0 p1 false 8 8 = true := by kernel_rfl
end Go.Proofs.YthbfgbfgkkhoiaaGreatDoor

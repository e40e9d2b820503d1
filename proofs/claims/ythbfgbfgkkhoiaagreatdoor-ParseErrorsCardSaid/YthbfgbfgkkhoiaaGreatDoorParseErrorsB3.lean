/- ParseErrors: cases. No condition. -/
import Derived.Test.YthbfgbfgkkhoiaaGreatDoorParseErrorsA
import Derived.KernelRfl
set_option maxRecDepth 100000
namespace Go.Proofs.YthbfgbfgkkhoiaaGreatDoor
open Go Go.Ax
theorem pe__4 (p0 : Int) : peG p0 4 = true := by kernel_rfl
theorem pe__2 (p0 : Int) : peG p0 2 = true := by kernel_rfl
theorem pe__3 (p0 : Int) : peG p0 3 = true := by kernel_rfl
theorem pe__1 (p0 : Int) : peG p0 1 = true := by kernel_rfl
theorem pe__0 (p0 : Int) : peG p0 0 = true := by kernel_rfl
end Go.Proofs.YthbfgbfgkkhoiaaGreatDoor

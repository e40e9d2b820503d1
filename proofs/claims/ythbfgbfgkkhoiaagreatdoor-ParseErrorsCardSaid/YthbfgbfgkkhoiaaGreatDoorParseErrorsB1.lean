/- ParseErrors: cases. No condition. -/
import Derived.Test.YthbfgbfgkkhoiaaGreatDoorParseErrorsA
import Derived.KernelRfl
set_option maxRecDepth 100000
namespace Go.Proofs.YthbfgbfgkkhoiaaGreatDoor
open Go Go.Ax
theorem pe__17 (p0 : Int) : peG p0 17 = true := by kernel_rfl
theorem pe__16 (p0 : Int) : peG p0 16 = true := by kernel_rfl
theorem pe__20 (p0 : Int) : peG p0 20 = true := by kernel_rfl
theorem pe__21 (p0 : Int) : peG p0 21 = true := by kernel_rfl
theorem pe__15 (p0 : Int) : peG p0 15 = true := by kernel_rfl
theorem pe__18 (p0 : Int) : peG p0 18 = true := by kernel_rfl
theorem pe__14 (p0 : Int) : peG p0 14 = true := by kernel_rfl
end Go.Proofs.YthbfgbfgkkhoiaaGreatDoor

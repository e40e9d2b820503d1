/- ParseErrors: cases. No condition. -/
import Derived.Test.YthbfgbfgkkhoiaaGreatDoorParseErrorsA
import Derived.KernelRfl
set_option maxRecDepth 100000
namespace Go.Proofs.YthbfgbfgkkhoiaaGreatDoor
open Go Go.Ax
theorem pe__8 (p0 : Int) : peG p0 8 = true := by kernel_rfl
theorem pe__10 (p0 : Int) : peG p0 10 = true := by kernel_rfl
theorem pe__19 (p0 : Int) : peG p0 19 = true := by kernel_rfl
theorem pe__12 (p0 : Int) : peG p0 12 = true := by kernel_rfl
theorem pe__13 (p0 : Int) : peG p0 13 = true := by kernel_rfl
theorem pe__11 (p0 : Int) : peG p0 11 = true := by kernel_rfl
theorem pe__9 (p0 : Int) : peG p0 9 = true := by kernel_rfl
theorem pe__7 (p0 : Int) : peG p0 7 = true := by kernel_rfl
theorem pe__6 (p0 : Int) : peG p0 6 = true := by kernel_rfl
theorem pe__22 (p0 : Int) : peG p0 22 = true := by kernel_rfl
theorem pe__5 (p0 : Int) : peG p0 5 = true := by kernel_rfl
end Go.Proofs.YthbfgbfgkkhoiaaGreatDoor

/- NamesErrors: cases. No condition. -/
import Derived.Test.YthbfgbfgkkhoiaaGreatDoorNamesErrorsA
import Derived.KernelRfl
set_option maxRecDepth 100000
namespace Go.Proofs.YthbfgbfgkkhoiaaGreatDoor
open Go Go.Ax
theorem ne__0 (p0 : Int) : neG p0 0 = true := by kernel_rfl
theorem ne__1 (p0 : Int) : neG p0 1 = true := by kernel_rfl
theorem ne__2 (p0 : Int) : neG p0 2 = true := by kernel_rfl
theorem ne__8 (p0 : Int) : neG p0 8 = true := by kernel_rfl
theorem ne__7 (p0 : Int) : neG p0 7 = true := by kernel_rfl
end Go.Proofs.YthbfgbfgkkhoiaaGreatDoor

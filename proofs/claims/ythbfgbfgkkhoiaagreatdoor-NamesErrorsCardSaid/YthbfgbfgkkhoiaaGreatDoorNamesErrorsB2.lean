/- NamesErrors: cases. No condition. -/
import Derived.Test.YthbfgbfgkkhoiaaGreatDoorNamesErrorsA
import Derived.KernelRfl
set_option maxRecDepth 100000
namespace Go.Proofs.YthbfgbfgkkhoiaaGreatDoor
open Go Go.Ax
theorem ne__12 (p0 : Int) : neG p0 12 = true := by kernel_rfl
theorem ne__5 (p0 : Int) : neG p0 5 = true := by kernel_rfl
theorem ne__11 (p0 : Int) : neG p0 11 = true := by kernel_rfl
end Go.Proofs.YthbfgbfgkkhoiaaGreatDoor

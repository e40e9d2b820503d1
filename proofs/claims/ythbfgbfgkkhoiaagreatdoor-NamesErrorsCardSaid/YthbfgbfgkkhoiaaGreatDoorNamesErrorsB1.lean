/- NamesErrors: cases. No condition. -/
import Derived.Test.YthbfgbfgkkhoiaaGreatDoorNamesErrorsA
import Derived.KernelRfl
set_option maxRecDepth 100000
namespace Go.Proofs.YthbfgbfgkkhoiaaGreatDoor
open Go Go.Ax
theorem ne__3 (p0 : Int) : neG p0 3 = true := by kernel_rfl
theorem ne__13 (p0 : Int) : neG p0 13 = true := by kernel_rfl
end Go.Proofs.YthbfgbfgkkhoiaaGreatDoor

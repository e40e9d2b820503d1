/- NamesErrors: cases. No condition. -/
import Derived.Test.YthbfgbfgkkhoiaaGreatDoorNamesErrorsA
import Derived.KernelRfl
set_option maxRecDepth 100000
namespace Go.Proofs.YthbfgbfgkkhoiaaGreatDoor
open Go Go.Ax
theorem ne__4 (p0 : Int) : neG p0 4 = true := by kernel_rfl
theorem ne__9 (p0 : Int) : neG p0 9 = true := by kernel_rfl
theorem ne__10 (p0 : Int) : neG p0 10 = true := by kernel_rfl
theorem ne__6 (p0 : Int) : neG p0 6 = true := by kernel_rfl
end Go.Proofs.YthbfgbfgkkhoiaaGreatDoor

/- ParseParts: cases. No condition. -/
import Derived.Test.YthbfgbfgkkhoiaaGreatDoorParsePartsA
import Derived.KernelRfl
set_option maxRecDepth 100000
namespace Go.Proofs.YthbfgbfgkkhoiaaGreatDoor
open Go Go.Ax
theorem pp_t_1 (p0 : Int) : ppG p0 true 1 = true := by kernel_rfl
theorem pp_f_1 (p0 : Int) : ppG p0 false 1 = true := by kernel_rfl
theorem pp_t_0 (p0 : Int) : ppG p0 true 0 = true := by kernel_rfl
theorem pp_f_0 (p0 : Int) : ppG p0 false 0 = true := by kernel_rfl
end Go.Proofs.YthbfgbfgkkhoiaaGreatDoor

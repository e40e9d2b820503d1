/- ParseParts: cases. No condition. -/
import Derived.Test.YthbfgbfgkkhoiaaGreatDoorParsePartsA
import Derived.KernelRfl
set_option maxRecDepth 100000
namespace Go.Proofs.YthbfgbfgkkhoiaaGreatDoor
open Go Go.Ax
theorem pp_t_4 (p0 : Int) : ppG p0 true 4 = true := by kernel_rfl
end Go.Proofs.YthbfgbfgkkhoiaaGreatDoor

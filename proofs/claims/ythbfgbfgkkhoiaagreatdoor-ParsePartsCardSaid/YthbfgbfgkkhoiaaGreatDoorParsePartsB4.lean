/- ParseParts: cases. No condition. -/
import Derived.Test.YthbfgbfgkkhoiaaGreatDoorParsePartsA
import Derived.KernelRfl
set_option maxRecDepth 100000
namespace Go.Proofs.YthbfgbfgkkhoiaaGreatDoor
open Go Go.Ax
theorem pp_f_3 (p0 : Int) : ppG p0 false 3 = true := by kernel_rfl
end Go.Proofs.YthbfgbfgkkhoiaaGreatDoor

/- ParseParts: cases. No condition. -/
import Derived.Test.YthbfgbfgkkhoiaaGreatDoorParsePartsA
import Derived.KernelRfl
set_option maxRecDepth 100000
namespace Go.Proofs.YthbfgbfgkkhoiaaGreatDoor
open Go Go.Ax
theorem pp_f_4 (p0 : Int) : ppG p0 false 4 = true := by kernel_rfl
end Go.Proofs.YthbfgbfgkkhoiaaGreatDoor

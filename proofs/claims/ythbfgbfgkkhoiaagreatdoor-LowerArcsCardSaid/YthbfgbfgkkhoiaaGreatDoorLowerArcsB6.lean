/- LowerArcs: cases. No condition. -/
import Derived.Test.YthbfgbfgkkhoiaaGreatDoorLowerArcsA
import Derived.KernelRfl
set_option maxRecDepth 100000
namespace Go.Proofs.YthbfgbfgkkhoiaaGreatDoor
open Go Go.Ax
theorem la_t_0_5 (p0 : Int) (p1 : Int) : laG p0 p1 true 0 5 = true := by kernel_rfl
theorem la_t_0_6 (p0 : Int) (p1 : Int) : laG p0 p1 true 0 6 = true := by kernel_rfl
theorem la_t_0_7 (p0 : Int) (p1 : Int) : laG p0 p1 true 0 7 = true := by kernel_rfl
theorem la_t_0_8 (p0 : Int) (p1 : Int) : laG p0 p1 true 0 8 = true := by kernel_rfl
theorem la_t_3_0 (p0 : Int) (p1 : Int) : laG p0 p1 true 3 0 = true := by kernel_rfl
theorem la_t_3_4 (p0 : Int) (p1 : Int) : laG p0 p1 true 3 4 = true := by kernel_rfl
theorem la_t_3_5 (p0 : Int) (p1 : Int) : laG p0 p1 true 3 5 = true := by kernel_rfl
theorem la_t_3_6 (p0 : Int) (p1 : Int) : laG p0 p1 true 3 6 = true := by kernel_rfl
theorem la_t_3_7 (p0 : Int) (p1 : Int) : laG p0 p1 true 3 7 = true := by kernel_rfl
theorem la_t_3_8 (p0 : Int) (p1 : Int) : laG p0 p1 true 3 8 = true := by kernel_rfl
theorem la_t_4_0 (p0 : Int) (p1 : Int) : laG p0 p1 true 4 0 = true := by kernel_rfl
theorem la_t_4_4 (p0 : Int) (p1 : Int) : laG p0 p1 true 4 4 = true := by kernel_rfl
theorem la_t_4_5 (p0 : Int) (p1 : Int) : laG p0 p1 true 4 5 = true := by kernel_rfl
theorem la_t_4_6 (p0 : Int) (p1 : Int) : laG p0 p1 true 4 6 = true := by kernel_rfl
theorem la_t_4_7 (p0 : Int) (p1 : Int) : laG p0 p1 true 4 7 = true := by kernel_rfl
theorem la_t_4_8 (p0 : Int) (p1 : Int) : laG p0 p1 true 4 8 = true := by kernel_rfl
end Go.Proofs.YthbfgbfgkkhoiaaGreatDoor

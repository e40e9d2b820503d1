/- LowerArcs: cases. No condition. -/
import Derived.Test.YthbfgbfgkkhoiaaGreatDoorLowerArcsA
import Derived.KernelRfl
set_option maxRecDepth 100000
namespace Go.Proofs.YthbfgbfgkkhoiaaGreatDoor
open Go Go.Ax
theorem la_t_1_4 (p0 : Int) (p1 : Int) : laG p0 p1 true 1 4 = true := by kernel_rfl
theorem la_t_1_5 (p0 : Int) (p1 : Int) : laG p0 p1 true 1 5 = true := by kernel_rfl
theorem la_t_1_6 (p0 : Int) (p1 : Int) : laG p0 p1 true 1 6 = true := by kernel_rfl
theorem la_t_1_7 (p0 : Int) (p1 : Int) : laG p0 p1 true 1 7 = true := by kernel_rfl
theorem la_t_1_8 (p0 : Int) (p1 : Int) : laG p0 p1 true 1 8 = true := by kernel_rfl
theorem la_t_2_0 (p0 : Int) (p1 : Int) : laG p0 p1 true 2 0 = true := by kernel_rfl
theorem la_t_2_4 (p0 : Int) (p1 : Int) : laG p0 p1 true 2 4 = true := by kernel_rfl
theorem la_t_2_5 (p0 : Int) (p1 : Int) : laG p0 p1 true 2 5 = true := by kernel_rfl
theorem la_t_2_6 (p0 : Int) (p1 : Int) : laG p0 p1 true 2 6 = true := by kernel_rfl
theorem la_t_2_7 (p0 : Int) (p1 : Int) : laG p0 p1 true 2 7 = true := by kernel_rfl
theorem la_t_2_8 (p0 : Int) (p1 : Int) : laG p0 p1 true 2 8 = true := by kernel_rfl
theorem la_t_3_1 (p0 : Int) (p1 : Int) : laG p0 p1 true 3 1 = true := by kernel_rfl
theorem la_t_3_2 (p0 : Int) (p1 : Int) : laG p0 p1 true 3 2 = true := by kernel_rfl
theorem la_t_3_3 (p0 : Int) (p1 : Int) : laG p0 p1 true 3 3 = true := by kernel_rfl
theorem la_t_4_1 (p0 : Int) (p1 : Int) : laG p0 p1 true 4 1 = true := by kernel_rfl
theorem la_t_4_2 (p0 : Int) (p1 : Int) : laG p0 p1 true 4 2 = true := by kernel_rfl
end Go.Proofs.YthbfgbfgkkhoiaaGreatDoor

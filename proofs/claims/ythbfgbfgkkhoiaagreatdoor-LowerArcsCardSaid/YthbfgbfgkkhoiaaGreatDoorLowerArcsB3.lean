/- LowerArcs: cases. No condition. -/
import Derived.Test.YthbfgbfgkkhoiaaGreatDoorLowerArcsA
import Derived.KernelRfl
set_option maxRecDepth 100000
namespace Go.Proofs.YthbfgbfgkkhoiaaGreatDoor
open Go Go.Ax
theorem la_t_4_3 (p0 : Int) (p1 : Int) : laG p0 p1 true 4 3 = true := by kernel_rfl
theorem la_t_5_1 (p0 : Int) (p1 : Int) : laG p0 p1 true 5 1 = true := by kernel_rfl
theorem la_t_5_2 (p0 : Int) (p1 : Int) : laG p0 p1 true 5 2 = true := by kernel_rfl
theorem la_t_5_3 (p0 : Int) (p1 : Int) : laG p0 p1 true 5 3 = true := by kernel_rfl
theorem la_t_6_1 (p0 : Int) (p1 : Int) : laG p0 p1 true 6 1 = true := by kernel_rfl
theorem la_t_6_2 (p0 : Int) (p1 : Int) : laG p0 p1 true 6 2 = true := by kernel_rfl
theorem la_t_6_3 (p0 : Int) (p1 : Int) : laG p0 p1 true 6 3 = true := by kernel_rfl
theorem la_t_7_1 (p0 : Int) (p1 : Int) : laG p0 p1 true 7 1 = true := by kernel_rfl
theorem la_t_7_2 (p0 : Int) (p1 : Int) : laG p0 p1 true 7 2 = true := by kernel_rfl
theorem la_t_7_3 (p0 : Int) (p1 : Int) : laG p0 p1 true 7 3 = true := by kernel_rfl
theorem la_t_8_1 (p0 : Int) (p1 : Int) : laG p0 p1 true 8 1 = true := by kernel_rfl
theorem la_t_8_2 (p0 : Int) (p1 : Int) : laG p0 p1 true 8 2 = true := by kernel_rfl
theorem la_t_8_3 (p0 : Int) (p1 : Int) : laG p0 p1 true 8 3 = true := by kernel_rfl
theorem la_f_0_1 (p0 : Int) (p1 : Int) : laG p0 p1 false 0 1 = true := by kernel_rfl
theorem la_f_0_2 (p0 : Int) (p1 : Int) : laG p0 p1 false 0 2 = true := by kernel_rfl
theorem la_f_0_3 (p0 : Int) (p1 : Int) : laG p0 p1 false 0 3 = true := by kernel_rfl
end Go.Proofs.YthbfgbfgkkhoiaaGreatDoor

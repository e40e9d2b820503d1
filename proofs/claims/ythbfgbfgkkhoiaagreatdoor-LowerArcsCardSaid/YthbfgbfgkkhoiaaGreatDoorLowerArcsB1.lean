/- LowerArcs: cases. No condition. -/
import Derived.Test.YthbfgbfgkkhoiaaGreatDoorLowerArcsA
import Derived.KernelRfl
set_option maxRecDepth 100000
namespace Go.Proofs.YthbfgbfgkkhoiaaGreatDoor
open Go Go.Ax
theorem la_t_1_1 (p0 : Int) (p1 : Int) : laG p0 p1 true 1 1 = true := by kernel_rfl
theorem la_t_1_2 (p0 : Int) (p1 : Int) : laG p0 p1 true 1 2 = true := by kernel_rfl
theorem la_t_1_3 (p0 : Int) (p1 : Int) : laG p0 p1 true 1 3 = true := by kernel_rfl
theorem la_t_2_1 (p0 : Int) (p1 : Int) : laG p0 p1 true 2 1 = true := by kernel_rfl
theorem la_t_2_2 (p0 : Int) (p1 : Int) : laG p0 p1 true 2 2 = true := by kernel_rfl
theorem la_t_2_3 (p0 : Int) (p1 : Int) : laG p0 p1 true 2 3 = true := by kernel_rfl
theorem la_f_1_1 (p0 : Int) (p1 : Int) : laG p0 p1 false 1 1 = true := by kernel_rfl
theorem la_f_1_2 (p0 : Int) (p1 : Int) : laG p0 p1 false 1 2 = true := by kernel_rfl
theorem la_f_1_3 (p0 : Int) (p1 : Int) : laG p0 p1 false 1 3 = true := by kernel_rfl
theorem la_f_2_1 (p0 : Int) (p1 : Int) : laG p0 p1 false 2 1 = true := by kernel_rfl
theorem la_f_2_2 (p0 : Int) (p1 : Int) : laG p0 p1 false 2 2 = true := by kernel_rfl
theorem la_f_2_3 (p0 : Int) (p1 : Int) : laG p0 p1 false 2 3 = true := by kernel_rfl
theorem la_t_0_1 (p0 : Int) (p1 : Int) : laG p0 p1 true 0 1 = true := by kernel_rfl
theorem la_t_0_2 (p0 : Int) (p1 : Int) : laG p0 p1 true 0 2 = true := by kernel_rfl
theorem la_t_0_3 (p0 : Int) (p1 : Int) : laG p0 p1 true 0 3 = true := by kernel_rfl
theorem la_t_1_0 (p0 : Int) (p1 : Int) : laG p0 p1 true 1 0 = true := by kernel_rfl
end Go.Proofs.YthbfgbfgkkhoiaaGreatDoor

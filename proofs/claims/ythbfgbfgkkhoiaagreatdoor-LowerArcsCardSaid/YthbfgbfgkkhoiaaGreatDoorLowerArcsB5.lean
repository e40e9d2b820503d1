/- LowerArcs: cases. No condition. -/
import Derived.Test.YthbfgbfgkkhoiaaGreatDoorLowerArcsA
import Derived.KernelRfl
set_option maxRecDepth 100000
namespace Go.Proofs.YthbfgbfgkkhoiaaGreatDoor
open Go Go.Ax
theorem la_f_4_2 (p0 : Int) (p1 : Int) : laG p0 p1 false 4 2 = true := by kernel_rfl
theorem la_f_4_3 (p0 : Int) (p1 : Int) : laG p0 p1 false 4 3 = true := by kernel_rfl
theorem la_f_5_1 (p0 : Int) (p1 : Int) : laG p0 p1 false 5 1 = true := by kernel_rfl
theorem la_f_5_2 (p0 : Int) (p1 : Int) : laG p0 p1 false 5 2 = true := by kernel_rfl
theorem la_f_5_3 (p0 : Int) (p1 : Int) : laG p0 p1 false 5 3 = true := by kernel_rfl
theorem la_f_6_1 (p0 : Int) (p1 : Int) : laG p0 p1 false 6 1 = true := by kernel_rfl
theorem la_f_6_2 (p0 : Int) (p1 : Int) : laG p0 p1 false 6 2 = true := by kernel_rfl
theorem la_f_6_3 (p0 : Int) (p1 : Int) : laG p0 p1 false 6 3 = true := by kernel_rfl
theorem la_f_7_1 (p0 : Int) (p1 : Int) : laG p0 p1 false 7 1 = true := by kernel_rfl
theorem la_f_7_2 (p0 : Int) (p1 : Int) : laG p0 p1 false 7 2 = true := by kernel_rfl
theorem la_f_7_3 (p0 : Int) (p1 : Int) : laG p0 p1 false 7 3 = true := by kernel_rfl
theorem la_f_8_1 (p0 : Int) (p1 : Int) : laG p0 p1 false 8 1 = true := by kernel_rfl
theorem la_f_8_2 (p0 : Int) (p1 : Int) : laG p0 p1 false 8 2 = true := by kernel_rfl
theorem la_f_8_3 (p0 : Int) (p1 : Int) : laG p0 p1 false 8 3 = true := by kernel_rfl
theorem la_t_0_0 (p0 : Int) (p1 : Int) : laG p0 p1 true 0 0 = true := by kernel_rfl
theorem la_t_0_4 (p0 : Int) (p1 : Int) : laG p0 p1 true 0 4 = true := by kernel_rfl
end Go.Proofs.YthbfgbfgkkhoiaaGreatDoor

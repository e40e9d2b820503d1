/- LowerArcs: cases. No condition. -/
import Derived.Test.YthbfgbfgkkhoiaaGreatDoorLowerArcsA
import Derived.KernelRfl
set_option maxRecDepth 100000
namespace Go.Proofs.YthbfgbfgkkhoiaaGreatDoor
open Go Go.Ax
theorem la_t_7_7 (p0 : Int) (p1 : Int) : laG p0 p1 true 7 7 = true := by kernel_rfl
theorem la_t_7_8 (p0 : Int) (p1 : Int) : laG p0 p1 true 7 8 = true := by kernel_rfl
theorem la_t_8_0 (p0 : Int) (p1 : Int) : laG p0 p1 true 8 0 = true := by kernel_rfl
theorem la_t_8_4 (p0 : Int) (p1 : Int) : laG p0 p1 true 8 4 = true := by kernel_rfl
theorem la_t_8_5 (p0 : Int) (p1 : Int) : laG p0 p1 true 8 5 = true := by kernel_rfl
theorem la_t_8_6 (p0 : Int) (p1 : Int) : laG p0 p1 true 8 6 = true := by kernel_rfl
theorem la_t_8_7 (p0 : Int) (p1 : Int) : laG p0 p1 true 8 7 = true := by kernel_rfl
theorem la_t_8_8 (p0 : Int) (p1 : Int) : laG p0 p1 true 8 8 = true := by kernel_rfl
theorem la_f_0_0 (p0 : Int) (p1 : Int) : laG p0 p1 false 0 0 = true := by kernel_rfl
theorem la_f_0_4 (p0 : Int) (p1 : Int) : laG p0 p1 false 0 4 = true := by kernel_rfl
theorem la_f_0_5 (p0 : Int) (p1 : Int) : laG p0 p1 false 0 5 = true := by kernel_rfl
theorem la_f_0_6 (p0 : Int) (p1 : Int) : laG p0 p1 false 0 6 = true := by kernel_rfl
theorem la_f_0_7 (p0 : Int) (p1 : Int) : laG p0 p1 false 0 7 = true := by kernel_rfl
theorem la_f_0_8 (p0 : Int) (p1 : Int) : laG p0 p1 false 0 8 = true := by kernel_rfl
theorem la_f_3_0 (p0 : Int) (p1 : Int) : laG p0 p1 false 3 0 = true := by kernel_rfl
theorem la_f_3_4 (p0 : Int) (p1 : Int) : laG p0 p1 false 3 4 = true := by kernel_rfl
end Go.Proofs.YthbfgbfgkkhoiaaGreatDoor

/- LowerArcs: cases. No condition. -/
import Derived.Test.YthbfgbfgkkhoiaaGreatDoorLowerArcsA
import Derived.KernelRfl
set_option maxRecDepth 100000
namespace Go.Proofs.YthbfgbfgkkhoiaaGreatDoor
open Go Go.Ax
theorem la_t_5_0 (p0 : Int) (p1 : Int) : laG p0 p1 true 5 0 = true := by kernel_rfl
theorem la_t_5_4 (p0 : Int) (p1 : Int) : laG p0 p1 true 5 4 = true := by kernel_rfl
theorem la_t_5_5 (p0 : Int) (p1 : Int) : laG p0 p1 true 5 5 = true := by kernel_rfl
theorem la_t_5_6 (p0 : Int) (p1 : Int) : laG p0 p1 true 5 6 = true := by kernel_rfl
theorem la_t_5_7 (p0 : Int) (p1 : Int) : laG p0 p1 true 5 7 = true := by kernel_rfl
theorem la_t_5_8 (p0 : Int) (p1 : Int) : laG p0 p1 true 5 8 = true := by kernel_rfl
theorem la_t_6_0 (p0 : Int) (p1 : Int) : laG p0 p1 true 6 0 = true := by kernel_rfl
theorem la_t_6_4 (p0 : Int) (p1 : Int) : laG p0 p1 true 6 4 = true := by kernel_rfl
theorem la_t_6_5 (p0 : Int) (p1 : Int) : laG p0 p1 true 6 5 = true := by kernel_rfl
theorem la_t_6_6 (p0 : Int) (p1 : Int) : laG p0 p1 true 6 6 = true := by kernel_rfl
theorem la_t_6_7 (p0 : Int) (p1 : Int) : laG p0 p1 true 6 7 = true := by kernel_rfl
theorem la_t_6_8 (p0 : Int) (p1 : Int) : laG p0 p1 true 6 8 = true := by kernel_rfl
theorem la_t_7_0 (p0 : Int) (p1 : Int) : laG p0 p1 true 7 0 = true := by kernel_rfl
theorem la_t_7_4 (p0 : Int) (p1 : Int) : laG p0 p1 true 7 4 = true := by kernel_rfl
theorem la_t_7_5 (p0 : Int) (p1 : Int) : laG p0 p1 true 7 5 = true := by kernel_rfl
theorem la_t_7_6 (p0 : Int) (p1 : Int) : laG p0 p1 true 7 6 = true := by kernel_rfl
end Go.Proofs.YthbfgbfgkkhoiaaGreatDoor

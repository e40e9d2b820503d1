/- LowerArcs: cases. No condition. -/
import Derived.Test.YthbfgbfgkkhoiaaGreatDoorLowerArcsA
import Derived.KernelRfl
set_option maxRecDepth 100000
namespace Go.Proofs.YthbfgbfgkkhoiaaGreatDoor
open Go Go.Ax
theorem la_f_6_0 (p0 : Int) (p1 : Int) : laG p0 p1 false 6 0 = true := by kernel_rfl
theorem la_f_6_4 (p0 : Int) (p1 : Int) : laG p0 p1 false 6 4 = true := by kernel_rfl
theorem la_f_6_5 (p0 : Int) (p1 : Int) : laG p0 p1 false 6 5 = true := by kernel_rfl
theorem la_f_6_6 (p0 : Int) (p1 : Int) : laG p0 p1 false 6 6 = true := by kernel_rfl
theorem la_f_6_7 (p0 : Int) (p1 : Int) : laG p0 p1 false 6 7 = true := by kernel_rfl
theorem la_f_6_8 (p0 : Int) (p1 : Int) : laG p0 p1 false 6 8 = true := by kernel_rfl
theorem la_f_7_0 (p0 : Int) (p1 : Int) : laG p0 p1 false 7 0 = true := by kernel_rfl
theorem la_f_7_4 (p0 : Int) (p1 : Int) : laG p0 p1 false 7 4 = true := by kernel_rfl
theorem la_f_7_5 (p0 : Int) (p1 : Int) : laG p0 p1 false 7 5 = true := by kernel_rfl
theorem la_f_7_6 (p0 : Int) (p1 : Int) : laG p0 p1 false 7 6 = true := by kernel_rfl
theorem la_f_7_7 (p0 : Int) (p1 : Int) : laG p0 p1 false 7 7 = true := by kernel_rfl
theorem la_f_7_8 (p0 : Int) (p1 : Int) : laG p0 p1 false 7 8 = true := by kernel_rfl
theorem la_f_8_0 (p0 : Int) (p1 : Int) : laG p0 p1 false 8 0 = true := by kernel_rfl
theorem la_f_8_4 (p0 : Int) (p1 : Int) : laG p0 p1 false 8 4 = true := by kernel_rfl
theorem la_f_8_5 (p0 : Int) (p1 : Int) : laG p0 p1 false 8 5 = true := by kernel_rfl
theorem la_f_8_6 (p0 : Int) (p1 : Int) : laG p0 p1 false 8 6 = true := by kernel_rfl
end Go.Proofs.YthbfgbfgkkhoiaaGreatDoor

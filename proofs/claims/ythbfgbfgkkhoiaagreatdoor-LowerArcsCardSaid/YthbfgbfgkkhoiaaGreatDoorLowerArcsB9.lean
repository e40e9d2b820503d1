/- LowerArcs: cases. No condition. -/
import Derived.Test.YthbfgbfgkkhoiaaGreatDoorLowerArcsA
import Derived.KernelRfl
set_option maxRecDepth 100000
namespace Go.Proofs.YthbfgbfgkkhoiaaGreatDoor
open Go Go.Ax
theorem la_f_3_5 (p0 : Int) (p1 : Int) : laG p0 p1 false 3 5 = true := by kernel_rfl
theorem la_f_3_6 (p0 : Int) (p1 : Int) : laG p0 p1 false 3 6 = true := by kernel_rfl
theorem la_f_3_7 (p0 : Int) (p1 : Int) : laG p0 p1 false 3 7 = true := by kernel_rfl
theorem la_f_3_8 (p0 : Int) (p1 : Int) : laG p0 p1 false 3 8 = true := by kernel_rfl
theorem la_f_4_0 (p0 : Int) (p1 : Int) : laG p0 p1 false 4 0 = true := by kernel_rfl
theorem la_f_4_4 (p0 : Int) (p1 : Int) : laG p0 p1 false 4 4 = true := by kernel_rfl
theorem la_f_4_5 (p0 : Int) (p1 : Int) : laG p0 p1 false 4 5 = true := by kernel_rfl
theorem la_f_4_6 (p0 : Int) (p1 : Int) : laG p0 p1 false 4 6 = true := by kernel_rfl
theorem la_f_4_7 (p0 : Int) (p1 : Int) : laG p0 p1 false 4 7 = true := by kernel_rfl
theorem la_f_4_8 (p0 : Int) (p1 : Int) : laG p0 p1 false 4 8 = true := by kernel_rfl
theorem la_f_5_0 (p0 : Int) (p1 : Int) : laG p0 p1 false 5 0 = true := by kernel_rfl
theorem la_f_5_4 (p0 : Int) (p1 : Int) : laG p0 p1 false 5 4 = true := by kernel_rfl
theorem la_f_5_5 (p0 : Int) (p1 : Int) : laG p0 p1 false 5 5 = true := by kernel_rfl
theorem la_f_5_6 (p0 : Int) (p1 : Int) : laG p0 p1 false 5 6 = true := by kernel_rfl
theorem la_f_5_7 (p0 : Int) (p1 : Int) : laG p0 p1 false 5 7 = true := by kernel_rfl
theorem la_f_5_8 (p0 : Int) (p1 : Int) : laG p0 p1 false 5 8 = true := by kernel_rfl
end Go.Proofs.YthbfgbfgkkhoiaaGreatDoor

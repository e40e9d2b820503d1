/- WordErrors: cases. No condition. -/
import Derived.Test.YthbfgbfgkkhoiaaDoorWordErrorsA
import Derived.KernelRfl
set_option maxRecDepth 100000
namespace Go.Proofs.YthbfgbfgkkhoiaaDoor
open Go Go.Ax
theorem we_0_0 (w a : Int) : weG w a 0 0 = true := by kernel_rfl
theorem we_0_1 (w a : Int) : weG w a 0 1 = true := by kernel_rfl
theorem we_0_2 (w a : Int) : weG w a 0 2 = true := by kernel_rfl
theorem we_0_3 (w a : Int) : weG w a 0 3 = true := by kernel_rfl
theorem we_0_4 (w a : Int) : weG w a 0 4 = true := by kernel_rfl
theorem we_1_0 (w a : Int) : weG w a 1 0 = true := by kernel_rfl
theorem we_1_1 (w a : Int) : weG w a 1 1 = true := by kernel_rfl
theorem we_1_2 (w a : Int) : weG w a 1 2 = true := by kernel_rfl
theorem we_1_3 (w a : Int) : weG w a 1 3 = true := by kernel_rfl
theorem we_1_4 (w a : Int) : weG w a 1 4 = true := by kernel_rfl
theorem we_2_0 (w a : Int) : weG w a 2 0 = true := by kernel_rfl
theorem we_2_1 (w a : Int) : weG w a 2 1 = true := by kernel_rfl
theorem we_2_2 (w a : Int) : weG w a 2 2 = true := by kernel_rfl
theorem we_2_3 (w a : Int) : weG w a 2 3 = true := by kernel_rfl
theorem we_2_4 (w a : Int) : weG w a 2 4 = true := by kernel_rfl
theorem we_3_0 (w a : Int) : weG w a 3 0 = true := by kernel_rfl
theorem we_3_1 (w a : Int) : weG w a 3 1 = true := by kernel_rfl
theorem we_3_2 (w a : Int) : weG w a 3 2 = true := by kernel_rfl
theorem we_3_3 (w a : Int) : weG w a 3 3 = true := by kernel_rfl
theorem we_3_4 (w a : Int) : weG w a 3 4 = true := by kernel_rfl
theorem we_4_0 (w a : Int) : weG w a 4 0 = true := by kernel_rfl
theorem we_4_1 (w a : Int) : weG w a 4 1 = true := by kernel_rfl
theorem we_4_2 (w a : Int) : weG w a 4 2 = true := by kernel_rfl
theorem we_4_3 (w a : Int) : weG w a 4 3 = true := by kernel_rfl
theorem we_4_4 (w a : Int) : weG w a 4 4 = true := by kernel_rfl
theorem we_5_0 (w a : Int) : weG w a 5 0 = true := by kernel_rfl
theorem we_5_1 (w a : Int) : weG w a 5 1 = true := by kernel_rfl
theorem we_5_2 (w a : Int) : weG w a 5 2 = true := by kernel_rfl
theorem we_5_3 (w a : Int) : weG w a 5 3 = true := by kernel_rfl
theorem we_5_4 (w a : Int) : weG w a 5 4 = true := by kernel_rfl
theorem we_6_0 (w a : Int) : weG w a 6 0 = true := by kernel_rfl
theorem we_6_1 (w a : Int) : weG w a 6 1 = true := by kernel_rfl
theorem we_6_2 (w a : Int) : weG w a 6 2 = true := by kernel_rfl
theorem we_6_3 (w a : Int) : weG w a 6 3 = true := by kernel_rfl
theorem we_6_4 (w a : Int) : weG w a 6 4 = true := by kernel_rfl
end Go.Proofs.YthbfgbfgkkhoiaaDoor

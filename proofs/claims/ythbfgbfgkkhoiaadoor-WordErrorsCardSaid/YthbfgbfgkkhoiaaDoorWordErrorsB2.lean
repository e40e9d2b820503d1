/- WordErrors: cases. No condition. -/
import Derived.Test.YthbfgbfgkkhoiaaDoorWordErrorsA
import Derived.KernelRfl
set_option maxRecDepth 100000
namespace Go.Proofs.YthbfgbfgkkhoiaaDoor
open Go Go.Ax
theorem we_7_0 (w a : Int) : weG w a 7 0 = true := by kernel_rfl
theorem we_7_1 (w a : Int) : weG w a 7 1 = true := by kernel_rfl
theorem we_7_2 (w a : Int) : weG w a 7 2 = true := by kernel_rfl
theorem we_7_3 (w a : Int) : weG w a 7 3 = true := by kernel_rfl
theorem we_7_4 (w a : Int) : weG w a 7 4 = true := by kernel_rfl
theorem we_8_0 (w a : Int) : weG w a 8 0 = true := by kernel_rfl
theorem we_8_1 (w a : Int) : weG w a 8 1 = true := by kernel_rfl
theorem we_8_2 (w a : Int) : weG w a 8 2 = true := by kernel_rfl
theorem we_8_3 (w a : Int) : weG w a 8 3 = true := by kernel_rfl
theorem we_8_4 (w a : Int) : weG w a 8 4 = true := by kernel_rfl
theorem we_9_0 (w a : Int) : weG w a 9 0 = true := by kernel_rfl
theorem we_9_1 (w a : Int) : weG w a 9 1 = true := by kernel_rfl
theorem we_9_2 (w a : Int) : weG w a 9 2 = true := by kernel_rfl
theorem we_9_3 (w a : Int) : weG w a 9 3 = true := by kernel_rfl
theorem we_9_4 (w a : Int) : weG w a 9 4 = true := by kernel_rfl
theorem we_10_0 (w a : Int) : weG w a 10 0 = true := by kernel_rfl
theorem we_10_1 (w a : Int) : weG w a 10 1 = true := by kernel_rfl
theorem we_10_2 (w a : Int) : weG w a 10 2 = true := by kernel_rfl
theorem we_10_3 (w a : Int) : weG w a 10 3 = true := by kernel_rfl
theorem we_10_4 (w a : Int) : weG w a 10 4 = true := by kernel_rfl
theorem we_11_0 (w a : Int) : weG w a 11 0 = true := by kernel_rfl
theorem we_11_1 (w a : Int) : weG w a 11 1 = true := by kernel_rfl
theorem we_11_2 (w a : Int) : weG w a 11 2 = true := by kernel_rfl
theorem we_11_3 (w a : Int) : weG w a 11 3 = true := by kernel_rfl
theorem we_11_4 (w a : Int) : weG w a 11 4 = true := by kernel_rfl
theorem we_12_0 (w a : Int) : weG w a 12 0 = true := by kernel_rfl
theorem we_12_1 (w a : Int) : weG w a 12 1 = true := by kernel_rfl
theorem we_12_2 (w a : Int) : weG w a 12 2 = true := by kernel_rfl
theorem we_12_3 (w a : Int) : weG w a 12 3 = true := by kernel_rfl
theorem we_12_4 (w a : Int) : weG w a 12 4 = true := by kernel_rfl
theorem we_13_0 (w a : Int) : weG w a 13 0 = true := by kernel_rfl
theorem we_13_1 (w a : Int) : weG w a 13 1 = true := by kernel_rfl
theorem we_13_2 (w a : Int) : weG w a 13 2 = true := by kernel_rfl
theorem we_13_3 (w a : Int) : weG w a 13 3 = true := by kernel_rfl
theorem we_13_4 (w a : Int) : weG w a 13 4 = true := by kernel_rfl
end Go.Proofs.YthbfgbfgkkhoiaaDoor

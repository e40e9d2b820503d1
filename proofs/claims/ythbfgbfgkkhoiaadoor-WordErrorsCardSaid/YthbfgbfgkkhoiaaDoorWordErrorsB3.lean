/- WordErrors: cases. No condition. -/
import Derived.Test.YthbfgbfgkkhoiaaDoorWordErrorsA
import Derived.KernelRfl
set_option maxRecDepth 100000
namespace Go.Proofs.YthbfgbfgkkhoiaaDoor
open Go Go.Ax
theorem we_14_0 (w a : Int) : weG w a 14 0 = true := by kernel_rfl
theorem we_14_1 (w a : Int) : weG w a 14 1 = true := by kernel_rfl
theorem we_14_2 (w a : Int) : weG w a 14 2 = true := by kernel_rfl
theorem we_14_3 (w a : Int) : weG w a 14 3 = true := by kernel_rfl
theorem we_14_4 (w a : Int) : weG w a 14 4 = true := by kernel_rfl
theorem we_15_0 (w a : Int) : weG w a 15 0 = true := by kernel_rfl
theorem we_15_1 (w a : Int) : weG w a 15 1 = true := by kernel_rfl
theorem we_15_2 (w a : Int) : weG w a 15 2 = true := by kernel_rfl
theorem we_15_3 (w a : Int) : weG w a 15 3 = true := by kernel_rfl
theorem we_15_4 (w a : Int) : weG w a 15 4 = true := by kernel_rfl
theorem we_16_0 (w a : Int) : weG w a 16 0 = true := by kernel_rfl
theorem we_16_1 (w a : Int) : weG w a 16 1 = true := by kernel_rfl
theorem we_16_2 (w a : Int) : weG w a 16 2 = true := by kernel_rfl
theorem we_16_3 (w a : Int) : weG w a 16 3 = true := by kernel_rfl
theorem we_16_4 (w a : Int) : weG w a 16 4 = true := by kernel_rfl
theorem we_17_0 (w a : Int) : weG w a 17 0 = true := by kernel_rfl
theorem we_17_1 (w a : Int) : weG w a 17 1 = true := by kernel_rfl
theorem we_17_2 (w a : Int) : weG w a 17 2 = true := by kernel_rfl
theorem we_17_3 (w a : Int) : weG w a 17 3 = true := by kernel_rfl
theorem we_17_4 (w a : Int) : weG w a 17 4 = true := by kernel_rfl
theorem we_18_0 (w a : Int) : weG w a 18 0 = true := by kernel_rfl
theorem we_18_1 (w a : Int) : weG w a 18 1 = true := by kernel_rfl
theorem we_18_2 (w a : Int) : weG w a 18 2 = true := by kernel_rfl
theorem we_18_3 (w a : Int) : weG w a 18 3 = true := by kernel_rfl
theorem we_18_4 (w a : Int) : weG w a 18 4 = true := by kernel_rfl
theorem we_19_0 (w a : Int) : weG w a 19 0 = true := by kernel_rfl
theorem we_19_1 (w a : Int) : weG w a 19 1 = true := by kernel_rfl
theorem we_19_2 (w a : Int) : weG w a 19 2 = true := by kernel_rfl
theorem we_19_3 (w a : Int) : weG w a 19 3 = true := by kernel_rfl
theorem we_19_4 (w a : Int) : weG w a 19 4 = true := by kernel_rfl
theorem we_20_0 (w a : Int) : weG w a 20 0 = true := by kernel_rfl
theorem we_20_1 (w a : Int) : weG w a 20 1 = true := by kernel_rfl
theorem we_20_2 (w a : Int) : weG w a 20 2 = true := by kernel_rfl
theorem we_20_3 (w a : Int) : weG w a 20 3 = true := by kernel_rfl
theorem we_20_4 (w a : Int) : weG w a 20 4 = true := by kernel_rfl
end Go.Proofs.YthbfgbfgkkhoiaaDoor

/- What calls on plain values come to. No condition. -/
import Derived.Test.YthbfgbfgkkhoiaaGreatDoorMemo0
import Derived.KernelRfl
set_option maxRecDepth 100000
namespace Go.Proofs.YthbfgbfgkkhoiaaGreatDoor
open Go Go.Ax
theorem m60_0 : okV (cf0 (.xi (.xo (.xi (.xi (.xi .xh))))) [(.str 3 6579570)] H1) (.bool false) = true := by kernel_rfl
theorem m60_2 : okV (cf0 (.xi (.xo (.xi (.xi (.xi .xh))))) [(.str 5 491495649123)] H1) (.bool true) = true := by kernel_rfl
theorem m60_4 : okV (cf0 (.xi (.xo (.xi (.xi (.xi .xh))))) [(.str 1 98)] H1) (.bool false) = true := by kernel_rfl
theorem m60_6 : okV (cf0 (.xi (.xo (.xi (.xi (.xi .xh))))) [(.str 4 1701734764)] H1) (.bool true) = true := by kernel_rfl
theorem m60_8 : okV (cf0 (.xi (.xo (.xi (.xi (.xi .xh))))) [(.str 4 1752457584)] H1) (.bool true) = true := by kernel_rfl
theorem m60_10 : okV (cf0 (.xi (.xo (.xi (.xi (.xi .xh))))) [(.str 5 435677128819)] H1) (.bool true) = true := by kernel_rfl
theorem m60_12 : okV (cf0 (.xi (.xo (.xi (.xi (.xi .xh))))) [(.str 5 435610018675)] H1) (.bool true) = true := by kernel_rfl
theorem m60_14 : okV (cf0 (.xi (.xo (.xi (.xi (.xi .xh))))) [(.str 4 1852994932)] H1) (.bool true) = true := by kernel_rfl
theorem m60_16 : okV (cf0 (.xi (.xo (.xi (.xi (.xi .xh))))) [(.str 5 500152823651)] H1) (.bool true) = true := by kernel_rfl
theorem m60_18 : okV (cf0 (.xi (.xo (.xi (.xi (.xi .xh))))) [(.str 4 1819044198)] H1) (.bool true) = true := by kernel_rfl
theorem m60_20 : okV (cf0 (.xi (.xo (.xi (.xi (.xi .xh))))) [(.str 1 122)] H1) (.bool false) = true := by kernel_rfl
theorem m60_22 : okV (cf0 (.xi (.xo (.xi (.xi (.xi .xh))))) [(.str 1 99)] H1) (.bool false) = true := by kernel_rfl
theorem m60_24 : okV (cf0 (.xi (.xo (.xi (.xi (.xi .xh))))) [(.str 2 24939)] H1) (.bool false) = true := by kernel_rfl
theorem m76_0 : okV (cf0 (.xi (.xo (.xi (.xi (.xo (.xo .xh)))))) [(.str 1 54)] H1) (.tuple [(.int .i64 (.ofNat 6000000)), .nili]) = true := by kernel_rfl
theorem m76_2 : okV (cf0 (.xi (.xo (.xi (.xi (.xo (.xo .xh)))))) [(.str 1 50)] H1) (.tuple [(.int .i64 (.ofNat 2000000)), .nili]) = true := by kernel_rfl
theorem m76_4 : okV (cf0 (.xi (.xo (.xi (.xi (.xo (.xo .xh)))))) [(.str 1 48)] H1) (.tuple [(.int .i64 (.ofNat 0)), .nili]) = true := by kernel_rfl
theorem m76_6 : okV (cf0 (.xi (.xo (.xi (.xi (.xo (.xo .xh)))))) [(.str 1 52)] H1) (.tuple [(.int .i64 (.ofNat 4000000)), .nili]) = true := by kernel_rfl
theorem m76_8 : okV (cf0 (.xi (.xo (.xi (.xi (.xo (.xo .xh)))))) [(.str 1 51)] H1) (.tuple [(.int .i64 (.ofNat 3000000)), .nili]) = true := by kernel_rfl
theorem m76_10 : okV (cf0 (.xi (.xo (.xi (.xi (.xo (.xo .xh)))))) [(.str 1 56)] H1) (.tuple [(.int .i64 (.ofNat 8000000)), .nili]) = true := by kernel_rfl
theorem m47_0 : okV (cf0 (.xo (.xo (.xo (.xo (.xi .xh))))) [(.str 2 12337)] H1) (.tuple [(.int .i64 (.ofNat 10)), (.bool true)]) = true := by kernel_rfl
theorem m47_2 : okV (cf0 (.xo (.xo (.xo (.xo (.xi .xh))))) [(.str 1 51)] H1) (.tuple [(.int .i64 (.ofNat 3)), (.bool true)]) = true := by kernel_rfl
theorem m47_4 : okV (cf0 (.xo (.xo (.xo (.xo (.xi .xh))))) [(.str 1 49)] H1) (.tuple [(.int .i64 (.ofNat 1)), (.bool true)]) = true := by kernel_rfl
theorem m47_6 : okV (cf0 (.xo (.xo (.xo (.xo (.xi .xh))))) [(.str 1 53)] H1) (.tuple [(.int .i64 (.ofNat 5)), (.bool true)]) = true := by kernel_rfl
theorem m47_8 : okV (cf0 (.xo (.xo (.xo (.xo (.xi .xh))))) [(.str 0 0)] H1) (.tuple [(.int .i64 (.ofNat 0)), (.bool false)]) = true := by kernel_rfl
theorem m47_10 : okV (cf0 (.xo (.xo (.xo (.xo (.xi .xh))))) [(.str 3 3485233)] H1) (.tuple [(.int .i64 (.ofNat 0)), (.bool false)]) = true := by kernel_rfl
theorem m47_12 : okV (cf0 (.xo (.xo (.xo (.xo (.xi .xh))))) [(.str 1 52)] H1) (.tuple [(.int .i64 (.ofNat 4)), (.bool true)]) = true := by kernel_rfl
theorem m47_14 : okV (cf0 (.xo (.xo (.xo (.xo (.xi .xh))))) [(.str 1 55)] H1) (.tuple [(.int .i64 (.ofNat 7)), (.bool true)]) = true := by kernel_rfl
theorem m47_16 : okV (cf0 (.xo (.xo (.xo (.xo (.xi .xh))))) [(.str 1 54)] H1) (.tuple [(.int .i64 (.ofNat 6)), (.bool true)]) = true := by kernel_rfl
theorem m108_0 : okV (cf0 (.xi (.xo (.xi (.xi (.xo (.xi .xh)))))) [(.int .i64 (.ofNat 16000000)), (.int .i64 (.ofNat 1000000)), (.int .i64 (.ofNat 1000000))] H1) (.tuple [(.int .i64 (.ofNat 16000000)), (.bool true)]) = true := by kernel_rfl
theorem m108_2 : okV (cf0 (.xi (.xo (.xi (.xi (.xo (.xi .xh)))))) [(.int .i64 (.ofNat 26000000)), (.int .i64 (.ofNat 1000000)), (.int .i64 (.ofNat 1000000))] H1) (.tuple [(.int .i64 (.ofNat 26000000)), (.bool true)]) = true := by kernel_rfl
theorem m108_4 : okV (cf0 (.xi (.xo (.xi (.xi (.xo (.xi .xh)))))) [(.int .i64 (.ofNat 14000000)), (.int .i64 (.ofNat 1000000)), (.int .i64 (.ofNat 1000000))] H1) (.tuple [(.int .i64 (.ofNat 14000000)), (.bool true)]) = true := by kernel_rfl
theorem m108_6 : okV (cf0 (.xi (.xo (.xi (.xi (.xo (.xi .xh)))))) [(.int .i64 (.ofNat 2000000)), (.int .i64 (.ofNat 2000000)), (.int .i64 (.ofNat 1000000))] H1) (.tuple [(.int .i64 (.ofNat 4000000)), (.bool true)]) = true := by kernel_rfl
theorem m108_8 : okV (cf0 (.xi (.xo (.xi (.xi (.xo (.xi .xh)))))) [(.int .i64 (.ofNat 8000000)), (.int .i64 (.ofNat 1000000)), (.int .i64 (.ofNat 1000000))] H1) (.tuple [(.int .i64 (.ofNat 8000000)), (.bool true)]) = true := by kernel_rfl
theorem m108_10 : okV (cf0 (.xi (.xo (.xi (.xi (.xo (.xi .xh)))))) [(.int .i64 (.ofNat 28000000)), (.int .i64 (.ofNat 1000000)), (.int .i64 (.ofNat 1000000))] H1) (.tuple [(.int .i64 (.ofNat 28000000)), (.bool true)]) = true := by kernel_rfl
theorem m108_12 : okV (cf0 (.xi (.xo (.xi (.xi (.xo (.xi .xh)))))) [(.int .i64 (.ofNat 2000000)), (.int .i64 (.ofNat 1000000)), (.int .i64 (.ofNat 1000000))] H1) (.tuple [(.int .i64 (.ofNat 2000000)), (.bool true)]) = true := by kernel_rfl
theorem m108_14 : okV (cf0 (.xi (.xo (.xi (.xi (.xo (.xi .xh)))))) [(.int .i64 (.ofNat 3000000)), (.int .i64 (.ofNat 2000000)), (.int .i64 (.ofNat 1000000))] H1) (.tuple [(.int .i64 (.ofNat 6000000)), (.bool true)]) = true := by kernel_rfl
end Go.Proofs.YthbfgbfgkkhoiaaGreatDoor

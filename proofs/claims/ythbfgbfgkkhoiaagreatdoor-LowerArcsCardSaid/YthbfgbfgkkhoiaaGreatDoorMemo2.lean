/- What calls on plain values come to. No condition. -/
import Derived.Test.YthbfgbfgkkhoiaaGreatDoorMemo0
import Derived.KernelRfl
set_option maxRecDepth 100000
namespace Go.Proofs.YthbfgbfgkkhoiaaGreatDoor
open Go Go.Ax
theorem m60_1 : okV (cf0 (.xi (.xo (.xi (.xi (.xi .xh))))) [(.str 1 100)] H1) (.bool false) = true := by kernel_rfl
theorem m60_3 : okV (cf0 (.xi (.xo (.xi (.xi (.xi .xh))))) [(.str 3 6648693)] H1) (.bool true) = true := by kernel_rfl
theorem m60_5 : okV (cf0 (.xi (.xo (.xi (.xi (.xi .xh))))) [(.str 6 125762639128940)] H1) (.bool true) = true := by kernel_rfl
theorem m60_7 : okV (cf0 (.xi (.xo (.xi (.xi (.xi .xh))))) [(.str 7 28257927427356261)] H1) (.bool true) = true := by kernel_rfl
theorem m60_9 : okV (cf0 (.xi (.xo (.xi (.xi (.xi .xh))))) [(.str 4 1852793705)] H1) (.bool true) = true := by kernel_rfl
theorem m60_11 : okV (cf0 (.xi (.xo (.xi (.xi (.xi .xh))))) [(.str 1 120)] H1) (.bool false) = true := by kernel_rfl
theorem m60_13 : okV (cf0 (.xi (.xo (.xi (.xi (.xi .xh))))) [(.str 1 97)] H1) (.bool false) = true := by kernel_rfl
theorem m60_15 : okV (cf0 (.xi (.xo (.xi (.xi (.xi .xh))))) [(.str 2 29793)] H1) (.bool true) = true := by kernel_rfl
theorem m60_17 : okV (cf0 (.xi (.xo (.xi (.xi (.xi .xh))))) [(.str 1 115)] H1) (.bool false) = true := by kernel_rfl
theorem m60_19 : okV (cf0 (.xi (.xo (.xi (.xi (.xi .xh))))) [(.str 2 31074)] H1) (.bool true) = true := by kernel_rfl
theorem m60_21 : okV (cf0 (.xi (.xo (.xi (.xi (.xi .xh))))) [(.str 1 114)] H1) (.bool false) = true := by kernel_rfl
theorem m60_23 : okV (cf0 (.xi (.xo (.xi (.xi (.xi .xh))))) [(.str 6 119165635813746)] H1) (.bool true) = true := by kernel_rfl
theorem m60_25 : okV (cf0 (.xi (.xo (.xi (.xi (.xi .xh))))) [(.str 7 31369502586204014)] H1) (.bool true) = true := by kernel_rfl
theorem m76_1 : okV (cf0 (.xi (.xo (.xi (.xi (.xo (.xo .xh)))))) [(.str 1 49)] H1) (.tuple [(.int .i64 (.ofNat 1000000)), .nili]) = true := by kernel_rfl
theorem m76_3 : okV (cf0 (.xi (.xo (.xi (.xi (.xo (.xo .xh)))))) [(.str 1 53)] H1) (.tuple [(.int .i64 (.ofNat 5000000)), .nili]) = true := by kernel_rfl
theorem m76_5 : okV (cf0 (.xi (.xo (.xi (.xi (.xo (.xo .xh)))))) [(.str 1 55)] H1) (.tuple [(.int .i64 (.ofNat 7000000)), .nili]) = true := by kernel_rfl
theorem m76_7 : okV (cf0 (.xi (.xo (.xi (.xi (.xo (.xo .xh)))))) [(.str 2 12338)] H1) (.tuple [(.int .i64 (.ofNat 20000000)), .nili]) = true := by kernel_rfl
theorem m76_9 : okV (cf0 (.xi (.xo (.xi (.xi (.xo (.xo .xh)))))) [(.str 2 12337)] H1) (.tuple [(.int .i64 (.ofNat 10000000)), .nili]) = true := by kernel_rfl
theorem m76_11 : okV (cf0 (.xi (.xo (.xi (.xi (.xo (.xo .xh)))))) [(.str 3 3485233)] H1) (.tuple [(.int .i64 (.ofNat 1500000)), .nili]) = true := by kernel_rfl
theorem m47_1 : okV (cf0 (.xo (.xo (.xo (.xo (.xi .xh))))) [(.str 1 50)] H1) (.tuple [(.int .i64 (.ofNat 2)), (.bool true)]) = true := by kernel_rfl
theorem m47_3 : okV (cf0 (.xo (.xo (.xo (.xo (.xi .xh))))) [(.str 6 52983525027888)] H1) (.tuple [(.int .i64 (.ofNat 0)), (.bool true)]) = true := by kernel_rfl
theorem m47_5 : okV (cf0 (.xo (.xo (.xo (.xo (.xi .xh))))) [(.str 1 59)] H1) (.tuple [(.int .i64 (.ofNat 0)), (.bool false)]) = true := by kernel_rfl
theorem m47_7 : okV (cf0 (.xo (.xo (.xo (.xo (.xi .xh))))) [(.str 2 12338)] H1) (.tuple [(.int .i64 (.ofNat 20)), (.bool true)]) = true := by kernel_rfl
theorem m47_9 : okV (cf0 (.xo (.xo (.xo (.xo (.xi .xh))))) [(.str 1 56)] H1) (.tuple [(.int .i64 (.ofNat 8)), (.bool true)]) = true := by kernel_rfl
theorem m47_11 : okV (cf0 (.xo (.xo (.xo (.xo (.xi .xh))))) [(.str 1 57)] H1) (.tuple [(.int .i64 (.ofNat 9)), (.bool true)]) = true := by kernel_rfl
theorem m47_13 : okV (cf0 (.xo (.xo (.xo (.xo (.xi .xh))))) [(.str 2 12589)] H1) (.tuple [(.int .i64 (.ofNat 0)), (.bool false)]) = true := by kernel_rfl
theorem m47_15 : okV (cf0 (.xo (.xo (.xo (.xo (.xi .xh))))) [(.str 1 48)] H1) (.tuple [(.int .i64 (.ofNat 0)), (.bool true)]) = true := by kernel_rfl
theorem m47_17 : okV (cf0 (.xo (.xo (.xo (.xo (.xi .xh))))) [(.str 6 52983525027893)] H1) (.tuple [(.int .i64 (.ofNat 500000)), (.bool true)]) = true := by kernel_rfl
theorem m108_1 : okV (cf0 (.xi (.xo (.xi (.xi (.xo (.xi .xh)))))) [(.int .i64 (.ofNat 12000000)), (.int .i64 (.ofNat 1000000)), (.int .i64 (.ofNat 1000000))] H1) (.tuple [(.int .i64 (.ofNat 12000000)), (.bool true)]) = true := by kernel_rfl
theorem m108_3 : okV (cf0 (.xi (.xo (.xi (.xi (.xo (.xi .xh)))))) [(.int .i64 (.ofNat 24000000)), (.int .i64 (.ofNat 1000000)), (.int .i64 (.ofNat 1000000))] H1) (.tuple [(.int .i64 (.ofNat 24000000)), (.bool true)]) = true := by kernel_rfl
theorem m108_5 : okV (cf0 (.xi (.xo (.xi (.xi (.xo (.xi .xh)))))) [(.int .i64 (.ofNat 18000000)), (.int .i64 (.ofNat 1000000)), (.int .i64 (.ofNat 1000000))] H1) (.tuple [(.int .i64 (.ofNat 18000000)), (.bool true)]) = true := by kernel_rfl
theorem m108_7 : okV (cf0 (.xi (.xo (.xi (.xi (.xo (.xi .xh)))))) [(.int .i64 (.ofNat 6000000)), (.int .i64 (.ofNat 1000000)), (.int .i64 (.ofNat 1000000))] H1) (.tuple [(.int .i64 (.ofNat 6000000)), (.bool true)]) = true := by kernel_rfl
theorem m108_9 : okV (cf0 (.xi (.xo (.xi (.xi (.xo (.xi .xh)))))) [(.int .i64 (.ofNat 22000000)), (.int .i64 (.ofNat 1000000)), (.int .i64 (.ofNat 1000000))] H1) (.tuple [(.int .i64 (.ofNat 22000000)), (.bool true)]) = true := by kernel_rfl
theorem m108_11 : okV (cf0 (.xi (.xo (.xi (.xi (.xo (.xi .xh)))))) [(.int .i64 (.ofNat 4000000)), (.int .i64 (.ofNat 2000000)), (.int .i64 (.ofNat 1000000))] H1) (.tuple [(.int .i64 (.ofNat 8000000)), (.bool true)]) = true := by kernel_rfl
theorem m108_13 : okV (cf0 (.xi (.xo (.xi (.xi (.xo (.xi .xh)))))) [(.int .i64 (.ofNat 1000000)), (.int .i64 (.ofNat 2000000)), (.int .i64 (.ofNat 1000000))] H1) (.tuple [(.int .i64 (.ofNat 2000000)), (.bool true)]) = true := by kernel_rfl
theorem m108_15 : okV (cf0 (.xi (.xo (.xi (.xi (.xo (.xi .xh)))))) [(.int .i64 (.ofNat 4000000)), (.int .i64 (.ofNat 1000000)), (.int .i64 (.ofNat 1000000))] H1) (.tuple [(.int .i64 (.ofNat 4000000)), (.bool true)]) = true := by kernel_rfl
end Go.Proofs.YthbfgbfgkkhoiaaGreatDoor

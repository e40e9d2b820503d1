/- What calls on plain values come to. No condition. -/
import Derived.Test.YthbfgbfgkkhoiaaGreatDoorMemo0
import Derived.KernelRfl
set_option maxRecDepth 100000
namespace Go.Proofs.YthbfgbfgkkhoiaaGreatDoor
open Go Go.Ax
theorem m60_0 : okV (cf0 (.xi (.xo (.xi (.xi (.xi .xh))))) [(.str 5 435610018675)] H1) (.bool true) = true := by kernel_rfl
theorem m60_1 : okV (cf0 (.xi (.xo (.xi (.xi (.xi .xh))))) [(.str 3 6579570)] H1) (.bool false) = true := by kernel_rfl
theorem m60_2 : okV (cf0 (.xi (.xo (.xi (.xi (.xi .xh))))) [(.str 1 122)] H1) (.bool false) = true := by kernel_rfl
theorem m60_3 : okV (cf0 (.xi (.xo (.xi (.xi (.xi .xh))))) [(.str 3 6648693)] H1) (.bool true) = true := by kernel_rfl
theorem m60_4 : okV (cf0 (.xi (.xo (.xi (.xi (.xi .xh))))) [(.str 1 97)] H1) (.bool false) = true := by kernel_rfl
theorem m60_5 : okV (cf0 (.xi (.xo (.xi (.xi (.xi .xh))))) [(.str 4 1701734764)] H1) (.bool true) = true := by kernel_rfl
theorem m60_6 : okV (cf0 (.xi (.xo (.xi (.xi (.xi .xh))))) [(.str 4 1852994932)] H1) (.bool true) = true := by kernel_rfl
theorem m60_7 : okV (cf0 (.xi (.xo (.xi (.xi (.xi .xh))))) [(.str 7 28257927427356261)] H1) (.bool true) = true := by kernel_rfl
theorem m60_8 : okV (cf0 (.xi (.xo (.xi (.xi (.xi .xh))))) [(.str 4 1752457584)] H1) (.bool true) = true := by kernel_rfl
theorem m60_9 : okV (cf0 (.xi (.xo (.xi (.xi (.xi .xh))))) [(.str 2 29793)] H1) (.bool true) = true := by kernel_rfl
theorem m60_10 : okV (cf0 (.xi (.xo (.xi (.xi (.xi .xh))))) [(.str 1 114)] H1) (.bool false) = true := by kernel_rfl
theorem m60_11 : okV (cf0 (.xi (.xo (.xi (.xi (.xi .xh))))) [(.str 1 98)] H1) (.bool false) = true := by kernel_rfl
theorem m60_12 : okV (cf0 (.xi (.xo (.xi (.xi (.xi .xh))))) [(.str 5 500152823651)] H1) (.bool true) = true := by kernel_rfl
theorem m60_13 : okV (cf0 (.xi (.xo (.xi (.xi (.xi .xh))))) [(.str 1 115)] H1) (.bool false) = true := by kernel_rfl
theorem m60_14 : okV (cf0 (.xi (.xo (.xi (.xi (.xi .xh))))) [(.str 1 99)] H1) (.bool false) = true := by kernel_rfl
theorem m60_15 : okV (cf0 (.xi (.xo (.xi (.xi (.xi .xh))))) [(.str 6 119165635813746)] H1) (.bool true) = true := by kernel_rfl
theorem m60_16 : okV (cf0 (.xi (.xo (.xi (.xi (.xi .xh))))) [(.str 4 1819044198)] H1) (.bool true) = true := by kernel_rfl
theorem m60_17 : okV (cf0 (.xi (.xo (.xi (.xi (.xi .xh))))) [(.str 4 1852793705)] H1) (.bool true) = true := by kernel_rfl
theorem m60_18 : okV (cf0 (.xi (.xo (.xi (.xi (.xi .xh))))) [(.str 5 435677128819)] H1) (.bool true) = true := by kernel_rfl
theorem m60_19 : okV (cf0 (.xi (.xo (.xi (.xi (.xi .xh))))) [(.str 2 24939)] H1) (.bool false) = true := by kernel_rfl
theorem m60_20 : okV (cf0 (.xi (.xo (.xi (.xi (.xi .xh))))) [(.str 2 31074)] H1) (.bool true) = true := by kernel_rfl
theorem m60_21 : okV (cf0 (.xi (.xo (.xi (.xi (.xi .xh))))) [(.str 7 31369502586204014)] H1) (.bool true) = true := by kernel_rfl
theorem m60_22 : okV (cf0 (.xi (.xo (.xi (.xi (.xi .xh))))) [(.str 6 125762639128940)] H1) (.bool true) = true := by kernel_rfl
theorem m60_23 : okV (cf0 (.xi (.xo (.xi (.xi (.xi .xh))))) [(.str 5 491495649123)] H1) (.bool true) = true := by kernel_rfl
theorem m60_24 : okV (cf0 (.xi (.xo (.xi (.xi (.xi .xh))))) [(.str 1 120)] H1) (.bool false) = true := by kernel_rfl
theorem m76_0 : okV (cf0 (.xi (.xo (.xi (.xi (.xo (.xo .xh)))))) [(.str 1 50)] H1) (.tuple [(.int .i64 (.ofNat 2000000)), .nili]) = true := by kernel_rfl
theorem m76_1 : okV (cf0 (.xi (.xo (.xi (.xi (.xo (.xo .xh)))))) [(.str 3 3485233)] H1) (.tuple [(.int .i64 (.ofNat 1500000)), .nili]) = true := by kernel_rfl
theorem m76_2 : okV (cf0 (.xi (.xo (.xi (.xi (.xo (.xo .xh)))))) [(.str 1 49)] H1) (.tuple [(.int .i64 (.ofNat 1000000)), .nili]) = true := by kernel_rfl
theorem m76_3 : okV (cf0 (.xi (.xo (.xi (.xi (.xo (.xo .xh)))))) [(.str 1 51)] H1) (.tuple [(.int .i64 (.ofNat 3000000)), .nili]) = true := by kernel_rfl
theorem m76_4 : okV (cf0 (.xi (.xo (.xi (.xi (.xo (.xo .xh)))))) [(.str 1 48)] H1) (.tuple [(.int .i64 (.ofNat 0)), .nili]) = true := by kernel_rfl
theorem m76_5 : okV (cf0 (.xi (.xo (.xi (.xi (.xo (.xo .xh)))))) [(.str 1 52)] H1) (.tuple [(.int .i64 (.ofNat 4000000)), .nili]) = true := by kernel_rfl
theorem m47_0 : okV (cf0 (.xo (.xo (.xo (.xo (.xi .xh))))) [(.str 1 52)] H1) (.tuple [(.int .i64 (.ofNat 4)), (.bool true)]) = true := by kernel_rfl
theorem m47_1 : okV (cf0 (.xo (.xo (.xo (.xo (.xi .xh))))) [(.str 6 52983525027893)] H1) (.tuple [(.int .i64 (.ofNat 500000)), (.bool true)]) = true := by kernel_rfl
theorem m47_2 : okV (cf0 (.xo (.xo (.xo (.xo (.xi .xh))))) [(.str 1 50)] H1) (.tuple [(.int .i64 (.ofNat 2)), (.bool true)]) = true := by kernel_rfl
theorem m47_3 : okV (cf0 (.xo (.xo (.xo (.xo (.xi .xh))))) [(.str 2 12589)] H1) (.tuple [(.int .i64 (.ofNat 0)), (.bool false)]) = true := by kernel_rfl
theorem m47_4 : okV (cf0 (.xo (.xo (.xo (.xo (.xi .xh))))) [(.str 0 0)] H1) (.tuple [(.int .i64 (.ofNat 0)), (.bool false)]) = true := by kernel_rfl
theorem m47_5 : okV (cf0 (.xo (.xo (.xo (.xo (.xi .xh))))) [(.str 1 51)] H1) (.tuple [(.int .i64 (.ofNat 3)), (.bool true)]) = true := by kernel_rfl
theorem m47_6 : okV (cf0 (.xo (.xo (.xo (.xo (.xi .xh))))) [(.str 6 52983525027888)] H1) (.tuple [(.int .i64 (.ofNat 0)), (.bool true)]) = true := by kernel_rfl
theorem m47_7 : okV (cf0 (.xo (.xo (.xo (.xo (.xi .xh))))) [(.str 3 3485233)] H1) (.tuple [(.int .i64 (.ofNat 0)), (.bool false)]) = true := by kernel_rfl
theorem m47_8 : okV (cf0 (.xo (.xo (.xo (.xo (.xi .xh))))) [(.str 1 57)] H1) (.tuple [(.int .i64 (.ofNat 9)), (.bool true)]) = true := by kernel_rfl
theorem m47_9 : okV (cf0 (.xo (.xo (.xo (.xo (.xi .xh))))) [(.str 1 49)] H1) (.tuple [(.int .i64 (.ofNat 1)), (.bool true)]) = true := by kernel_rfl
theorem m47_10 : okV (cf0 (.xo (.xo (.xo (.xo (.xi .xh))))) [(.str 1 48)] H1) (.tuple [(.int .i64 (.ofNat 0)), (.bool true)]) = true := by kernel_rfl
theorem m47_11 : okV (cf0 (.xo (.xo (.xo (.xo (.xi .xh))))) [(.str 1 59)] H1) (.tuple [(.int .i64 (.ofNat 0)), (.bool false)]) = true := by kernel_rfl
end Go.Proofs.YthbfgbfgkkhoiaaGreatDoor

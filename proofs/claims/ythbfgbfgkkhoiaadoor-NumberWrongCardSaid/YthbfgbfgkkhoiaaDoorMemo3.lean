/- What calls on plain values come to. No condition. -/
import Derived.Test.YthbfgbfgkkhoiaaDoorMemo0
import Derived.KernelRfl
set_option maxRecDepth 100000
namespace Go.Proofs.YthbfgbfgkkhoiaaDoor
open Go Go.Ax
theorem m23_2 : okV (cf0 (.xo (.xo (.xo (.xi .xh)))) [(.str 5 491495649123)] H1) (.bool true) = true := by kernel_rfl
theorem m23_5 : okV (cf0 (.xo (.xo (.xo (.xi .xh)))) [(.str 6 119165635813746)] H1) (.bool true) = true := by kernel_rfl
theorem m23_8 : okV (cf0 (.xo (.xo (.xo (.xi .xh)))) [(.str 5 409774350704)] H1) (.bool false) = true := by kernel_rfl
theorem m23_11 : okV (cf0 (.xo (.xo (.xo (.xi .xh)))) [(.str 2 29793)] H1) (.bool true) = true := by kernel_rfl
theorem m23_14 : okV (cf0 (.xo (.xo (.xo (.xi .xh)))) [(.str 2 31074)] H1) (.bool true) = true := by kernel_rfl
theorem m23_17 : okV (cf0 (.xo (.xo (.xo (.xi .xh)))) [(.str 8 8818447602093685361)] H1) (.bool false) = true := by kernel_rfl
theorem m23_20 : okV (cf0 (.xo (.xo (.xo (.xi .xh)))) [(.str 3 6256994)] H1) (.bool false) = true := by kernel_rfl
theorem m23_23 : okV (cf0 (.xo (.xo (.xo (.xi .xh)))) [(.str 9 894262163140152162929)] H1) (.bool false) = true := by kernel_rfl
theorem m23_26 : okV (cf0 (.xo (.xo (.xo (.xi .xh)))) [(.str 4 1819044198)] H1) (.bool true) = true := by kernel_rfl
theorem m23_29 : okV (cf0 (.xo (.xo (.xo (.xi .xh)))) [(.str 7 32488787957539186)] H1) (.bool false) = true := by kernel_rfl
theorem m23_32 : okV (cf0 (.xo (.xo (.xo (.xi .xh)))) [(.str 6 126879514323059)] H1) (.bool false) = true := by kernel_rfl
theorem m23_35 : okV (cf0 (.xo (.xo (.xo (.xi .xh)))) [(.str 7 31369502586204014)] H1) (.bool true) = true := by kernel_rfl
theorem m23_38 : okV (cf0 (.xo (.xo (.xo (.xi .xh)))) [(.str 4 1852793705)] H1) (.bool true) = true := by kernel_rfl
theorem m23_41 : okV (cf0 (.xo (.xo (.xo (.xi .xh)))) [(.str 4 1701734764)] H1) (.bool true) = true := by kernel_rfl
theorem m23_44 : okV (cf0 (.xo (.xo (.xo (.xi .xh)))) [(.str 7 26865885426641260)] H1) (.bool false) = true := by kernel_rfl
theorem m23_47 : okV (cf0 (.xo (.xo (.xo (.xi .xh)))) [(.str 4 1600484213)] H1) (.bool false) = true := by kernel_rfl
theorem m23_50 : okV (cf0 (.xo (.xo (.xo (.xi .xh)))) [(.str 16 76017708181283299942017933233280285297)] H1) (.bool false) = true := by kernel_rfl
theorem m23_53 : okV (cf0 (.xo (.xo (.xo (.xi .xh)))) [(.str 6 126935332843363)] H1) (.bool false) = true := by kernel_rfl
theorem m23_56 : okV (cf0 (.xo (.xo (.xo (.xi .xh)))) [(.str 2 12641)] H1) (.bool false) = true := by kernel_rfl
theorem m23_59 : okV (cf0 (.xo (.xo (.xo (.xi .xh)))) [(.str 8 8317992816947916654)] H1) (.bool false) = true := by kernel_rfl
theorem m23_62 : okV (cf0 (.xo (.xo (.xo (.xi .xh)))) [(.str 6 104889214657395)] H1) (.bool false) = true := by kernel_rfl
theorem m23_65 : okV (cf0 (.xo (.xo (.xo (.xi .xh)))) [(.str 6 125762639128940)] H1) (.bool true) = true := by kernel_rfl
theorem m23_68 : okV (cf0 (.xo (.xo (.xo (.xi .xh)))) [(.str 4 1936028533)] H1) (.bool false) = true := by kernel_rfl
theorem m23_71 : okV (cf0 (.xo (.xo (.xo (.xi .xh)))) [(.str 2 31345)] H1) (.bool false) = true := by kernel_rfl
theorem m23_74 : okV (cf0 (.xo (.xo (.xo (.xi .xh)))) [(.str 20 698669399742203156418001035483652927866969029233)] H1) (.bool false) = true := by kernel_rfl
end Go.Proofs.YthbfgbfgkkhoiaaDoor

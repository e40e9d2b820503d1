/- What calls on plain values come to. No condition. -/
import Derived.Test.YthbfgbfgkkhoiaaDoorMemo0
import Derived.KernelRfl
set_option maxRecDepth 100000
namespace Go.Proofs.YthbfgbfgkkhoiaaDoor
open Go Go.Ax
theorem m23_1 : okV (cf0 (.xo (.xo (.xo (.xi .xh)))) [(.str 8 8314881241789068901)] H1) (.bool false) = true := by kernel_rfl
theorem m23_4 : okV (cf0 (.xo (.xo (.xo (.xi .xh)))) [(.str 8 6876840936189357934)] H1) (.bool false) = true := by kernel_rfl
theorem m23_7 : okV (cf0 (.xo (.xo (.xo (.xi .xh)))) [(.str 5 409723627884)] H1) (.bool false) = true := by kernel_rfl
theorem m23_10 : okV (cf0 (.xo (.xo (.xo (.xi .xh)))) [(.str 5 409874888052)] H1) (.bool false) = true := by kernel_rfl
theorem m23_13 : okV (cf0 (.xo (.xo (.xo (.xi .xh)))) [(.str 6 104889281767539)] H1) (.bool false) = true := by kernel_rfl
theorem m23_16 : okV (cf0 (.xo (.xo (.xo (.xi .xh)))) [(.str 3 6255713)] H1) (.bool false) = true := by kernel_rfl
theorem m23_19 : okV (cf0 (.xo (.xo (.xo (.xi .xh)))) [(.str 3 3177073)] H1) (.bool false) = true := by kernel_rfl
theorem m23_22 : okV (cf0 (.xo (.xo (.xo (.xi .xh)))) [(.str 7 28257927427356261)] H1) (.bool true) = true := by kernel_rfl
theorem m23_25 : okV (cf0 (.xo (.xo (.xo (.xi .xh)))) [(.str 17 32402842565670437328962605639251260373617)] H1) (.bool false) = true := by kernel_rfl
theorem m23_28 : okV (cf0 (.xo (.xo (.xo (.xi .xh)))) [(.str 6 104953757462371)] H1) (.bool false) = true := by kernel_rfl
theorem m23_31 : okV (cf0 (.xo (.xo (.xo (.xi .xh)))) [(.str 3 3235681)] H1) (.bool false) = true := by kernel_rfl
theorem m23_34 : okV (cf0 (.xo (.xo (.xo (.xi .xh)))) [(.str 5 495774233972)] H1) (.bool false) = true := by kernel_rfl
theorem m23_37 : okV (cf0 (.xo (.xo (.xo (.xi .xh)))) [(.str 19 2172525701694734461557482392299301312188676721)] H1) (.bool false) = true := by kernel_rfl
theorem m23_40 : okV (cf0 (.xo (.xo (.xo (.xi .xh)))) [(.str 6 104945100287843)] H1) (.bool false) = true := by kernel_rfl
theorem m23_43 : okV (cf0 (.xo (.xo (.xo (.xi .xh)))) [(.str 5 435677128819)] H1) (.bool true) = true := by kernel_rfl
theorem m23_46 : okV (cf0 (.xo (.xo (.xo (.xi .xh)))) [(.str 5 435610018675)] H1) (.bool true) = true := by kernel_rfl
theorem m23_49 : okV (cf0 (.xo (.xo (.xo (.xi .xh)))) [(.str 5 409874686825)] H1) (.bool false) = true := by kernel_rfl
theorem m23_52 : okV (cf0 (.xo (.xo (.xo (.xi .xh)))) [(.str 4 1752457584)] H1) (.bool true) = true := by kernel_rfl
theorem m23_55 : okV (cf0 (.xo (.xo (.xo (.xi .xh)))) [(.str 22 21397082639924160925658363952001867060690719398197873)] H1) (.bool false) = true := by kernel_rfl
theorem m23_58 : okV (cf0 (.xo (.xo (.xo (.xi .xh)))) [(.str 3 7567714)] H1) (.bool false) = true := by kernel_rfl
theorem m23_61 : okV (cf0 (.xo (.xo (.xo (.xi .xh)))) [(.str 5 409840937318)] H1) (.bool false) = true := by kernel_rfl
theorem m23_64 : okV (cf0 (.xo (.xo (.xo (.xi .xh)))) [(.str 23 9120589356531139257428343837656962644796954257363335793)] H1) (.bool false) = true := by kernel_rfl
theorem m23_67 : okV (cf0 (.xo (.xo (.xo (.xi .xh)))) [(.str 5 495740283238)] H1) (.bool false) = true := by kernel_rfl
theorem m23_70 : okV (cf0 (.xo (.xo (.xo (.xi .xh)))) [(.str 1 120)] H1) (.bool false) = true := by kernel_rfl
theorem m23_73 : okV (cf0 (.xo (.xo (.xo (.xi .xh)))) [(.str 5 500152823651)] H1) (.bool true) = true := by kernel_rfl
theorem m23_76 : okV (cf0 (.xo (.xo (.xo (.xi .xh)))) [(.str 3 6648693)] H1) (.bool true) = true := by kernel_rfl
end Go.Proofs.YthbfgbfgkkhoiaaDoor

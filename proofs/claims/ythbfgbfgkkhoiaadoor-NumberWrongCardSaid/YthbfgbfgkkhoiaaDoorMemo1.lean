/- What calls on plain values come to. No condition. -/
import Derived.Test.YthbfgbfgkkhoiaaDoorMemo0
import Derived.KernelRfl
set_option maxRecDepth 100000
namespace Go.Proofs.YthbfgbfgkkhoiaaDoor
open Go Go.Ax
theorem m23_0 : okV (cf0 (.xo (.xo (.xo (.xi .xh)))) [(.str 5 408981371505)] H1) (.bool false) = true := by kernel_rfl
theorem m23_3 : okV (cf0 (.xo (.xo (.xo (.xi .xh)))) [(.str 0 0)] H1) (.bool false) = true := by kernel_rfl
theorem m23_6 : okV (cf0 (.xo (.xo (.xo (.xi .xh)))) [(.str 14 2482172333423460331466973498079857)] H1) (.bool false) = true := by kernel_rfl
theorem m23_9 : okV (cf0 (.xo (.xo (.xo (.xi .xh)))) [(.str 6 118056725543537)] H1) (.bool false) = true := by kernel_rfl
theorem m23_12 : okV (cf0 (.xo (.xo (.xo (.xi .xh)))) [(.str 5 495673696624)] H1) (.bool false) = true := by kernel_rfl
theorem m23_15 : okV (cf0 (.xo (.xo (.xo (.xi .xh)))) [(.str 15 251712421543095186500930797300644465)] H1) (.bool false) = true := by kernel_rfl
theorem m23_18 : okV (cf0 (.xo (.xo (.xo (.xi .xh)))) [(.str 6 126879447212915)] H1) (.bool false) = true := by kernel_rfl
theorem m23_21 : okV (cf0 (.xo (.xo (.xo (.xi .xh)))) [(.str 5 495622973804)] H1) (.bool false) = true := by kernel_rfl
theorem m23_24 : okV (cf0 (.xo (.xo (.xo (.xi .xh)))) [(.str 18 9353417437264016828517719852410246108576369)] H1) (.bool false) = true := by kernel_rfl
theorem m23_27 : okV (cf0 (.xo (.xo (.xo (.xi .xh)))) [(.str 4 959478385)] H1) (.bool false) = true := by kernel_rfl
theorem m23_30 : okV (cf0 (.xo (.xo (.xo (.xi .xh)))) [(.str 1 113)] H1) (.bool false) = true := by kernel_rfl
theorem m23_33 : okV (cf0 (.xo (.xo (.xo (.xi .xh)))) [(.str 11 115118022015076481526430321)] H1) (.bool false) = true := by kernel_rfl
theorem m23_36 : okV (cf0 (.xo (.xo (.xo (.xi .xh)))) [(.str 7 27421129466477169)] H1) (.bool false) = true := by kernel_rfl
theorem m23_39 : okV (cf0 (.xo (.xo (.xo (.xi .xh)))) [(.str 24 2632752955318932864766918454318986285000078331435690261105)] H1) (.bool false) = true := by kernel_rfl
theorem m23_42 : okV (cf0 (.xo (.xo (.xo (.xi .xh)))) [(.str 7 32495384960854380)] H1) (.bool false) = true := by kernel_rfl
theorem m23_45 : okV (cf0 (.xo (.xo (.xo (.xi .xh)))) [(.str 7 26859288423326066)] H1) (.bool false) = true := by kernel_rfl
theorem m23_48 : okV (cf0 (.xo (.xo (.xo (.xi .xh)))) [(.str 13 7718361777956539745408841185905)] H1) (.bool false) = true := by kernel_rfl
theorem m23_51 : okV (cf0 (.xo (.xo (.xo (.xi .xh)))) [(.str 3 7566433)] H1) (.bool false) = true := by kernel_rfl
theorem m23_54 : okV (cf0 (.xo (.xo (.xo (.xi .xh)))) [(.str 5 495774032745)] H1) (.bool false) = true := by kernel_rfl
theorem m23_57 : okV (cf0 (.xo (.xo (.xo (.xi .xh)))) [(.str 10 270069151686709929343601)] H1) (.bool false) = true := by kernel_rfl
theorem m23_60 : okV (cf0 (.xo (.xo (.xo (.xi .xh)))) [(.str 12 33230014072898998835078003313)] H1) (.bool false) = true := by kernel_rfl
theorem m23_63 : okV (cf0 (.xo (.xo (.xo (.xi .xh)))) [(.str 8 6873729361030510181)] H1) (.bool false) = true := by kernel_rfl
theorem m23_66 : okV (cf0 (.xo (.xo (.xo (.xi .xh)))) [(.str 21 70850747991625543230194873005865237871351731092081)] H1) (.bool false) = true := by kernel_rfl
theorem m23_69 : okV (cf0 (.xo (.xo (.xo (.xi .xh)))) [(.str 6 126943990017891)] H1) (.bool false) = true := by kernel_rfl
theorem m23_72 : okV (cf0 (.xo (.xo (.xo (.xi .xh)))) [(.str 4 1852994932)] H1) (.bool true) = true := by kernel_rfl
theorem m23_75 : okV (cf0 (.xo (.xo (.xo (.xi .xh)))) [(.str 1 97)] H1) (.bool false) = true := by kernel_rfl
end Go.Proofs.YthbfgbfgkkhoiaaDoor

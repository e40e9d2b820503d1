/- The closures are what the program's own code is compiled to. No condition. -/
import Derived.Test.YthbfgbfgkkhoiaaGreatDoorLit2
import Derived.KernelRfl
set_option maxRecDepth 100000
namespace Go.Proofs.YthbfgbfgkkhoiaaGreatDoor
open Go Go.Ax
theorem ok7 : CodeOk ctx (.xo (.xo (.xo .xh))) fc7 rc7 := ⟨Tryz.f7, _, (by kernel_rfl : Tryz.prog.funcs[7]? = some Tryz.f7), rfl, by kernel_rfl, by kernel_rfl, by decide +kernel⟩
theorem ok12 : CodeOk ctx (.xi (.xo (.xi .xh))) fc12 rc12 := ⟨Tryz.f12, _, (by kernel_rfl : Tryz.prog.funcs[12]? = some Tryz.f12), rfl, by kernel_rfl, by kernel_rfl, by decide +kernel⟩
theorem ok19 : CodeOk ctx (.xo (.xo (.xi (.xo .xh)))) fc19 rc19 := ⟨Tryz.f19, _, (by kernel_rfl : Tryz.prog.funcs[19]? = some Tryz.f19), rfl, by kernel_rfl, by kernel_rfl, by decide +kernel⟩
theorem ok25 : CodeOk ctx (.xo (.xi (.xo (.xi .xh)))) fc25 rc25 := ⟨Tryz.f25, _, (by kernel_rfl : Tryz.prog.funcs[25]? = some Tryz.f25), rfl, by kernel_rfl, by kernel_rfl, by decide +kernel⟩
theorem ok31 : CodeOk ctx (.xo (.xo (.xo (.xo (.xo .xh))))) fc31 rc31 := ⟨Tryz.f31, _, (by kernel_rfl : Tryz.prog.funcs[31]? = some Tryz.f31), rfl, by kernel_rfl, by kernel_rfl, by decide +kernel⟩
theorem ok37 : CodeOk ctx (.xo (.xi (.xi (.xo (.xo .xh))))) fc37 rc37 := ⟨Tryz.f37, _, (by kernel_rfl : Tryz.prog.funcs[37]? = some Tryz.f37), rfl, by kernel_rfl, by kernel_rfl, by decide +kernel⟩
theorem ok44 : CodeOk ctx (.xi (.xo (.xi (.xi (.xo .xh))))) fc44 rc44 := ⟨Tryz.f44, _, (by kernel_rfl : Tryz.prog.funcs[44]? = some Tryz.f44), rfl, by kernel_rfl, by kernel_rfl, by decide +kernel⟩
theorem ok50 : CodeOk ctx (.xi (.xi (.xo (.xo (.xi .xh))))) fc50 rc50 := ⟨Tryz.f50, _, (by kernel_rfl : Tryz.prog.funcs[50]? = some Tryz.f50), rfl, by kernel_rfl, by kernel_rfl, by decide +kernel⟩
theorem ok56 : CodeOk ctx (.xi (.xo (.xo (.xi (.xi .xh))))) fc56 rc56 := ⟨Tryz.f56, _, (by kernel_rfl : Tryz.prog.funcs[56]? = some Tryz.f56), rfl, by kernel_rfl, by kernel_rfl, by decide +kernel⟩
theorem ok63 : CodeOk ctx (.xo (.xo (.xo (.xo (.xo (.xo .xh)))))) fc63 rc63 := ⟨Tryz.f63, _, (by kernel_rfl : Tryz.prog.funcs[63]? = some Tryz.f63), rfl, by kernel_rfl, by kernel_rfl, by decide +kernel⟩
theorem ok69 : CodeOk ctx (.xo (.xi (.xi (.xo (.xo (.xo .xh)))))) fc69 rc69 := ⟨Tryz.f69, _, (by kernel_rfl : Tryz.prog.funcs[69]? = some Tryz.f69), rfl, by kernel_rfl, by kernel_rfl, by decide +kernel⟩
theorem ok75 : CodeOk ctx (.xo (.xo (.xi (.xi (.xo (.xo .xh)))))) fc75 rc75 := ⟨Tryz.f75, _, (by kernel_rfl : Tryz.prog.funcs[75]? = some Tryz.f75), rfl, by kernel_rfl, by kernel_rfl, by decide +kernel⟩
theorem ok81 : CodeOk ctx (.xo (.xi (.xo (.xo (.xi (.xo .xh)))))) fc81 rc81 := ⟨Tryz.f81, _, (by kernel_rfl : Tryz.prog.funcs[81]? = some Tryz.f81), rfl, by kernel_rfl, by kernel_rfl, by decide +kernel⟩
theorem ok87 : CodeOk ctx (.xo (.xo (.xo (.xi (.xi (.xo .xh)))))) fc87 rc87 := ⟨Tryz.f87, _, (by kernel_rfl : Tryz.prog.funcs[87]? = some Tryz.f87), rfl, by kernel_rfl, by kernel_rfl, by decide +kernel⟩
theorem ok94 : CodeOk ctx (.xi (.xi (.xi (.xi (.xi (.xo .xh)))))) fc94 rc94 := ⟨Tryz.f94, _, (by kernel_rfl : Tryz.prog.funcs[94]? = some Tryz.f94), rfl, by kernel_rfl, by kernel_rfl, by decide +kernel⟩
theorem ok101 : CodeOk ctx (.xo (.xi (.xi (.xo (.xo (.xi .xh)))))) fc101 rc101 := ⟨Tryz.f101, _, (by kernel_rfl : Tryz.prog.funcs[101]? = some Tryz.f101), rfl, by kernel_rfl, by kernel_rfl, by decide +kernel⟩
theorem ok118 : CodeOk ctx (.xi (.xi (.xi (.xo (.xi (.xi .xh)))))) fc118 rc118 := ⟨Tryz.f118, _, (by kernel_rfl : Tryz.prog.funcs[118]? = some Tryz.f118), rfl, by kernel_rfl, by kernel_rfl, by decide +kernel⟩
theorem ok132 : CodeOk ctx (.xi (.xo (.xi (.xo (.xo (.xo (.xo .xh))))))) fc132 rc132 := ⟨Tryz.f132, _, (by kernel_rfl : Tryz.prog.funcs[132]? = some Tryz.f132), rfl, by kernel_rfl, by kernel_rfl, by decide +kernel⟩
end Go.Proofs.YthbfgbfgkkhoiaaGreatDoor

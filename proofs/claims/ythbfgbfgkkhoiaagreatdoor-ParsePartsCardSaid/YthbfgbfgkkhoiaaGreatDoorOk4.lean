/- The closures are what the program's own code is compiled to. No condition. -/
import Derived.Test.YthbfgbfgkkhoiaaGreatDoorLit3
import Derived.KernelRfl
set_option maxRecDepth 100000
namespace Go.Proofs.YthbfgbfgkkhoiaaGreatDoor
open Go Go.Ax
theorem ok7 : CodeOk ctx (.xo (.xo (.xo .xh))) fc7 rc7 := ⟨Tryz.f7, _, (by kernel_rfl : Tryz.prog.funcs[7]? = some Tryz.f7), rfl, by kernel_rfl, by kernel_rfl, by decide +kernel⟩
theorem ok14 : CodeOk ctx (.xi (.xi (.xi .xh))) fc14 rc14 := ⟨Tryz.f14, _, (by kernel_rfl : Tryz.prog.funcs[14]? = some Tryz.f14), rfl, by kernel_rfl, by kernel_rfl, by decide +kernel⟩
theorem ok19 : CodeOk ctx (.xo (.xo (.xi (.xo .xh)))) fc19 rc19 := ⟨Tryz.f19, _, (by kernel_rfl : Tryz.prog.funcs[19]? = some Tryz.f19), rfl, by kernel_rfl, by kernel_rfl, by decide +kernel⟩
theorem ok26 : CodeOk ctx (.xi (.xi (.xo (.xi .xh)))) fc26 rc26 := ⟨Tryz.f26, _, (by kernel_rfl : Tryz.prog.funcs[26]? = some Tryz.f26), rfl, by kernel_rfl, by kernel_rfl, by decide +kernel⟩
theorem ok31 : CodeOk ctx (.xo (.xo (.xo (.xo (.xo .xh))))) fc31 rc31 := ⟨Tryz.f31, _, (by kernel_rfl : Tryz.prog.funcs[31]? = some Tryz.f31), rfl, by kernel_rfl, by kernel_rfl, by decide +kernel⟩
theorem ok36 : CodeOk ctx (.xi (.xo (.xi (.xo (.xo .xh))))) fc36 rc36 := ⟨Tryz.f36, _, (by kernel_rfl : Tryz.prog.funcs[36]? = some Tryz.f36), rfl, by kernel_rfl, by kernel_rfl, by decide +kernel⟩
theorem ok41 : CodeOk ctx (.xo (.xi (.xo (.xi (.xo .xh))))) fc41 rc41 := ⟨Tryz.f41, _, (by kernel_rfl : Tryz.prog.funcs[41]? = some Tryz.f41), rfl, by kernel_rfl, by kernel_rfl, by decide +kernel⟩
theorem ok48 : CodeOk ctx (.xi (.xo (.xo (.xo (.xi .xh))))) fc48 rc48 := ⟨Tryz.f48, _, (by kernel_rfl : Tryz.prog.funcs[48]? = some Tryz.f48), rfl, by kernel_rfl, by kernel_rfl, by decide +kernel⟩
theorem ok53 : CodeOk ctx (.xo (.xi (.xi (.xo (.xi .xh))))) fc53 rc53 := ⟨Tryz.f53, _, (by kernel_rfl : Tryz.prog.funcs[53]? = some Tryz.f53), rfl, by kernel_rfl, by kernel_rfl, by decide +kernel⟩
theorem ok59 : CodeOk ctx (.xo (.xo (.xi (.xi (.xi .xh))))) fc59 rc59 := ⟨Tryz.f59, _, (by kernel_rfl : Tryz.prog.funcs[59]? = some Tryz.f59), rfl, by kernel_rfl, by kernel_rfl, by decide +kernel⟩
theorem ok64 : CodeOk ctx (.xi (.xo (.xo (.xo (.xo (.xo .xh)))))) fc64 rc64 := ⟨Tryz.f64, _, (by kernel_rfl : Tryz.prog.funcs[64]? = some Tryz.f64), rfl, by kernel_rfl, by kernel_rfl, by decide +kernel⟩
theorem ok70 : CodeOk ctx (.xi (.xi (.xi (.xo (.xo (.xo .xh)))))) fc70 rc70 := ⟨Tryz.f70, _, (by kernel_rfl : Tryz.prog.funcs[70]? = some Tryz.f70), rfl, by kernel_rfl, by kernel_rfl, by decide +kernel⟩
theorem ok76 : CodeOk ctx (.xi (.xo (.xi (.xi (.xo (.xo .xh)))))) fc76 rc76 := ⟨Tryz.f76, _, (by kernel_rfl : Tryz.prog.funcs[76]? = some Tryz.f76), rfl, by kernel_rfl, by kernel_rfl, by decide +kernel⟩
theorem ok81 : CodeOk ctx (.xo (.xi (.xo (.xo (.xi (.xo .xh)))))) fc81 rc81 := ⟨Tryz.f81, _, (by kernel_rfl : Tryz.prog.funcs[81]? = some Tryz.f81), rfl, by kernel_rfl, by kernel_rfl, by decide +kernel⟩
theorem ok86 : CodeOk ctx (.xi (.xi (.xi (.xo (.xi (.xo .xh)))))) fc86 rc86 := ⟨Tryz.f86, _, (by kernel_rfl : Tryz.prog.funcs[86]? = some Tryz.f86), rfl, by kernel_rfl, by kernel_rfl, by decide +kernel⟩
theorem ok95 : CodeOk ctx (.xo (.xo (.xo (.xo (.xo (.xi .xh)))))) fc95 rc95 := ⟨Tryz.f95, _, (by kernel_rfl : Tryz.prog.funcs[95]? = some Tryz.f95), rfl, by kernel_rfl, by kernel_rfl, by decide +kernel⟩
theorem ok101 : CodeOk ctx (.xo (.xi (.xi (.xo (.xo (.xi .xh)))))) fc101 rc101 := ⟨Tryz.f101, _, (by kernel_rfl : Tryz.prog.funcs[101]? = some Tryz.f101), rfl, by kernel_rfl, by kernel_rfl, by decide +kernel⟩
theorem ok118 : CodeOk ctx (.xi (.xi (.xi (.xo (.xi (.xi .xh)))))) fc118 rc118 := ⟨Tryz.f118, _, (by kernel_rfl : Tryz.prog.funcs[118]? = some Tryz.f118), rfl, by kernel_rfl, by kernel_rfl, by decide +kernel⟩
end Go.Proofs.YthbfgbfgkkhoiaaGreatDoor

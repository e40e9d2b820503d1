/- The closures are what the program's own code is compiled to. No condition. -/
import Derived.Test.YthbfgbfgkkhoiaaDoorLit1
import Derived.KernelRfl
set_option maxRecDepth 100000
namespace Go.Proofs.YthbfgbfgkkhoiaaDoor
open Go Go.Ax
theorem ok5 : CodeOk ctx (.xo (.xi .xh)) fc5 rc5 := ⟨Tryd.f5, _, (by kernel_rfl : Tryd.prog.funcs[5]? = some Tryd.f5), rfl, by kernel_rfl, by kernel_rfl, by decide +kernel⟩
theorem ok9 : CodeOk ctx (.xo (.xi (.xo .xh))) fc9 rc9 := ⟨Tryd.f9, _, (by kernel_rfl : Tryd.prog.funcs[9]? = some Tryd.f9), rfl, by kernel_rfl, by kernel_rfl, by decide +kernel⟩
theorem ok11 : CodeOk ctx (.xo (.xo (.xi .xh))) fc11 rc11 := ⟨Tryd.f11, _, (by kernel_rfl : Tryd.prog.funcs[11]? = some Tryd.f11), rfl, by kernel_rfl, by kernel_rfl, by decide +kernel⟩
theorem ok14 : CodeOk ctx (.xi (.xi (.xi .xh))) fc14 rc14 := ⟨Tryd.f14, _, (by kernel_rfl : Tryd.prog.funcs[14]? = some Tryd.f14), rfl, by kernel_rfl, by kernel_rfl, by decide +kernel⟩
theorem ok17 : CodeOk ctx (.xo (.xi (.xo (.xo .xh)))) fc17 rc17 := ⟨Tryd.f17, _, (by kernel_rfl : Tryd.prog.funcs[17]? = some Tryd.f17), rfl, by kernel_rfl, by kernel_rfl, by decide +kernel⟩
theorem ok21 : CodeOk ctx (.xo (.xi (.xi (.xo .xh)))) fc21 rc21 := ⟨Tryd.f21, _, (by kernel_rfl : Tryd.prog.funcs[21]? = some Tryd.f21), rfl, by kernel_rfl, by kernel_rfl, by decide +kernel⟩
theorem ok24 : CodeOk ctx (.xi (.xo (.xo (.xi .xh)))) fc24 rc24 := ⟨Tryd.f24, _, (by kernel_rfl : Tryd.prog.funcs[24]? = some Tryd.f24), rfl, by kernel_rfl, by kernel_rfl, by decide +kernel⟩
theorem ok27 : CodeOk ctx (.xo (.xo (.xi (.xi .xh)))) fc27 rc27 := ⟨Tryd.f27, _, (by kernel_rfl : Tryd.prog.funcs[27]? = some Tryd.f27), rfl, by kernel_rfl, by kernel_rfl, by decide +kernel⟩
theorem ok32 : CodeOk ctx (.xi (.xo (.xo (.xo (.xo .xh))))) fc32 rc32 := ⟨Tryd.f32, _, (by kernel_rfl : Tryd.prog.funcs[32]? = some Tryd.f32), rfl, by kernel_rfl, by kernel_rfl, by decide +kernel⟩
theorem ok36 : CodeOk ctx (.xi (.xo (.xi (.xo (.xo .xh))))) fc36 rc36 := ⟨Tryd.f36, _, (by kernel_rfl : Tryd.prog.funcs[36]? = some Tryd.f36), rfl, by kernel_rfl, by kernel_rfl, by decide +kernel⟩
theorem ok39 : CodeOk ctx (.xo (.xo (.xo (.xi (.xo .xh))))) fc39 rc39 := ⟨Tryd.f39, _, (by kernel_rfl : Tryd.prog.funcs[39]? = some Tryd.f39), rfl, by kernel_rfl, by kernel_rfl, by decide +kernel⟩
theorem ok43 : CodeOk ctx (.xo (.xo (.xi (.xi (.xo .xh))))) fc43 rc43 := ⟨Tryd.f43, _, (by kernel_rfl : Tryd.prog.funcs[43]? = some Tryd.f43), rfl, by kernel_rfl, by kernel_rfl, by decide +kernel⟩
theorem ok45 : CodeOk ctx (.xo (.xi (.xi (.xi (.xo .xh))))) fc45 rc45 := ⟨Tryd.f45, _, (by kernel_rfl : Tryd.prog.funcs[45]? = some Tryd.f45), rfl, by kernel_rfl, by kernel_rfl, by decide +kernel⟩
theorem ok55 : CodeOk ctx (.xo (.xo (.xo (.xi (.xi .xh))))) fc55 rc55 := ⟨Tryd.f55, _, (by kernel_rfl : Tryd.prog.funcs[55]? = some Tryd.f55), rfl, by kernel_rfl, by kernel_rfl, by decide +kernel⟩
theorem ok58 : CodeOk ctx (.xi (.xi (.xo (.xi (.xi .xh))))) fc58 rc58 := ⟨Tryd.f58, _, (by kernel_rfl : Tryd.prog.funcs[58]? = some Tryd.f58), rfl, by kernel_rfl, by kernel_rfl, by decide +kernel⟩
theorem ok61 : CodeOk ctx (.xo (.xi (.xi (.xi (.xi .xh))))) fc61 rc61 := ⟨Tryd.f61, _, (by kernel_rfl : Tryd.prog.funcs[61]? = some Tryd.f61), rfl, by kernel_rfl, by kernel_rfl, by decide +kernel⟩
theorem ok69 : CodeOk ctx (.xo (.xi (.xi (.xo (.xo (.xo .xh)))))) fc69 rc69 := ⟨Tryd.f69, _, (by kernel_rfl : Tryd.prog.funcs[69]? = some Tryd.f69), rfl, by kernel_rfl, by kernel_rfl, by decide +kernel⟩
theorem ok83 : CodeOk ctx (.xo (.xo (.xi (.xo (.xi (.xo .xh)))))) fc83 rc83 := ⟨Tryd.f83, _, (by kernel_rfl : Tryd.prog.funcs[83]? = some Tryd.f83), rfl, by kernel_rfl, by kernel_rfl, by decide +kernel⟩
theorem ok101 : CodeOk ctx (.xo (.xi (.xi (.xo (.xo (.xi .xh)))))) fc101 rc101 := ⟨Tryd.f101, _, (by kernel_rfl : Tryd.prog.funcs[101]? = some Tryd.f101), rfl, by kernel_rfl, by kernel_rfl, by decide +kernel⟩
end Go.Proofs.YthbfgbfgkkhoiaaDoor

/- The closures are what the program's own code is compiled to. No condition. -/
import Derived.Test.YthbfgbfgkkhoiaaGreatDoorLit3
import Derived.KernelRfl
set_option maxRecDepth 100000
namespace Go.Proofs.YthbfgbfgkkhoiaaGreatDoor
open Go Go.Ax
theorem ok3 : CodeOk ctx (.xo (.xo .xh)) fc3 rc3 := ⟨Tryz.f3, _, (by kernel_rfl : Tryz.prog.funcs[3]? = some Tryz.f3), rfl, by kernel_rfl, by kernel_rfl, by decide +kernel⟩
theorem ok11 : CodeOk ctx (.xo (.xo (.xi .xh))) fc11 rc11 := ⟨Tryz.f11, _, (by kernel_rfl : Tryz.prog.funcs[11]? = some Tryz.f11), rfl, by kernel_rfl, by kernel_rfl, by decide +kernel⟩
theorem ok16 : CodeOk ctx (.xi (.xo (.xo (.xo .xh)))) fc16 rc16 := ⟨Tryz.f16, _, (by kernel_rfl : Tryz.prog.funcs[16]? = some Tryz.f16), rfl, by kernel_rfl, by kernel_rfl, by decide +kernel⟩
theorem ok21 : CodeOk ctx (.xo (.xi (.xi (.xo .xh)))) fc21 rc21 := ⟨Tryz.f21, _, (by kernel_rfl : Tryz.prog.funcs[21]? = some Tryz.f21), rfl, by kernel_rfl, by kernel_rfl, by decide +kernel⟩
theorem ok29 : CodeOk ctx (.xo (.xi (.xi (.xi .xh)))) fc29 rc29 := ⟨Tryz.f29, _, (by kernel_rfl : Tryz.prog.funcs[29]? = some Tryz.f29), rfl, by kernel_rfl, by kernel_rfl, by decide +kernel⟩
theorem ok33 : CodeOk ctx (.xo (.xi (.xo (.xo (.xo .xh))))) fc33 rc33 := ⟨Tryz.f33, _, (by kernel_rfl : Tryz.prog.funcs[33]? = some Tryz.f33), rfl, by kernel_rfl, by kernel_rfl, by decide +kernel⟩
theorem ok38 : CodeOk ctx (.xi (.xi (.xi (.xo (.xo .xh))))) fc38 rc38 := ⟨Tryz.f38, _, (by kernel_rfl : Tryz.prog.funcs[38]? = some Tryz.f38), rfl, by kernel_rfl, by kernel_rfl, by decide +kernel⟩
theorem ok45 : CodeOk ctx (.xo (.xi (.xi (.xi (.xo .xh))))) fc45 rc45 := ⟨Tryz.f45, _, (by kernel_rfl : Tryz.prog.funcs[45]? = some Tryz.f45), rfl, by kernel_rfl, by kernel_rfl, by decide +kernel⟩
theorem ok50 : CodeOk ctx (.xi (.xi (.xo (.xo (.xi .xh))))) fc50 rc50 := ⟨Tryz.f50, _, (by kernel_rfl : Tryz.prog.funcs[50]? = some Tryz.f50), rfl, by kernel_rfl, by kernel_rfl, by decide +kernel⟩
theorem ok55 : CodeOk ctx (.xo (.xo (.xo (.xi (.xi .xh))))) fc55 rc55 := ⟨Tryz.f55, _, (by kernel_rfl : Tryz.prog.funcs[55]? = some Tryz.f55), rfl, by kernel_rfl, by kernel_rfl, by decide +kernel⟩
theorem ok61 : CodeOk ctx (.xo (.xi (.xi (.xi (.xi .xh))))) fc61 rc61 := ⟨Tryz.f61, _, (by kernel_rfl : Tryz.prog.funcs[61]? = some Tryz.f61), rfl, by kernel_rfl, by kernel_rfl, by decide +kernel⟩
theorem ok66 : CodeOk ctx (.xi (.xi (.xo (.xo (.xo (.xo .xh)))))) fc66 rc66 := ⟨Tryz.f66, _, (by kernel_rfl : Tryz.prog.funcs[66]? = some Tryz.f66), rfl, by kernel_rfl, by kernel_rfl, by decide +kernel⟩
theorem ok73 : CodeOk ctx (.xo (.xi (.xo (.xi (.xo (.xo .xh)))))) fc73 rc73 := ⟨Tryz.f73, _, (by kernel_rfl : Tryz.prog.funcs[73]? = some Tryz.f73), rfl, by kernel_rfl, by kernel_rfl, by decide +kernel⟩
theorem ok78 : CodeOk ctx (.xi (.xi (.xi (.xi (.xo (.xo .xh)))))) fc78 rc78 := ⟨Tryz.f78, _, (by kernel_rfl : Tryz.prog.funcs[78]? = some Tryz.f78), rfl, by kernel_rfl, by kernel_rfl, by decide +kernel⟩
theorem ok83 : CodeOk ctx (.xo (.xo (.xi (.xo (.xi (.xo .xh)))))) fc83 rc83 := ⟨Tryz.f83, _, (by kernel_rfl : Tryz.prog.funcs[83]? = some Tryz.f83), rfl, by kernel_rfl, by kernel_rfl, by decide +kernel⟩
theorem ok88 : CodeOk ctx (.xi (.xo (.xo (.xi (.xi (.xo .xh)))))) fc88 rc88 := ⟨Tryz.f88, _, (by kernel_rfl : Tryz.prog.funcs[88]? = some Tryz.f88), rfl, by kernel_rfl, by kernel_rfl, by decide +kernel⟩
theorem ok98 : CodeOk ctx (.xi (.xi (.xo (.xo (.xo (.xi .xh)))))) fc98 rc98 := ⟨Tryz.f98, _, (by kernel_rfl : Tryz.prog.funcs[98]? = some Tryz.f98), rfl, by kernel_rfl, by kernel_rfl, by decide +kernel⟩
theorem ok106 : CodeOk ctx (.xi (.xi (.xo (.xi (.xo (.xi .xh)))))) fc106 rc106 := ⟨Tryz.f106, _, (by kernel_rfl : Tryz.prog.funcs[106]? = some Tryz.f106), rfl, by kernel_rfl, by kernel_rfl, by decide +kernel⟩
theorem ok125 : CodeOk ctx (.xo (.xi (.xi (.xi (.xi (.xi .xh)))))) fc125 rc125 := ⟨Tryz.f125, _, (by kernel_rfl : Tryz.prog.funcs[125]? = some Tryz.f125), rfl, by kernel_rfl, by kernel_rfl, by decide +kernel⟩
end Go.Proofs.YthbfgbfgkkhoiaaGreatDoor

/- The closures are what the program's own code is compiled to. No condition. -/
import Derived.Test.YthbfgbfgkkhoiaaGreatDoorLit2
import Derived.KernelRfl
set_option maxRecDepth 100000
namespace Go.Proofs.YthbfgbfgkkhoiaaGreatDoor
open Go Go.Ax
theorem ok3 : CodeOk ctx (.xo (.xo .xh)) fc3 rc3 := ⟨Tryz.f3, _, (by kernel_rfl : Tryz.prog.funcs[3]? = some Tryz.f3), rfl, by kernel_rfl, by kernel_rfl, by decide +kernel⟩
theorem ok10 : CodeOk ctx (.xi (.xi (.xo .xh))) fc10 rc10 := ⟨Tryz.f10, _, (by kernel_rfl : Tryz.prog.funcs[10]? = some Tryz.f10), rfl, by kernel_rfl, by kernel_rfl, by decide +kernel⟩
theorem ok16 : CodeOk ctx (.xi (.xo (.xo (.xo .xh)))) fc16 rc16 := ⟨Tryz.f16, _, (by kernel_rfl : Tryz.prog.funcs[16]? = some Tryz.f16), rfl, by kernel_rfl, by kernel_rfl, by decide +kernel⟩
theorem ok22 : CodeOk ctx (.xi (.xi (.xi (.xo .xh)))) fc22 rc22 := ⟨Tryz.f22, _, (by kernel_rfl : Tryz.prog.funcs[22]? = some Tryz.f22), rfl, by kernel_rfl, by kernel_rfl, by decide +kernel⟩
theorem ok29 : CodeOk ctx (.xo (.xi (.xi (.xi .xh)))) fc29 rc29 := ⟨Tryz.f29, _, (by kernel_rfl : Tryz.prog.funcs[29]? = some Tryz.f29), rfl, by kernel_rfl, by kernel_rfl, by decide +kernel⟩
theorem ok34 : CodeOk ctx (.xi (.xi (.xo (.xo (.xo .xh))))) fc34 rc34 := ⟨Tryz.f34, _, (by kernel_rfl : Tryz.prog.funcs[34]? = some Tryz.f34), rfl, by kernel_rfl, by kernel_rfl, by decide +kernel⟩
theorem ok40 : CodeOk ctx (.xi (.xo (.xo (.xi (.xo .xh))))) fc40 rc40 := ⟨Tryz.f40, _, (by kernel_rfl : Tryz.prog.funcs[40]? = some Tryz.f40), rfl, by kernel_rfl, by kernel_rfl, by decide +kernel⟩
theorem ok47 : CodeOk ctx (.xo (.xo (.xo (.xo (.xi .xh))))) fc47 rc47 := ⟨Tryz.f47, _, (by kernel_rfl : Tryz.prog.funcs[47]? = some Tryz.f47), rfl, by kernel_rfl, by kernel_rfl, by decide +kernel⟩
theorem ok53 : CodeOk ctx (.xo (.xi (.xi (.xo (.xi .xh))))) fc53 rc53 := ⟨Tryz.f53, _, (by kernel_rfl : Tryz.prog.funcs[53]? = some Tryz.f53), rfl, by kernel_rfl, by kernel_rfl, by decide +kernel⟩
theorem ok60 : CodeOk ctx (.xi (.xo (.xi (.xi (.xi .xh))))) fc60 rc60 := ⟨Tryz.f60, _, (by kernel_rfl : Tryz.prog.funcs[60]? = some Tryz.f60), rfl, by kernel_rfl, by kernel_rfl, by decide +kernel⟩
theorem ok66 : CodeOk ctx (.xi (.xi (.xo (.xo (.xo (.xo .xh)))))) fc66 rc66 := ⟨Tryz.f66, _, (by kernel_rfl : Tryz.prog.funcs[66]? = some Tryz.f66), rfl, by kernel_rfl, by kernel_rfl, by decide +kernel⟩
theorem ok72 : CodeOk ctx (.xi (.xo (.xo (.xi (.xo (.xo .xh)))))) fc72 rc72 := ⟨Tryz.f72, _, (by kernel_rfl : Tryz.prog.funcs[72]? = some Tryz.f72), rfl, by kernel_rfl, by kernel_rfl, by decide +kernel⟩
theorem ok78 : CodeOk ctx (.xi (.xi (.xi (.xi (.xo (.xo .xh)))))) fc78 rc78 := ⟨Tryz.f78, _, (by kernel_rfl : Tryz.prog.funcs[78]? = some Tryz.f78), rfl, by kernel_rfl, by kernel_rfl, by decide +kernel⟩
theorem ok85 : CodeOk ctx (.xo (.xi (.xi (.xo (.xi (.xo .xh)))))) fc85 rc85 := ⟨Tryz.f85, _, (by kernel_rfl : Tryz.prog.funcs[85]? = some Tryz.f85), rfl, by kernel_rfl, by kernel_rfl, by decide +kernel⟩
theorem ok90 : CodeOk ctx (.xi (.xi (.xo (.xi (.xi (.xo .xh)))))) fc90 rc90 := ⟨Tryz.f90, _, (by kernel_rfl : Tryz.prog.funcs[90]? = some Tryz.f90), rfl, by kernel_rfl, by kernel_rfl, by decide +kernel⟩
theorem ok98 : CodeOk ctx (.xi (.xi (.xo (.xo (.xo (.xi .xh)))))) fc98 rc98 := ⟨Tryz.f98, _, (by kernel_rfl : Tryz.prog.funcs[98]? = some Tryz.f98), rfl, by kernel_rfl, by kernel_rfl, by decide +kernel⟩
theorem ok91 : CodeOk ctx (.xo (.xo (.xi (.xi (.xi (.xo .xh)))))) fc91 rc91 := ⟨Tryz.f91, _, (by kernel_rfl : Tryz.prog.funcs[91]? = some Tryz.f91), rfl, by kernel_rfl, by kernel_rfl, by decide +kernel⟩
theorem ok107 : CodeOk ctx (.xo (.xo (.xi (.xi (.xo (.xi .xh)))))) fc107 rc107 := ⟨Tryz.f107, _, (by kernel_rfl : Tryz.prog.funcs[107]? = some Tryz.f107), rfl, by kernel_rfl, by kernel_rfl, by decide +kernel⟩
end Go.Proofs.YthbfgbfgkkhoiaaGreatDoor

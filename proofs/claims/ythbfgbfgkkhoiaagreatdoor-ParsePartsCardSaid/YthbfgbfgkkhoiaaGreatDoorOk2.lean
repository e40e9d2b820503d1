/- The closures are what the program's own code is compiled to. No condition. -/
import Derived.Test.YthbfgbfgkkhoiaaGreatDoorLit3
import Derived.KernelRfl
set_option maxRecDepth 100000
namespace Go.Proofs.YthbfgbfgkkhoiaaGreatDoor
open Go Go.Ax
theorem ok4 : CodeOk ctx (.xi (.xo .xh)) fc4 rc4 := ⟨Tryz.f4, _, (by kernel_rfl : Tryz.prog.funcs[4]? = some Tryz.f4), rfl, by kernel_rfl, by kernel_rfl, by decide +kernel⟩
theorem ok13 : CodeOk ctx (.xo (.xi (.xi .xh))) fc13 rc13 := ⟨Tryz.f13, _, (by kernel_rfl : Tryz.prog.funcs[13]? = some Tryz.f13), rfl, by kernel_rfl, by kernel_rfl, by decide +kernel⟩
theorem ok17 : CodeOk ctx (.xo (.xi (.xo (.xo .xh)))) fc17 rc17 := ⟨Tryz.f17, _, (by kernel_rfl : Tryz.prog.funcs[17]? = some Tryz.f17), rfl, by kernel_rfl, by kernel_rfl, by decide +kernel⟩
theorem ok24 : CodeOk ctx (.xi (.xo (.xo (.xi .xh)))) fc24 rc24 := ⟨Tryz.f24, _, (by kernel_rfl : Tryz.prog.funcs[24]? = some Tryz.f24), rfl, by kernel_rfl, by kernel_rfl, by decide +kernel⟩
theorem ok28 : CodeOk ctx (.xi (.xo (.xi (.xi .xh)))) fc28 rc28 := ⟨Tryz.f28, _, (by kernel_rfl : Tryz.prog.funcs[28]? = some Tryz.f28), rfl, by kernel_rfl, by kernel_rfl, by decide +kernel⟩
theorem ok34 : CodeOk ctx (.xi (.xi (.xo (.xo (.xo .xh))))) fc34 rc34 := ⟨Tryz.f34, _, (by kernel_rfl : Tryz.prog.funcs[34]? = some Tryz.f34), rfl, by kernel_rfl, by kernel_rfl, by decide +kernel⟩
theorem ok39 : CodeOk ctx (.xo (.xo (.xo (.xi (.xo .xh))))) fc39 rc39 := ⟨Tryz.f39, _, (by kernel_rfl : Tryz.prog.funcs[39]? = some Tryz.f39), rfl, by kernel_rfl, by kernel_rfl, by decide +kernel⟩
theorem ok46 : CodeOk ctx (.xi (.xi (.xi (.xi (.xo .xh))))) fc46 rc46 := ⟨Tryz.f46, _, (by kernel_rfl : Tryz.prog.funcs[46]? = some Tryz.f46), rfl, by kernel_rfl, by kernel_rfl, by decide +kernel⟩
theorem ok51 : CodeOk ctx (.xo (.xo (.xi (.xo (.xi .xh))))) fc51 rc51 := ⟨Tryz.f51, _, (by kernel_rfl : Tryz.prog.funcs[51]? = some Tryz.f51), rfl, by kernel_rfl, by kernel_rfl, by decide +kernel⟩
theorem ok56 : CodeOk ctx (.xi (.xo (.xo (.xi (.xi .xh))))) fc56 rc56 := ⟨Tryz.f56, _, (by kernel_rfl : Tryz.prog.funcs[56]? = some Tryz.f56), rfl, by kernel_rfl, by kernel_rfl, by decide +kernel⟩
theorem ok62 : CodeOk ctx (.xi (.xi (.xi (.xi (.xi .xh))))) fc62 rc62 := ⟨Tryz.f62, _, (by kernel_rfl : Tryz.prog.funcs[62]? = some Tryz.f62), rfl, by kernel_rfl, by kernel_rfl, by decide +kernel⟩
theorem ok67 : CodeOk ctx (.xo (.xo (.xi (.xo (.xo (.xo .xh)))))) fc67 rc67 := ⟨Tryz.f67, _, (by kernel_rfl : Tryz.prog.funcs[67]? = some Tryz.f67), rfl, by kernel_rfl, by kernel_rfl, by decide +kernel⟩
theorem ok74 : CodeOk ctx (.xi (.xi (.xo (.xi (.xo (.xo .xh)))))) fc74 rc74 := ⟨Tryz.f74, _, (by kernel_rfl : Tryz.prog.funcs[74]? = some Tryz.f74), rfl, by kernel_rfl, by kernel_rfl, by decide +kernel⟩
theorem ok79 : CodeOk ctx (.xo (.xo (.xo (.xo (.xi (.xo .xh)))))) fc79 rc79 := ⟨Tryz.f79, _, (by kernel_rfl : Tryz.prog.funcs[79]? = some Tryz.f79), rfl, by kernel_rfl, by kernel_rfl, by decide +kernel⟩
theorem ok85 : CodeOk ctx (.xo (.xi (.xi (.xo (.xi (.xo .xh)))))) fc85 rc85 := ⟨Tryz.f85, _, (by kernel_rfl : Tryz.prog.funcs[85]? = some Tryz.f85), rfl, by kernel_rfl, by kernel_rfl, by decide +kernel⟩
theorem ok89 : CodeOk ctx (.xo (.xi (.xo (.xi (.xi (.xo .xh)))))) fc89 rc89 := ⟨Tryz.f89, _, (by kernel_rfl : Tryz.prog.funcs[89]? = some Tryz.f89), rfl, by kernel_rfl, by kernel_rfl, by decide +kernel⟩
theorem ok99 : CodeOk ctx (.xo (.xo (.xi (.xo (.xo (.xi .xh)))))) fc99 rc99 := ⟨Tryz.f99, _, (by kernel_rfl : Tryz.prog.funcs[99]? = some Tryz.f99), rfl, by kernel_rfl, by kernel_rfl, by decide +kernel⟩
theorem ok116 : CodeOk ctx (.xi (.xo (.xi (.xo (.xi (.xi .xh)))))) fc116 rc116 := ⟨Tryz.f116, _, (by kernel_rfl : Tryz.prog.funcs[116]? = some Tryz.f116), rfl, by kernel_rfl, by kernel_rfl, by decide +kernel⟩
theorem ok132 : CodeOk ctx (.xi (.xo (.xi (.xo (.xo (.xo (.xo .xh))))))) fc132 rc132 := ⟨Tryz.f132, _, (by kernel_rfl : Tryz.prog.funcs[132]? = some Tryz.f132), rfl, by kernel_rfl, by kernel_rfl, by decide +kernel⟩
end Go.Proofs.YthbfgbfgkkhoiaaGreatDoor

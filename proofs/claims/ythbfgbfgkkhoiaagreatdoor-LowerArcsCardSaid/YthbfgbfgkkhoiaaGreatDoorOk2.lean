/- The closures are what the program's own code is compiled to. No condition. -/
import Derived.Test.YthbfgbfgkkhoiaaGreatDoorLit2
import Derived.KernelRfl
set_option maxRecDepth 100000
namespace Go.Proofs.YthbfgbfgkkhoiaaGreatDoor
open Go Go.Ax
theorem ok4 : CodeOk ctx (.xi (.xo .xh)) fc4 rc4 := ⟨Tryz.f4, _, (by kernel_rfl : Tryz.prog.funcs[4]? = some Tryz.f4), rfl, by kernel_rfl, by kernel_rfl, by decide +kernel⟩
theorem ok11 : CodeOk ctx (.xo (.xo (.xi .xh))) fc11 rc11 := ⟨Tryz.f11, _, (by kernel_rfl : Tryz.prog.funcs[11]? = some Tryz.f11), rfl, by kernel_rfl, by kernel_rfl, by decide +kernel⟩
theorem ok17 : CodeOk ctx (.xo (.xi (.xo (.xo .xh)))) fc17 rc17 := ⟨Tryz.f17, _, (by kernel_rfl : Tryz.prog.funcs[17]? = some Tryz.f17), rfl, by kernel_rfl, by kernel_rfl, by decide +kernel⟩
theorem ok23 : CodeOk ctx (.xo (.xo (.xo (.xi .xh)))) fc23 rc23 := ⟨Tryz.f23, _, (by kernel_rfl : Tryz.prog.funcs[23]? = some Tryz.f23), rfl, by kernel_rfl, by kernel_rfl, by decide +kernel⟩
theorem ok28 : CodeOk ctx (.xi (.xo (.xi (.xi .xh)))) fc28 rc28 := ⟨Tryz.f28, _, (by kernel_rfl : Tryz.prog.funcs[28]? = some Tryz.f28), rfl, by kernel_rfl, by kernel_rfl, by decide +kernel⟩
theorem ok35 : CodeOk ctx (.xo (.xo (.xi (.xo (.xo .xh))))) fc35 rc35 := ⟨Tryz.f35, _, (by kernel_rfl : Tryz.prog.funcs[35]? = some Tryz.f35), rfl, by kernel_rfl, by kernel_rfl, by decide +kernel⟩
theorem ok41 : CodeOk ctx (.xo (.xi (.xo (.xi (.xo .xh))))) fc41 rc41 := ⟨Tryz.f41, _, (by kernel_rfl : Tryz.prog.funcs[41]? = some Tryz.f41), rfl, by kernel_rfl, by kernel_rfl, by decide +kernel⟩
theorem ok48 : CodeOk ctx (.xi (.xo (.xo (.xo (.xi .xh))))) fc48 rc48 := ⟨Tryz.f48, _, (by kernel_rfl : Tryz.prog.funcs[48]? = some Tryz.f48), rfl, by kernel_rfl, by kernel_rfl, by decide +kernel⟩
theorem ok54 : CodeOk ctx (.xi (.xi (.xi (.xo (.xi .xh))))) fc54 rc54 := ⟨Tryz.f54, _, (by kernel_rfl : Tryz.prog.funcs[54]? = some Tryz.f54), rfl, by kernel_rfl, by kernel_rfl, by decide +kernel⟩
theorem ok61 : CodeOk ctx (.xo (.xi (.xi (.xi (.xi .xh))))) fc61 rc61 := ⟨Tryz.f61, _, (by kernel_rfl : Tryz.prog.funcs[61]? = some Tryz.f61), rfl, by kernel_rfl, by kernel_rfl, by decide +kernel⟩
theorem ok67 : CodeOk ctx (.xo (.xo (.xi (.xo (.xo (.xo .xh)))))) fc67 rc67 := ⟨Tryz.f67, _, (by kernel_rfl : Tryz.prog.funcs[67]? = some Tryz.f67), rfl, by kernel_rfl, by kernel_rfl, by decide +kernel⟩
theorem ok73 : CodeOk ctx (.xo (.xi (.xo (.xi (.xo (.xo .xh)))))) fc73 rc73 := ⟨Tryz.f73, _, (by kernel_rfl : Tryz.prog.funcs[73]? = some Tryz.f73), rfl, by kernel_rfl, by kernel_rfl, by decide +kernel⟩
theorem ok79 : CodeOk ctx (.xo (.xo (.xo (.xo (.xi (.xo .xh)))))) fc79 rc79 := ⟨Tryz.f79, _, (by kernel_rfl : Tryz.prog.funcs[79]? = some Tryz.f79), rfl, by kernel_rfl, by kernel_rfl, by decide +kernel⟩
theorem ok84 : CodeOk ctx (.xi (.xo (.xi (.xo (.xi (.xo .xh)))))) fc84 rc84 := ⟨Tryz.f84, _, (by kernel_rfl : Tryz.prog.funcs[84]? = some Tryz.f84), rfl, by kernel_rfl, by kernel_rfl, by decide +kernel⟩
theorem ok93 : CodeOk ctx (.xo (.xi (.xi (.xi (.xi (.xo .xh)))))) fc93 rc93 := ⟨Tryz.f93, _, (by kernel_rfl : Tryz.prog.funcs[93]? = some Tryz.f93), rfl, by kernel_rfl, by kernel_rfl, by decide +kernel⟩
theorem ok99 : CodeOk ctx (.xo (.xo (.xi (.xo (.xo (.xi .xh)))))) fc99 rc99 := ⟨Tryz.f99, _, (by kernel_rfl : Tryz.prog.funcs[99]? = some Tryz.f99), rfl, by kernel_rfl, by kernel_rfl, by decide +kernel⟩
theorem ok116 : CodeOk ctx (.xi (.xo (.xi (.xo (.xi (.xi .xh)))))) fc116 rc116 := ⟨Tryz.f116, _, (by kernel_rfl : Tryz.prog.funcs[116]? = some Tryz.f116), rfl, by kernel_rfl, by kernel_rfl, by decide +kernel⟩
theorem ok108 : CodeOk ctx (.xi (.xo (.xi (.xi (.xo (.xi .xh)))))) fc108 rc108 := ⟨Tryz.f108, _, (by kernel_rfl : Tryz.prog.funcs[108]? = some Tryz.f108), rfl, by kernel_rfl, by kernel_rfl, by decide +kernel⟩
end Go.Proofs.YthbfgbfgkkhoiaaGreatDoor

/- The closures are what the program's own code is compiled to. No condition. -/
import Derived.Test.YthbfgbfgkkhoiaaDoorLit1
import Derived.KernelRfl
set_option maxRecDepth 100000
namespace Go.Proofs.YthbfgbfgkkhoiaaDoor
open Go Go.Ax
theorem ok3 : CodeOk ctx (.xo (.xo .xh)) fc3 rc3 := ⟨Tryd.f3, _, (by kernel_rfl : Tryd.prog.funcs[3]? = some Tryd.f3), rfl, by kernel_rfl, by kernel_rfl, by decide +kernel⟩
theorem ok6 : CodeOk ctx (.xi (.xi .xh)) fc6 rc6 := ⟨Tryd.f6, _, (by kernel_rfl : Tryd.prog.funcs[6]? = some Tryd.f6), rfl, by kernel_rfl, by kernel_rfl, by decide +kernel⟩
theorem ok8 : CodeOk ctx (.xi (.xo (.xo .xh))) fc8 rc8 := ⟨Tryd.f8, _, (by kernel_rfl : Tryd.prog.funcs[8]? = some Tryd.f8), rfl, by kernel_rfl, by kernel_rfl, by decide +kernel⟩
theorem ok12 : CodeOk ctx (.xi (.xo (.xi .xh))) fc12 rc12 := ⟨Tryd.f12, _, (by kernel_rfl : Tryd.prog.funcs[12]? = some Tryd.f12), rfl, by kernel_rfl, by kernel_rfl, by decide +kernel⟩
theorem ok15 : CodeOk ctx (.xo (.xo (.xo (.xo .xh)))) fc15 rc15 := ⟨Tryd.f15, _, (by kernel_rfl : Tryd.prog.funcs[15]? = some Tryd.f15), rfl, by kernel_rfl, by kernel_rfl, by decide +kernel⟩
theorem ok19 : CodeOk ctx (.xo (.xo (.xi (.xo .xh)))) fc19 rc19 := ⟨Tryd.f19, _, (by kernel_rfl : Tryd.prog.funcs[19]? = some Tryd.f19), rfl, by kernel_rfl, by kernel_rfl, by decide +kernel⟩
theorem ok22 : CodeOk ctx (.xi (.xi (.xi (.xo .xh)))) fc22 rc22 := ⟨Tryd.f22, _, (by kernel_rfl : Tryd.prog.funcs[22]? = some Tryd.f22), rfl, by kernel_rfl, by kernel_rfl, by decide +kernel⟩
theorem ok25 : CodeOk ctx (.xo (.xi (.xo (.xi .xh)))) fc25 rc25 := ⟨Tryd.f25, _, (by kernel_rfl : Tryd.prog.funcs[25]? = some Tryd.f25), rfl, by kernel_rfl, by kernel_rfl, by decide +kernel⟩
theorem ok30 : CodeOk ctx (.xi (.xi (.xi (.xi .xh)))) fc30 rc30 := ⟨Tryd.f30, _, (by kernel_rfl : Tryd.prog.funcs[30]? = some Tryd.f30), rfl, by kernel_rfl, by kernel_rfl, by decide +kernel⟩
theorem ok33 : CodeOk ctx (.xo (.xi (.xo (.xo (.xo .xh))))) fc33 rc33 := ⟨Tryd.f33, _, (by kernel_rfl : Tryd.prog.funcs[33]? = some Tryd.f33), rfl, by kernel_rfl, by kernel_rfl, by decide +kernel⟩
theorem ok37 : CodeOk ctx (.xo (.xi (.xi (.xo (.xo .xh))))) fc37 rc37 := ⟨Tryd.f37, _, (by kernel_rfl : Tryd.prog.funcs[37]? = some Tryd.f37), rfl, by kernel_rfl, by kernel_rfl, by decide +kernel⟩
theorem ok40 : CodeOk ctx (.xi (.xo (.xo (.xi (.xo .xh))))) fc40 rc40 := ⟨Tryd.f40, _, (by kernel_rfl : Tryd.prog.funcs[40]? = some Tryd.f40), rfl, by kernel_rfl, by kernel_rfl, by decide +kernel⟩
theorem ok42 : CodeOk ctx (.xi (.xi (.xo (.xi (.xo .xh))))) fc42 rc42 := ⟨Tryd.f42, _, (by kernel_rfl : Tryd.prog.funcs[42]? = some Tryd.f42), rfl, by kernel_rfl, by kernel_rfl, by decide +kernel⟩
theorem ok46 : CodeOk ctx (.xi (.xi (.xi (.xi (.xo .xh))))) fc46 rc46 := ⟨Tryd.f46, _, (by kernel_rfl : Tryd.prog.funcs[46]? = some Tryd.f46), rfl, by kernel_rfl, by kernel_rfl, by decide +kernel⟩
theorem ok56 : CodeOk ctx (.xi (.xo (.xo (.xi (.xi .xh))))) fc56 rc56 := ⟨Tryd.f56, _, (by kernel_rfl : Tryd.prog.funcs[56]? = some Tryd.f56), rfl, by kernel_rfl, by kernel_rfl, by decide +kernel⟩
theorem ok59 : CodeOk ctx (.xo (.xo (.xi (.xi (.xi .xh))))) fc59 rc59 := ⟨Tryd.f59, _, (by kernel_rfl : Tryd.prog.funcs[59]? = some Tryd.f59), rfl, by kernel_rfl, by kernel_rfl, by decide +kernel⟩
theorem ok64 : CodeOk ctx (.xi (.xo (.xo (.xo (.xo (.xo .xh)))))) fc64 rc64 := ⟨Tryd.f64, _, (by kernel_rfl : Tryd.prog.funcs[64]? = some Tryd.f64), rfl, by kernel_rfl, by kernel_rfl, by decide +kernel⟩
theorem ok81 : CodeOk ctx (.xo (.xi (.xo (.xo (.xi (.xo .xh)))))) fc81 rc81 := ⟨Tryd.f81, _, (by kernel_rfl : Tryd.prog.funcs[81]? = some Tryd.f81), rfl, by kernel_rfl, by kernel_rfl, by decide +kernel⟩
theorem ok100 : CodeOk ctx (.xi (.xo (.xi (.xo (.xo (.xi .xh)))))) fc100 rc100 := ⟨Tryd.f100, _, (by kernel_rfl : Tryd.prog.funcs[100]? = some Tryd.f100), rfl, by kernel_rfl, by kernel_rfl, by decide +kernel⟩
end Go.Proofs.YthbfgbfgkkhoiaaDoor

/- The closures are what the program's own code is compiled to. No condition. -/
import Derived.Test.YthbfgbfgkkhoiaaDoorLit1
import Derived.KernelRfl
set_option maxRecDepth 100000
namespace Go.Proofs.YthbfgbfgkkhoiaaDoor
open Go Go.Ax
theorem ok4 : CodeOk ctx (.xi (.xo .xh)) fc4 rc4 := ⟨Tryd.f4, _, (by kernel_rfl : Tryd.prog.funcs[4]? = some Tryd.f4), rfl, by kernel_rfl, by kernel_rfl, by decide +kernel⟩
theorem ok7 : CodeOk ctx (.xo (.xo (.xo .xh))) fc7 rc7 := ⟨Tryd.f7, _, (by kernel_rfl : Tryd.prog.funcs[7]? = some Tryd.f7), rfl, by kernel_rfl, by kernel_rfl, by decide +kernel⟩
theorem ok10 : CodeOk ctx (.xi (.xi (.xo .xh))) fc10 rc10 := ⟨Tryd.f10, _, (by kernel_rfl : Tryd.prog.funcs[10]? = some Tryd.f10), rfl, by kernel_rfl, by kernel_rfl, by decide +kernel⟩
theorem ok13 : CodeOk ctx (.xo (.xi (.xi .xh))) fc13 rc13 := ⟨Tryd.f13, _, (by kernel_rfl : Tryd.prog.funcs[13]? = some Tryd.f13), rfl, by kernel_rfl, by kernel_rfl, by decide +kernel⟩
theorem ok16 : CodeOk ctx (.xi (.xo (.xo (.xo .xh)))) fc16 rc16 := ⟨Tryd.f16, _, (by kernel_rfl : Tryd.prog.funcs[16]? = some Tryd.f16), rfl, by kernel_rfl, by kernel_rfl, by decide +kernel⟩
theorem ok18 : CodeOk ctx (.xi (.xi (.xo (.xo .xh)))) fc18 rc18 := ⟨Tryd.f18, _, (by kernel_rfl : Tryd.prog.funcs[18]? = some Tryd.f18), rfl, by kernel_rfl, by kernel_rfl, by decide +kernel⟩
theorem ok23 : CodeOk ctx (.xo (.xo (.xo (.xi .xh)))) fc23 rc23 := ⟨Tryd.f23, _, (by kernel_rfl : Tryd.prog.funcs[23]? = some Tryd.f23), rfl, by kernel_rfl, by kernel_rfl, by decide +kernel⟩
theorem ok26 : CodeOk ctx (.xi (.xi (.xo (.xi .xh)))) fc26 rc26 := ⟨Tryd.f26, _, (by kernel_rfl : Tryd.prog.funcs[26]? = some Tryd.f26), rfl, by kernel_rfl, by kernel_rfl, by decide +kernel⟩
theorem ok31 : CodeOk ctx (.xo (.xo (.xo (.xo (.xo .xh))))) fc31 rc31 := ⟨Tryd.f31, _, (by kernel_rfl : Tryd.prog.funcs[31]? = some Tryd.f31), rfl, by kernel_rfl, by kernel_rfl, by decide +kernel⟩
theorem ok35 : CodeOk ctx (.xo (.xo (.xi (.xo (.xo .xh))))) fc35 rc35 := ⟨Tryd.f35, _, (by kernel_rfl : Tryd.prog.funcs[35]? = some Tryd.f35), rfl, by kernel_rfl, by kernel_rfl, by decide +kernel⟩
theorem ok38 : CodeOk ctx (.xi (.xi (.xi (.xo (.xo .xh))))) fc38 rc38 := ⟨Tryd.f38, _, (by kernel_rfl : Tryd.prog.funcs[38]? = some Tryd.f38), rfl, by kernel_rfl, by kernel_rfl, by decide +kernel⟩
theorem ok41 : CodeOk ctx (.xo (.xi (.xo (.xi (.xo .xh))))) fc41 rc41 := ⟨Tryd.f41, _, (by kernel_rfl : Tryd.prog.funcs[41]? = some Tryd.f41), rfl, by kernel_rfl, by kernel_rfl, by decide +kernel⟩
theorem ok44 : CodeOk ctx (.xi (.xo (.xi (.xi (.xo .xh))))) fc44 rc44 := ⟨Tryd.f44, _, (by kernel_rfl : Tryd.prog.funcs[44]? = some Tryd.f44), rfl, by kernel_rfl, by kernel_rfl, by decide +kernel⟩
theorem ok47 : CodeOk ctx (.xo (.xo (.xo (.xo (.xi .xh))))) fc47 rc47 := ⟨Tryd.f47, _, (by kernel_rfl : Tryd.prog.funcs[47]? = some Tryd.f47), rfl, by kernel_rfl, by kernel_rfl, by decide +kernel⟩
theorem ok57 : CodeOk ctx (.xo (.xi (.xo (.xi (.xi .xh))))) fc57 rc57 := ⟨Tryd.f57, _, (by kernel_rfl : Tryd.prog.funcs[57]? = some Tryd.f57), rfl, by kernel_rfl, by kernel_rfl, by decide +kernel⟩
theorem ok60 : CodeOk ctx (.xi (.xo (.xi (.xi (.xi .xh))))) fc60 rc60 := ⟨Tryd.f60, _, (by kernel_rfl : Tryd.prog.funcs[60]? = some Tryd.f60), rfl, by kernel_rfl, by kernel_rfl, by decide +kernel⟩
theorem ok65 : CodeOk ctx (.xo (.xi (.xo (.xo (.xo (.xo .xh)))))) fc65 rc65 := ⟨Tryd.f65, _, (by kernel_rfl : Tryd.prog.funcs[65]? = some Tryd.f65), rfl, by kernel_rfl, by kernel_rfl, by decide +kernel⟩
theorem ok82 : CodeOk ctx (.xi (.xi (.xo (.xo (.xi (.xo .xh)))))) fc82 rc82 := ⟨Tryd.f82, _, (by kernel_rfl : Tryd.prog.funcs[82]? = some Tryd.f82), rfl, by kernel_rfl, by kernel_rfl, by decide +kernel⟩
theorem ok99 : CodeOk ctx (.xo (.xo (.xi (.xo (.xo (.xi .xh)))))) fc99 rc99 := ⟨Tryd.f99, _, (by kernel_rfl : Tryd.prog.funcs[99]? = some Tryd.f99), rfl, by kernel_rfl, by kernel_rfl, by decide +kernel⟩
end Go.Proofs.YthbfgbfgkkhoiaaDoor

/- The closures are what the program's own code is compiled to. No condition. -/
import Derived.Test.YthbfgbfgkkhoiaaGreatDoorLit2
import Derived.KernelRfl
set_option maxRecDepth 100000
namespace Go.Proofs.YthbfgbfgkkhoiaaGreatDoor
open Go Go.Ax
theorem ok6 : CodeOk ctx (.xi (.xi .xh)) fc6 rc6 := ⟨Tryz.f6, _, (by kernel_rfl : Tryz.prog.funcs[6]? = some Tryz.f6), rfl, by kernel_rfl, by kernel_rfl, by decide +kernel⟩
theorem ok13 : CodeOk ctx (.xo (.xi (.xi .xh))) fc13 rc13 := ⟨Tryz.f13, _, (by kernel_rfl : Tryz.prog.funcs[13]? = some Tryz.f13), rfl, by kernel_rfl, by kernel_rfl, by decide +kernel⟩
theorem ok18 : CodeOk ctx (.xi (.xi (.xo (.xo .xh)))) fc18 rc18 := ⟨Tryz.f18, _, (by kernel_rfl : Tryz.prog.funcs[18]? = some Tryz.f18), rfl, by kernel_rfl, by kernel_rfl, by decide +kernel⟩
theorem ok24 : CodeOk ctx (.xi (.xo (.xo (.xi .xh)))) fc24 rc24 := ⟨Tryz.f24, _, (by kernel_rfl : Tryz.prog.funcs[24]? = some Tryz.f24), rfl, by kernel_rfl, by kernel_rfl, by decide +kernel⟩
theorem ok30 : CodeOk ctx (.xi (.xi (.xi (.xi .xh)))) fc30 rc30 := ⟨Tryz.f30, _, (by kernel_rfl : Tryz.prog.funcs[30]? = some Tryz.f30), rfl, by kernel_rfl, by kernel_rfl, by decide +kernel⟩
theorem ok36 : CodeOk ctx (.xi (.xo (.xi (.xo (.xo .xh))))) fc36 rc36 := ⟨Tryz.f36, _, (by kernel_rfl : Tryz.prog.funcs[36]? = some Tryz.f36), rfl, by kernel_rfl, by kernel_rfl, by decide +kernel⟩
theorem ok43 : CodeOk ctx (.xo (.xo (.xi (.xi (.xo .xh))))) fc43 rc43 := ⟨Tryz.f43, _, (by kernel_rfl : Tryz.prog.funcs[43]? = some Tryz.f43), rfl, by kernel_rfl, by kernel_rfl, by decide +kernel⟩
theorem ok49 : CodeOk ctx (.xo (.xi (.xo (.xo (.xi .xh))))) fc49 rc49 := ⟨Tryz.f49, _, (by kernel_rfl : Tryz.prog.funcs[49]? = some Tryz.f49), rfl, by kernel_rfl, by kernel_rfl, by decide +kernel⟩
theorem ok55 : CodeOk ctx (.xo (.xo (.xo (.xi (.xi .xh))))) fc55 rc55 := ⟨Tryz.f55, _, (by kernel_rfl : Tryz.prog.funcs[55]? = some Tryz.f55), rfl, by kernel_rfl, by kernel_rfl, by decide +kernel⟩
theorem ok62 : CodeOk ctx (.xi (.xi (.xi (.xi (.xi .xh))))) fc62 rc62 := ⟨Tryz.f62, _, (by kernel_rfl : Tryz.prog.funcs[62]? = some Tryz.f62), rfl, by kernel_rfl, by kernel_rfl, by decide +kernel⟩
theorem ok68 : CodeOk ctx (.xi (.xo (.xi (.xo (.xo (.xo .xh)))))) fc68 rc68 := ⟨Tryz.f68, _, (by kernel_rfl : Tryz.prog.funcs[68]? = some Tryz.f68), rfl, by kernel_rfl, by kernel_rfl, by decide +kernel⟩
theorem ok74 : CodeOk ctx (.xi (.xi (.xo (.xi (.xo (.xo .xh)))))) fc74 rc74 := ⟨Tryz.f74, _, (by kernel_rfl : Tryz.prog.funcs[74]? = some Tryz.f74), rfl, by kernel_rfl, by kernel_rfl, by decide +kernel⟩
theorem ok80 : CodeOk ctx (.xi (.xo (.xo (.xo (.xi (.xo .xh)))))) fc80 rc80 := ⟨Tryz.f80, _, (by kernel_rfl : Tryz.prog.funcs[80]? = some Tryz.f80), rfl, by kernel_rfl, by kernel_rfl, by decide +kernel⟩
theorem ok86 : CodeOk ctx (.xi (.xi (.xi (.xo (.xi (.xo .xh)))))) fc86 rc86 := ⟨Tryz.f86, _, (by kernel_rfl : Tryz.prog.funcs[86]? = some Tryz.f86), rfl, by kernel_rfl, by kernel_rfl, by decide +kernel⟩
theorem ok92 : CodeOk ctx (.xi (.xo (.xi (.xi (.xi (.xo .xh)))))) fc92 rc92 := ⟨Tryz.f92, _, (by kernel_rfl : Tryz.prog.funcs[92]? = some Tryz.f92), rfl, by kernel_rfl, by kernel_rfl, by decide +kernel⟩
theorem ok100 : CodeOk ctx (.xi (.xo (.xi (.xo (.xo (.xi .xh)))))) fc100 rc100 := ⟨Tryz.f100, _, (by kernel_rfl : Tryz.prog.funcs[100]? = some Tryz.f100), rfl, by kernel_rfl, by kernel_rfl, by decide +kernel⟩
theorem ok117 : CodeOk ctx (.xo (.xi (.xi (.xo (.xi (.xi .xh)))))) fc117 rc117 := ⟨Tryz.f117, _, (by kernel_rfl : Tryz.prog.funcs[117]? = some Tryz.f117), rfl, by kernel_rfl, by kernel_rfl, by decide +kernel⟩
theorem ok109 : CodeOk ctx (.xo (.xi (.xi (.xi (.xo (.xi .xh)))))) fc109 rc109 := ⟨Tryz.f109, _, (by kernel_rfl : Tryz.prog.funcs[109]? = some Tryz.f109), rfl, by kernel_rfl, by kernel_rfl, by decide +kernel⟩
end Go.Proofs.YthbfgbfgkkhoiaaGreatDoor

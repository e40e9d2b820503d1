/- The closures are what the program's own code is compiled to. No condition. -/
import Derived.Test.YthbfgbfgkkhoiaaGreatDoorLit3
import Derived.KernelRfl
set_option maxRecDepth 100000
namespace Go.Proofs.YthbfgbfgkkhoiaaGreatDoor
open Go Go.Ax
theorem ok6 : CodeOk ctx (.xi (.xi .xh)) fc6 rc6 := ⟨Tryz.f6, _, (by kernel_rfl : Tryz.prog.funcs[6]? = some Tryz.f6), rfl, by kernel_rfl, by kernel_rfl, by decide +kernel⟩
theorem ok12 : CodeOk ctx (.xi (.xo (.xi .xh))) fc12 rc12 := ⟨Tryz.f12, _, (by kernel_rfl : Tryz.prog.funcs[12]? = some Tryz.f12), rfl, by kernel_rfl, by kernel_rfl, by decide +kernel⟩
theorem ok18 : CodeOk ctx (.xi (.xi (.xo (.xo .xh)))) fc18 rc18 := ⟨Tryz.f18, _, (by kernel_rfl : Tryz.prog.funcs[18]? = some Tryz.f18), rfl, by kernel_rfl, by kernel_rfl, by decide +kernel⟩
theorem ok25 : CodeOk ctx (.xo (.xi (.xo (.xi .xh)))) fc25 rc25 := ⟨Tryz.f25, _, (by kernel_rfl : Tryz.prog.funcs[25]? = some Tryz.f25), rfl, by kernel_rfl, by kernel_rfl, by decide +kernel⟩
theorem ok30 : CodeOk ctx (.xi (.xi (.xi (.xi .xh)))) fc30 rc30 := ⟨Tryz.f30, _, (by kernel_rfl : Tryz.prog.funcs[30]? = some Tryz.f30), rfl, by kernel_rfl, by kernel_rfl, by decide +kernel⟩
theorem ok35 : CodeOk ctx (.xo (.xo (.xi (.xo (.xo .xh))))) fc35 rc35 := ⟨Tryz.f35, _, (by kernel_rfl : Tryz.prog.funcs[35]? = some Tryz.f35), rfl, by kernel_rfl, by kernel_rfl, by decide +kernel⟩
theorem ok40 : CodeOk ctx (.xi (.xo (.xo (.xi (.xo .xh))))) fc40 rc40 := ⟨Tryz.f40, _, (by kernel_rfl : Tryz.prog.funcs[40]? = some Tryz.f40), rfl, by kernel_rfl, by kernel_rfl, by decide +kernel⟩
theorem ok47 : CodeOk ctx (.xo (.xo (.xo (.xo (.xi .xh))))) fc47 rc47 := ⟨Tryz.f47, _, (by kernel_rfl : Tryz.prog.funcs[47]? = some Tryz.f47), rfl, by kernel_rfl, by kernel_rfl, by decide +kernel⟩
theorem ok52 : CodeOk ctx (.xi (.xo (.xi (.xo (.xi .xh))))) fc52 rc52 := ⟨Tryz.f52, _, (by kernel_rfl : Tryz.prog.funcs[52]? = some Tryz.f52), rfl, by kernel_rfl, by kernel_rfl, by decide +kernel⟩
theorem ok58 : CodeOk ctx (.xi (.xi (.xo (.xi (.xi .xh))))) fc58 rc58 := ⟨Tryz.f58, _, (by kernel_rfl : Tryz.prog.funcs[58]? = some Tryz.f58), rfl, by kernel_rfl, by kernel_rfl, by decide +kernel⟩
theorem ok63 : CodeOk ctx (.xo (.xo (.xo (.xo (.xo (.xo .xh)))))) fc63 rc63 := ⟨Tryz.f63, _, (by kernel_rfl : Tryz.prog.funcs[63]? = some Tryz.f63), rfl, by kernel_rfl, by kernel_rfl, by decide +kernel⟩
theorem ok68 : CodeOk ctx (.xi (.xo (.xi (.xo (.xo (.xo .xh)))))) fc68 rc68 := ⟨Tryz.f68, _, (by kernel_rfl : Tryz.prog.funcs[68]? = some Tryz.f68), rfl, by kernel_rfl, by kernel_rfl, by decide +kernel⟩
theorem ok75 : CodeOk ctx (.xo (.xo (.xi (.xi (.xo (.xo .xh)))))) fc75 rc75 := ⟨Tryz.f75, _, (by kernel_rfl : Tryz.prog.funcs[75]? = some Tryz.f75), rfl, by kernel_rfl, by kernel_rfl, by decide +kernel⟩
theorem ok80 : CodeOk ctx (.xi (.xo (.xo (.xo (.xi (.xo .xh)))))) fc80 rc80 := ⟨Tryz.f80, _, (by kernel_rfl : Tryz.prog.funcs[80]? = some Tryz.f80), rfl, by kernel_rfl, by kernel_rfl, by decide +kernel⟩
theorem ok84 : CodeOk ctx (.xi (.xo (.xi (.xo (.xi (.xo .xh)))))) fc84 rc84 := ⟨Tryz.f84, _, (by kernel_rfl : Tryz.prog.funcs[84]? = some Tryz.f84), rfl, by kernel_rfl, by kernel_rfl, by decide +kernel⟩
theorem ok92 : CodeOk ctx (.xi (.xo (.xi (.xi (.xi (.xo .xh)))))) fc92 rc92 := ⟨Tryz.f92, _, (by kernel_rfl : Tryz.prog.funcs[92]? = some Tryz.f92), rfl, by kernel_rfl, by kernel_rfl, by decide +kernel⟩
theorem ok100 : CodeOk ctx (.xi (.xo (.xi (.xo (.xo (.xi .xh)))))) fc100 rc100 := ⟨Tryz.f100, _, (by kernel_rfl : Tryz.prog.funcs[100]? = some Tryz.f100), rfl, by kernel_rfl, by kernel_rfl, by decide +kernel⟩
theorem ok117 : CodeOk ctx (.xo (.xi (.xi (.xo (.xi (.xi .xh)))))) fc117 rc117 := ⟨Tryz.f117, _, (by kernel_rfl : Tryz.prog.funcs[117]? = some Tryz.f117), rfl, by kernel_rfl, by kernel_rfl, by decide +kernel⟩
end Go.Proofs.YthbfgbfgkkhoiaaGreatDoor

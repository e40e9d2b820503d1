/- The closures are what the program's own code is compiled to. No condition. -/
import Derived.Test.YthbfgbfgkkhoiaaGreatDoorLit2
import Derived.KernelRfl
set_option maxRecDepth 100000
namespace Go.Proofs.YthbfgbfgkkhoiaaGreatDoor
open Go Go.Ax
theorem ok9 : CodeOk ctx (.xo (.xi (.xo .xh))) fc9 rc9 := ⟨Tryz.f9, _, (by kernel_rfl : Tryz.prog.funcs[9]? = some Tryz.f9), rfl, by kernel_rfl, by kernel_rfl, by decide +kernel⟩
theorem ok15 : CodeOk ctx (.xo (.xo (.xo (.xo .xh)))) fc15 rc15 := ⟨Tryz.f15, _, (by kernel_rfl : Tryz.prog.funcs[15]? = some Tryz.f15), rfl, by kernel_rfl, by kernel_rfl, by decide +kernel⟩
theorem ok21 : CodeOk ctx (.xo (.xi (.xi (.xo .xh)))) fc21 rc21 := ⟨Tryz.f21, _, (by kernel_rfl : Tryz.prog.funcs[21]? = some Tryz.f21), rfl, by kernel_rfl, by kernel_rfl, by decide +kernel⟩
theorem ok27 : CodeOk ctx (.xo (.xo (.xi (.xi .xh)))) fc27 rc27 := ⟨Tryz.f27, _, (by kernel_rfl : Tryz.prog.funcs[27]? = some Tryz.f27), rfl, by kernel_rfl, by kernel_rfl, by decide +kernel⟩
theorem ok33 : CodeOk ctx (.xo (.xi (.xo (.xo (.xo .xh))))) fc33 rc33 := ⟨Tryz.f33, _, (by kernel_rfl : Tryz.prog.funcs[33]? = some Tryz.f33), rfl, by kernel_rfl, by kernel_rfl, by decide +kernel⟩
theorem ok39 : CodeOk ctx (.xo (.xo (.xo (.xi (.xo .xh))))) fc39 rc39 := ⟨Tryz.f39, _, (by kernel_rfl : Tryz.prog.funcs[39]? = some Tryz.f39), rfl, by kernel_rfl, by kernel_rfl, by decide +kernel⟩
theorem ok46 : CodeOk ctx (.xi (.xi (.xi (.xi (.xo .xh))))) fc46 rc46 := ⟨Tryz.f46, _, (by kernel_rfl : Tryz.prog.funcs[46]? = some Tryz.f46), rfl, by kernel_rfl, by kernel_rfl, by decide +kernel⟩
theorem ok52 : CodeOk ctx (.xi (.xo (.xi (.xo (.xi .xh))))) fc52 rc52 := ⟨Tryz.f52, _, (by kernel_rfl : Tryz.prog.funcs[52]? = some Tryz.f52), rfl, by kernel_rfl, by kernel_rfl, by decide +kernel⟩
theorem ok59 : CodeOk ctx (.xo (.xo (.xi (.xi (.xi .xh))))) fc59 rc59 := ⟨Tryz.f59, _, (by kernel_rfl : Tryz.prog.funcs[59]? = some Tryz.f59), rfl, by kernel_rfl, by kernel_rfl, by decide +kernel⟩
theorem ok65 : CodeOk ctx (.xo (.xi (.xo (.xo (.xo (.xo .xh)))))) fc65 rc65 := ⟨Tryz.f65, _, (by kernel_rfl : Tryz.prog.funcs[65]? = some Tryz.f65), rfl, by kernel_rfl, by kernel_rfl, by decide +kernel⟩
theorem ok71 : CodeOk ctx (.xo (.xo (.xo (.xi (.xo (.xo .xh)))))) fc71 rc71 := ⟨Tryz.f71, _, (by kernel_rfl : Tryz.prog.funcs[71]? = some Tryz.f71), rfl, by kernel_rfl, by kernel_rfl, by decide +kernel⟩
theorem ok77 : CodeOk ctx (.xo (.xi (.xi (.xi (.xo (.xo .xh)))))) fc77 rc77 := ⟨Tryz.f77, _, (by kernel_rfl : Tryz.prog.funcs[77]? = some Tryz.f77), rfl, by kernel_rfl, by kernel_rfl, by decide +kernel⟩
theorem ok83 : CodeOk ctx (.xo (.xo (.xi (.xo (.xi (.xo .xh)))))) fc83 rc83 := ⟨Tryz.f83, _, (by kernel_rfl : Tryz.prog.funcs[83]? = some Tryz.f83), rfl, by kernel_rfl, by kernel_rfl, by decide +kernel⟩
theorem ok89 : CodeOk ctx (.xo (.xi (.xo (.xi (.xi (.xo .xh)))))) fc89 rc89 := ⟨Tryz.f89, _, (by kernel_rfl : Tryz.prog.funcs[89]? = some Tryz.f89), rfl, by kernel_rfl, by kernel_rfl, by decide +kernel⟩
theorem ok97 : CodeOk ctx (.xo (.xi (.xo (.xo (.xo (.xi .xh)))))) fc97 rc97 := ⟨Tryz.f97, _, (by kernel_rfl : Tryz.prog.funcs[97]? = some Tryz.f97), rfl, by kernel_rfl, by kernel_rfl, by decide +kernel⟩
theorem ok106 : CodeOk ctx (.xi (.xi (.xo (.xi (.xo (.xi .xh)))))) fc106 rc106 := ⟨Tryz.f106, _, (by kernel_rfl : Tryz.prog.funcs[106]? = some Tryz.f106), rfl, by kernel_rfl, by kernel_rfl, by decide +kernel⟩
theorem ok125 : CodeOk ctx (.xo (.xi (.xi (.xi (.xi (.xi .xh)))))) fc125 rc125 := ⟨Tryz.f125, _, (by kernel_rfl : Tryz.prog.funcs[125]? = some Tryz.f125), rfl, by kernel_rfl, by kernel_rfl, by decide +kernel⟩
end Go.Proofs.YthbfgbfgkkhoiaaGreatDoor

/- The closures are what the program's own code is compiled to. No condition. -/
import Derived.Test.YthbfgbfgkkhoiaaGreatDoorLit3
import Derived.KernelRfl
set_option maxRecDepth 100000
namespace Go.Proofs.YthbfgbfgkkhoiaaGreatDoor
open Go Go.Ax
theorem ok10 : CodeOk ctx (.xi (.xi (.xo .xh))) fc10 rc10 := ⟨Tryz.f10, _, (by kernel_rfl : Tryz.prog.funcs[10]? = some Tryz.f10), rfl, by kernel_rfl, by kernel_rfl, by decide +kernel⟩
theorem ok15 : CodeOk ctx (.xo (.xo (.xo (.xo .xh)))) fc15 rc15 := ⟨Tryz.f15, _, (by kernel_rfl : Tryz.prog.funcs[15]? = some Tryz.f15), rfl, by kernel_rfl, by kernel_rfl, by decide +kernel⟩
theorem ok20 : CodeOk ctx (.xi (.xo (.xi (.xo .xh)))) fc20 rc20 := ⟨Tryz.f20, _, (by kernel_rfl : Tryz.prog.funcs[20]? = some Tryz.f20), rfl, by kernel_rfl, by kernel_rfl, by decide +kernel⟩
theorem ok27 : CodeOk ctx (.xo (.xo (.xi (.xi .xh)))) fc27 rc27 := ⟨Tryz.f27, _, (by kernel_rfl : Tryz.prog.funcs[27]? = some Tryz.f27), rfl, by kernel_rfl, by kernel_rfl, by decide +kernel⟩
theorem ok32 : CodeOk ctx (.xi (.xo (.xo (.xo (.xo .xh))))) fc32 rc32 := ⟨Tryz.f32, _, (by kernel_rfl : Tryz.prog.funcs[32]? = some Tryz.f32), rfl, by kernel_rfl, by kernel_rfl, by decide +kernel⟩
theorem ok37 : CodeOk ctx (.xo (.xi (.xi (.xo (.xo .xh))))) fc37 rc37 := ⟨Tryz.f37, _, (by kernel_rfl : Tryz.prog.funcs[37]? = some Tryz.f37), rfl, by kernel_rfl, by kernel_rfl, by decide +kernel⟩
theorem ok43 : CodeOk ctx (.xo (.xo (.xi (.xi (.xo .xh))))) fc43 rc43 := ⟨Tryz.f43, _, (by kernel_rfl : Tryz.prog.funcs[43]? = some Tryz.f43), rfl, by kernel_rfl, by kernel_rfl, by decide +kernel⟩
theorem ok49 : CodeOk ctx (.xo (.xi (.xo (.xo (.xi .xh))))) fc49 rc49 := ⟨Tryz.f49, _, (by kernel_rfl : Tryz.prog.funcs[49]? = some Tryz.f49), rfl, by kernel_rfl, by kernel_rfl, by decide +kernel⟩
theorem ok54 : CodeOk ctx (.xi (.xi (.xi (.xo (.xi .xh))))) fc54 rc54 := ⟨Tryz.f54, _, (by kernel_rfl : Tryz.prog.funcs[54]? = some Tryz.f54), rfl, by kernel_rfl, by kernel_rfl, by decide +kernel⟩
theorem ok60 : CodeOk ctx (.xi (.xo (.xi (.xi (.xi .xh))))) fc60 rc60 := ⟨Tryz.f60, _, (by kernel_rfl : Tryz.prog.funcs[60]? = some Tryz.f60), rfl, by kernel_rfl, by kernel_rfl, by decide +kernel⟩
theorem ok65 : CodeOk ctx (.xo (.xi (.xo (.xo (.xo (.xo .xh)))))) fc65 rc65 := ⟨Tryz.f65, _, (by kernel_rfl : Tryz.prog.funcs[65]? = some Tryz.f65), rfl, by kernel_rfl, by kernel_rfl, by decide +kernel⟩
theorem ok71 : CodeOk ctx (.xo (.xo (.xo (.xi (.xo (.xo .xh)))))) fc71 rc71 := ⟨Tryz.f71, _, (by kernel_rfl : Tryz.prog.funcs[71]? = some Tryz.f71), rfl, by kernel_rfl, by kernel_rfl, by decide +kernel⟩
theorem ok77 : CodeOk ctx (.xo (.xi (.xi (.xi (.xo (.xo .xh)))))) fc77 rc77 := ⟨Tryz.f77, _, (by kernel_rfl : Tryz.prog.funcs[77]? = some Tryz.f77), rfl, by kernel_rfl, by kernel_rfl, by decide +kernel⟩
theorem ok82 : CodeOk ctx (.xi (.xi (.xo (.xo (.xi (.xo .xh)))))) fc82 rc82 := ⟨Tryz.f82, _, (by kernel_rfl : Tryz.prog.funcs[82]? = some Tryz.f82), rfl, by kernel_rfl, by kernel_rfl, by decide +kernel⟩
theorem ok87 : CodeOk ctx (.xo (.xo (.xo (.xi (.xi (.xo .xh)))))) fc87 rc87 := ⟨Tryz.f87, _, (by kernel_rfl : Tryz.prog.funcs[87]? = some Tryz.f87), rfl, by kernel_rfl, by kernel_rfl, by decide +kernel⟩
theorem ok97 : CodeOk ctx (.xo (.xi (.xo (.xo (.xo (.xi .xh)))))) fc97 rc97 := ⟨Tryz.f97, _, (by kernel_rfl : Tryz.prog.funcs[97]? = some Tryz.f97), rfl, by kernel_rfl, by kernel_rfl, by decide +kernel⟩
theorem ok102 : CodeOk ctx (.xi (.xi (.xi (.xo (.xo (.xi .xh)))))) fc102 rc102 := ⟨Tryz.f102, _, (by kernel_rfl : Tryz.prog.funcs[102]? = some Tryz.f102), rfl, by kernel_rfl, by kernel_rfl, by decide +kernel⟩
theorem ok123 : CodeOk ctx (.xo (.xo (.xi (.xi (.xi (.xi .xh)))))) fc123 rc123 := ⟨Tryz.f123, _, (by kernel_rfl : Tryz.prog.funcs[123]? = some Tryz.f123), rfl, by kernel_rfl, by kernel_rfl, by decide +kernel⟩
end Go.Proofs.YthbfgbfgkkhoiaaGreatDoor

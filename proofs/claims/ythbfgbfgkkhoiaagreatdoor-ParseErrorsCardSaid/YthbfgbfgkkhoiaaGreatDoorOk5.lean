/- The closures are what the program's own code is compiled to. No condition. -/
import Derived.Test.YthbfgbfgkkhoiaaGreatDoorLit2
import Derived.KernelRfl
set_option maxRecDepth 100000
namespace Go.Proofs.YthbfgbfgkkhoiaaGreatDoor
open Go Go.Ax
theorem ok8 : CodeOk ctx (.xi (.xo (.xo .xh))) fc8 rc8 := ⟨Tryz.f8, _, (by kernel_rfl : Tryz.prog.funcs[8]? = some Tryz.f8), rfl, by kernel_rfl, by kernel_rfl, by decide +kernel⟩
theorem ok14 : CodeOk ctx (.xi (.xi (.xi .xh))) fc14 rc14 := ⟨Tryz.f14, _, (by kernel_rfl : Tryz.prog.funcs[14]? = some Tryz.f14), rfl, by kernel_rfl, by kernel_rfl, by decide +kernel⟩
theorem ok20 : CodeOk ctx (.xi (.xo (.xi (.xo .xh)))) fc20 rc20 := ⟨Tryz.f20, _, (by kernel_rfl : Tryz.prog.funcs[20]? = some Tryz.f20), rfl, by kernel_rfl, by kernel_rfl, by decide +kernel⟩
theorem ok26 : CodeOk ctx (.xi (.xi (.xo (.xi .xh)))) fc26 rc26 := ⟨Tryz.f26, _, (by kernel_rfl : Tryz.prog.funcs[26]? = some Tryz.f26), rfl, by kernel_rfl, by kernel_rfl, by decide +kernel⟩
theorem ok32 : CodeOk ctx (.xi (.xo (.xo (.xo (.xo .xh))))) fc32 rc32 := ⟨Tryz.f32, _, (by kernel_rfl : Tryz.prog.funcs[32]? = some Tryz.f32), rfl, by kernel_rfl, by kernel_rfl, by decide +kernel⟩
theorem ok38 : CodeOk ctx (.xi (.xi (.xi (.xo (.xo .xh))))) fc38 rc38 := ⟨Tryz.f38, _, (by kernel_rfl : Tryz.prog.funcs[38]? = some Tryz.f38), rfl, by kernel_rfl, by kernel_rfl, by decide +kernel⟩
theorem ok45 : CodeOk ctx (.xo (.xi (.xi (.xi (.xo .xh))))) fc45 rc45 := ⟨Tryz.f45, _, (by kernel_rfl : Tryz.prog.funcs[45]? = some Tryz.f45), rfl, by kernel_rfl, by kernel_rfl, by decide +kernel⟩
theorem ok51 : CodeOk ctx (.xo (.xo (.xi (.xo (.xi .xh))))) fc51 rc51 := ⟨Tryz.f51, _, (by kernel_rfl : Tryz.prog.funcs[51]? = some Tryz.f51), rfl, by kernel_rfl, by kernel_rfl, by decide +kernel⟩
theorem ok58 : CodeOk ctx (.xi (.xi (.xo (.xi (.xi .xh))))) fc58 rc58 := ⟨Tryz.f58, _, (by kernel_rfl : Tryz.prog.funcs[58]? = some Tryz.f58), rfl, by kernel_rfl, by kernel_rfl, by decide +kernel⟩
theorem ok64 : CodeOk ctx (.xi (.xo (.xo (.xo (.xo (.xo .xh)))))) fc64 rc64 := ⟨Tryz.f64, _, (by kernel_rfl : Tryz.prog.funcs[64]? = some Tryz.f64), rfl, by kernel_rfl, by kernel_rfl, by decide +kernel⟩
theorem ok70 : CodeOk ctx (.xi (.xi (.xi (.xo (.xo (.xo .xh)))))) fc70 rc70 := ⟨Tryz.f70, _, (by kernel_rfl : Tryz.prog.funcs[70]? = some Tryz.f70), rfl, by kernel_rfl, by kernel_rfl, by decide +kernel⟩
theorem ok76 : CodeOk ctx (.xi (.xo (.xi (.xi (.xo (.xo .xh)))))) fc76 rc76 := ⟨Tryz.f76, _, (by kernel_rfl : Tryz.prog.funcs[76]? = some Tryz.f76), rfl, by kernel_rfl, by kernel_rfl, by decide +kernel⟩
theorem ok82 : CodeOk ctx (.xi (.xi (.xo (.xo (.xi (.xo .xh)))))) fc82 rc82 := ⟨Tryz.f82, _, (by kernel_rfl : Tryz.prog.funcs[82]? = some Tryz.f82), rfl, by kernel_rfl, by kernel_rfl, by decide +kernel⟩
theorem ok88 : CodeOk ctx (.xi (.xo (.xo (.xi (.xi (.xo .xh)))))) fc88 rc88 := ⟨Tryz.f88, _, (by kernel_rfl : Tryz.prog.funcs[88]? = some Tryz.f88), rfl, by kernel_rfl, by kernel_rfl, by decide +kernel⟩
theorem ok95 : CodeOk ctx (.xo (.xo (.xo (.xo (.xo (.xi .xh)))))) fc95 rc95 := ⟨Tryz.f95, _, (by kernel_rfl : Tryz.prog.funcs[95]? = some Tryz.f95), rfl, by kernel_rfl, by kernel_rfl, by decide +kernel⟩
theorem ok102 : CodeOk ctx (.xi (.xi (.xi (.xo (.xo (.xi .xh)))))) fc102 rc102 := ⟨Tryz.f102, _, (by kernel_rfl : Tryz.prog.funcs[102]? = some Tryz.f102), rfl, by kernel_rfl, by kernel_rfl, by decide +kernel⟩
theorem ok123 : CodeOk ctx (.xo (.xo (.xi (.xi (.xi (.xi .xh)))))) fc123 rc123 := ⟨Tryz.f123, _, (by kernel_rfl : Tryz.prog.funcs[123]? = some Tryz.f123), rfl, by kernel_rfl, by kernel_rfl, by decide +kernel⟩
theorem ok126 : CodeOk ctx (.xi (.xi (.xi (.xi (.xi (.xi .xh)))))) fc126 rc126 := ⟨Tryz.f126, _, (by kernel_rfl : Tryz.prog.funcs[126]? = some Tryz.f126), rfl, by kernel_rfl, by kernel_rfl, by decide +kernel⟩
end Go.Proofs.YthbfgbfgkkhoiaaGreatDoor

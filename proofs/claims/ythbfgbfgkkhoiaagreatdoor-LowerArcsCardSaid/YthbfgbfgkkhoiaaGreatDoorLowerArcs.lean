/- The law LowerArcs answers true for every input, and leaves what was there as it was; its card. Conditions: none beyond the row's own (the listed variables hold what the program lays). -/
import Derived.Test.YthbfgbfgkkhoiaaGreatDoorAx6
import Derived.Test.YthbfgbfgkkhoiaaGreatDoorLowerArcsC
import Derived.Test.YthbfgbfgkkhoiaaGreatDoorRows
import Derived.Test.YthbfgbfgkkhoiaaGreatDoorCards
import Derived.Test.YthbfgbfgkkhoiaaGreatDoorTie
import Derived.ProofKit
import Derived.LaidMore
import Derived.Lay
import Derived.OpenShut
import Derived.Stop.Joined
import Derived.SevenTiedAt
import Derived.KernelRfl
set_option maxRecDepth 100000
namespace Go.Proofs.YthbfgbfgkkhoiaaGreatDoor
open Go Go.Ax Go.ChangeShapes Go.WideShapes Go.ChangeAt Go.WideMaps Go.WideElems Go.RowKit
theorem la_own : ownKnob Tryz.prog.godebug = Option.none := by kernel_rfl
theorem la_star : "*" ++ "errors.errorString" = "*errors.errorString" := by decide
theorem la_row (u : TypeId) (h : Tryz.prog.typeName? 3 u = some "*errors.errorString") : u = 239 :=
  typeName_ptr_named (nm := "errors.errorString") (by rw [la_star]; kernel_rfl) (by kernel_rfl) (by decide) u (by rw [la_star]; exact h)
theorem la_c1 : Tryz.prog.cellsOf 241 = 1 := by kernel_rfl
theorem la_c2 : Tryz.prog.cellsOf 9 = 1 := by kernel_rfl
noncomputable def laNames : List String := ["math/bits.deBruijn32tab", "math/bits.deBruijn64tab", "internal/strconv.uint64pow10", "strconv.ErrRange", "strconv.ErrSyntax", "glyphic/api.ErrText", "glyphic/api.ErrName", "glyphic/api.ErrTwice", "glyphic/api.ErrPath", "glyphic/api.ErrRange", "glyphic/api.ErrLimit", "unicode.White_Space", "strings.asciiSpace"]
noncomputable def laSpecF (x : String × DataW Unit) : List (K × List AV) := ((laNames.zip laSpec).lookup x.1).getD []
theorem la_flat : (Rows.lowerArcsRow.laid).flatMap laSpecF = laSpec.flatten := by kernel_rfl
theorem la_e0 (W : World) (seg : List MemPlace) (h : EntryAt Tryz.prog W "math/bits.deBruijn32tab" Rows.laid_math_bits_deBruijn32tab seg) : EntryOk 24 Tryz.prog W (laSpecF ("math/bits.deBruijn32tab", Rows.laid_math_bits_deBruijn32tab)) seg := by
  rw [show laSpecF ("math/bits.deBruijn32tab", Rows.laid_math_bits_deBruijn32tab) = [(K.of 21, ([0, 1, 28, 2, 29, 14, 24, 3, 30, 22, 20, 15, 25, 17, 4, 8, 31, 27, 13, 23, 21, 19, 16, 7, 26, 12, 18, 6, 11, 5, 10, 9] : List Int).map fun x => .int .u8 x)] from by kernel_rfl]
  rw [show (Rows.laid_math_bits_deBruijn32tab : DataW Unit) = .agg (([0, 1, 28, 2, 29, 14, 24, 3, 30, 22, 20, 15, 25, 17, 4, 8, 31, 27, 13, 23, 21, 19, 16, 7, 26, 12, 18, 6, 11, 5, 10, 9] : List Int).map fun x => .lit (.int .u8 x)) from by kernel_rfl] at h
  exact entry_ints (by kernel_rfl) (by kernel_rfl : (Tryz.prog.globals[21]?).map (·.type) = some 258) (by kernel_rfl : Tryz.prog.underlying 258 = some (.array 32 5)) Tryz.underlying5 (by kernel_rfl) (by kernel_rfl) (by decide) h
theorem la_e1 (W : World) (seg : List MemPlace) (h : EntryAt Tryz.prog W "math/bits.deBruijn64tab" Rows.laid_math_bits_deBruijn64tab seg) : EntryOk 24 Tryz.prog W (laSpecF ("math/bits.deBruijn64tab", Rows.laid_math_bits_deBruijn64tab)) seg := by
  rw [show laSpecF ("math/bits.deBruijn64tab", Rows.laid_math_bits_deBruijn64tab) = [(K.of 22, ([0, 1, 56, 2, 57, 49, 28, 3, 61, 58, 42, 50, 38, 29, 17, 4, 62, 47, 59, 36, 45, 43, 51, 22, 53, 39, 33, 30, 24, 18, 12, 5, 63, 55, 48, 27, 60, 41, 37, 16, 46, 35, 44, 21, 52, 32, 23, 11, 54, 26, 40, 15, 34, 20, 31, 10, 25, 14, 19, 9, 13, 8, 7, 6] : List Int).map fun x => .int .u8 x)] from by kernel_rfl]
  rw [show (Rows.laid_math_bits_deBruijn64tab : DataW Unit) = .agg (([0, 1, 56, 2, 57, 49, 28, 3, 61, 58, 42, 50, 38, 29, 17, 4, 62, 47, 59, 36, 45, 43, 51, 22, 53, 39, 33, 30, 24, 18, 12, 5, 63, 55, 48, 27, 60, 41, 37, 16, 46, 35, 44, 21, 52, 32, 23, 11, 54, 26, 40, 15, 34, 20, 31, 10, 25, 14, 19, 9, 13, 8, 7, 6] : List Int).map fun x => .lit (.int .u8 x)) from by kernel_rfl] at h
  exact entry_ints (by kernel_rfl) (by kernel_rfl : (Tryz.prog.globals[22]?).map (·.type) = some 259) (by kernel_rfl : Tryz.prog.underlying 259 = some (.array 64 5)) Tryz.underlying5 (by kernel_rfl) (by kernel_rfl) (by decide) h
theorem la_e2 (W : World) (seg : List MemPlace) (h : EntryAt Tryz.prog W "internal/strconv.uint64pow10" Rows.laid_internal_strconv_uint64pow10 seg) : EntryOk 24 Tryz.prog W (laSpecF ("internal/strconv.uint64pow10", Rows.laid_internal_strconv_uint64pow10)) seg := by
  rw [show laSpecF ("internal/strconv.uint64pow10", Rows.laid_internal_strconv_uint64pow10) = [(K.of 20, ([1, 10, 100, 1000, 10000, 100000, 1000000, 10000000, 100000000, 1000000000, 10000000000, 100000000000, 1000000000000, 10000000000000, 100000000000000, 1000000000000000, 10000000000000000, 100000000000000000, 1000000000000000000, 10000000000000000000] : List Int).map fun x => .int .u64 x)] from by kernel_rfl]
  rw [show (Rows.laid_internal_strconv_uint64pow10 : DataW Unit) = .agg (([1, 10, 100, 1000, 10000, 100000, 1000000, 10000000, 100000000, 1000000000, 10000000000, 100000000000, 1000000000000, 10000000000000, 100000000000000, 1000000000000000, 10000000000000000, 100000000000000000, 1000000000000000000, 10000000000000000000] : List Int).map fun x => .lit (.int .u64 x)) from by kernel_rfl] at h
  exact entry_ints (by kernel_rfl) (by kernel_rfl : (Tryz.prog.globals[20]?).map (·.type) = some 254) (by kernel_rfl : Tryz.prog.underlying 254 = some (.array 20 174)) Tryz.underlying174 (by kernel_rfl) (by kernel_rfl) (by decide) h
theorem la_e3 (W : World) (seg : List MemPlace) (h : EntryAt Tryz.prog W "strconv.ErrRange" Rows.laid_strconv_ErrRange seg) : EntryOk 24 Tryz.prog W (laSpecF ("strconv.ErrRange", Rows.laid_strconv_ErrRange)) seg := by
  rw [show laSpecF ("strconv.ErrRange", Rows.laid_strconv_ErrRange) = [(K.of 19, [.iface 239 (.ptr (.xo (.xo (.xi (.xo (.xi (.xo .xh)))))) 0)]), ((.xo (.xo (.xi (.xo (.xi (.xo .xh)))))), [.str ([118, 97, 108, 117, 101, 32, 111, 117, 116, 32, 111, 102, 32, 114, 97, 110, 103, 101] : List UInt8).length (pack ([118, 97, 108, 117, 101, 32, 111, 117, 116, 32, 111, 102, 32, 114, 97, 110, 103, 101] : List UInt8))])] from by kernel_rfl]
  exact entry_sent (.xo (.xo (.xi (.xo (.xi (.xo .xh)))))) (by decide) (by kernel_rfl) (by kernel_rfl : (Tryz.prog.globals[19]?).map (·.type) = some 32) Tryz.underlying32 la_row Tryz.underlying239 Tryz.underlying241 rfl rfl Tryz.underlying9 la_c1 la_c2 h
theorem la_e4 (W : World) (seg : List MemPlace) (h : EntryAt Tryz.prog W "strconv.ErrSyntax" Rows.laid_strconv_ErrSyntax seg) : EntryOk 24 Tryz.prog W (laSpecF ("strconv.ErrSyntax", Rows.laid_strconv_ErrSyntax)) seg := by
  rw [show laSpecF ("strconv.ErrSyntax", Rows.laid_strconv_ErrSyntax) = [(K.of 18, [.iface 239 (.ptr (.xi (.xi (.xo (.xo (.xi (.xo .xh)))))) 0)]), ((.xi (.xi (.xo (.xo (.xi (.xo .xh)))))), [.str ([105, 110, 118, 97, 108, 105, 100, 32, 115, 121, 110, 116, 97, 120] : List UInt8).length (pack ([105, 110, 118, 97, 108, 105, 100, 32, 115, 121, 110, 116, 97, 120] : List UInt8))])] from by kernel_rfl]
  exact entry_sent (.xi (.xi (.xo (.xo (.xi (.xo .xh)))))) (by decide) (by kernel_rfl) (by kernel_rfl : (Tryz.prog.globals[18]?).map (·.type) = some 32) Tryz.underlying32 la_row Tryz.underlying239 Tryz.underlying241 rfl rfl Tryz.underlying9 la_c1 la_c2 h
theorem la_e5 (W : World) (seg : List MemPlace) (h : EntryAt Tryz.prog W "glyphic/api.ErrText" Rows.laid_glyphic_api_ErrText seg) : EntryOk 24 Tryz.prog W (laSpecF ("glyphic/api.ErrText", Rows.laid_glyphic_api_ErrText)) seg := by
  rw [show laSpecF ("glyphic/api.ErrText", Rows.laid_glyphic_api_ErrText) = [(K.of 1, [.iface 239 (.ptr (.xo (.xi (.xo (.xo (.xo (.xo .xh)))))) 0)]), ((.xo (.xi (.xo (.xo (.xo (.xo .xh)))))), [.str ([110, 111, 116, 32, 97, 115, 32, 105, 116, 32, 105, 115, 32, 119, 114, 105, 116, 116, 101, 110] : List UInt8).length (pack ([110, 111, 116, 32, 97, 115, 32, 105, 116, 32, 105, 115, 32, 119, 114, 105, 116, 116, 101, 110] : List UInt8))])] from by kernel_rfl]
  exact entry_sent (.xo (.xi (.xo (.xo (.xo (.xo .xh)))))) (by decide) (by kernel_rfl) (by kernel_rfl : (Tryz.prog.globals[1]?).map (·.type) = some 32) Tryz.underlying32 la_row Tryz.underlying239 Tryz.underlying241 rfl rfl Tryz.underlying9 la_c1 la_c2 h
theorem la_e6 (W : World) (seg : List MemPlace) (h : EntryAt Tryz.prog W "glyphic/api.ErrName" Rows.laid_glyphic_api_ErrName seg) : EntryOk 24 Tryz.prog W (laSpecF ("glyphic/api.ErrName", Rows.laid_glyphic_api_ErrName)) seg := by
  rw [show laSpecF ("glyphic/api.ErrName", Rows.laid_glyphic_api_ErrName) = [(K.of 3, [.iface 239 (.ptr (.xo (.xo (.xi (.xo (.xo (.xo .xh)))))) 0)]), ((.xo (.xo (.xi (.xo (.xo (.xo .xh)))))), [.str ([97, 32, 110, 97, 109, 101, 32, 116, 104, 97, 116, 32, 105, 115, 32, 110, 111, 98, 111, 100, 121, 39, 115] : List UInt8).length (pack ([97, 32, 110, 97, 109, 101, 32, 116, 104, 97, 116, 32, 105, 115, 32, 110, 111, 98, 111, 100, 121, 39, 115] : List UInt8))])] from by kernel_rfl]
  exact entry_sent (.xo (.xo (.xi (.xo (.xo (.xo .xh)))))) (by decide) (by kernel_rfl) (by kernel_rfl : (Tryz.prog.globals[3]?).map (·.type) = some 32) Tryz.underlying32 la_row Tryz.underlying239 Tryz.underlying241 rfl rfl Tryz.underlying9 la_c1 la_c2 h
theorem la_e7 (W : World) (seg : List MemPlace) (h : EntryAt Tryz.prog W "glyphic/api.ErrTwice" Rows.laid_glyphic_api_ErrTwice seg) : EntryOk 24 Tryz.prog W (laSpecF ("glyphic/api.ErrTwice", Rows.laid_glyphic_api_ErrTwice)) seg := by
  rw [show laSpecF ("glyphic/api.ErrTwice", Rows.laid_glyphic_api_ErrTwice) = [(K.of 4, [.iface 239 (.ptr (.xi (.xo (.xi (.xo (.xo (.xo .xh)))))) 0)]), ((.xi (.xo (.xi (.xo (.xo (.xo .xh)))))), [.str ([97, 32, 110, 97, 109, 101, 32, 116, 119, 105, 99, 101] : List UInt8).length (pack ([97, 32, 110, 97, 109, 101, 32, 116, 119, 105, 99, 101] : List UInt8))])] from by kernel_rfl]
  exact entry_sent (.xi (.xo (.xi (.xo (.xo (.xo .xh)))))) (by decide) (by kernel_rfl) (by kernel_rfl : (Tryz.prog.globals[4]?).map (·.type) = some 32) Tryz.underlying32 la_row Tryz.underlying239 Tryz.underlying241 rfl rfl Tryz.underlying9 la_c1 la_c2 h
theorem la_e8 (W : World) (seg : List MemPlace) (h : EntryAt Tryz.prog W "glyphic/api.ErrPath" Rows.laid_glyphic_api_ErrPath seg) : EntryOk 24 Tryz.prog W (laSpecF ("glyphic/api.ErrPath", Rows.laid_glyphic_api_ErrPath)) seg := by
  rw [show laSpecF ("glyphic/api.ErrPath", Rows.laid_glyphic_api_ErrPath) = [(K.of 2, [.iface 239 (.ptr (.xi (.xi (.xo (.xo (.xo (.xo .xh)))))) 0)]), ((.xi (.xi (.xo (.xo (.xo (.xo .xh)))))), [.str ([115, 116, 101, 112, 115, 32, 116, 104, 97, 116, 32, 97, 114, 101, 32, 110, 111, 32, 112, 97, 116, 104] : List UInt8).length (pack ([115, 116, 101, 112, 115, 32, 116, 104, 97, 116, 32, 97, 114, 101, 32, 110, 111, 32, 112, 97, 116, 104] : List UInt8))])] from by kernel_rfl]
  exact entry_sent (.xi (.xi (.xo (.xo (.xo (.xo .xh)))))) (by decide) (by kernel_rfl) (by kernel_rfl : (Tryz.prog.globals[2]?).map (·.type) = some 32) Tryz.underlying32 la_row Tryz.underlying239 Tryz.underlying241 rfl rfl Tryz.underlying9 la_c1 la_c2 h
theorem la_e9 (W : World) (seg : List MemPlace) (h : EntryAt Tryz.prog W "glyphic/api.ErrRange" Rows.laid_glyphic_api_ErrRange seg) : EntryOk 24 Tryz.prog W (laSpecF ("glyphic/api.ErrRange", Rows.laid_glyphic_api_ErrRange)) seg := by
  rw [show laSpecF ("glyphic/api.ErrRange", Rows.laid_glyphic_api_ErrRange) = [(K.of 5, [.iface 239 (.ptr (.xo (.xi (.xi (.xo (.xo (.xo .xh)))))) 0)]), ((.xo (.xi (.xi (.xo (.xo (.xo .xh)))))), [.str ([97, 32, 110, 117, 109, 98, 101, 114, 32, 111, 117, 116, 32, 111, 102, 32, 105, 116, 115, 32, 114, 97, 110, 103, 101] : List UInt8).length (pack ([97, 32, 110, 117, 109, 98, 101, 114, 32, 111, 117, 116, 32, 111, 102, 32, 105, 116, 115, 32, 114, 97, 110, 103, 101] : List UInt8))])] from by kernel_rfl]
  exact entry_sent (.xo (.xi (.xi (.xo (.xo (.xo .xh)))))) (by decide) (by kernel_rfl) (by kernel_rfl : (Tryz.prog.globals[5]?).map (·.type) = some 32) Tryz.underlying32 la_row Tryz.underlying239 Tryz.underlying241 rfl rfl Tryz.underlying9 la_c1 la_c2 h
theorem la_e10 (W : World) (seg : List MemPlace) (h : EntryAt Tryz.prog W "glyphic/api.ErrLimit" Rows.laid_glyphic_api_ErrLimit seg) : EntryOk 24 Tryz.prog W (laSpecF ("glyphic/api.ErrLimit", Rows.laid_glyphic_api_ErrLimit)) seg := by
  rw [show laSpecF ("glyphic/api.ErrLimit", Rows.laid_glyphic_api_ErrLimit) = [(K.of 0, [.iface 239 (.ptr (.xi (.xo (.xo (.xo (.xo (.xo .xh)))))) 0)]), ((.xi (.xo (.xo (.xo (.xo (.xo .xh)))))), [.str ([109, 111, 114, 101, 32, 116, 104, 97, 110, 32, 109, 97, 121, 32, 98, 101] : List UInt8).length (pack ([109, 111, 114, 101, 32, 116, 104, 97, 110, 32, 109, 97, 121, 32, 98, 101] : List UInt8))])] from by kernel_rfl]
  exact entry_sent (.xi (.xo (.xo (.xo (.xo (.xo .xh)))))) (by decide) (by kernel_rfl) (by kernel_rfl : (Tryz.prog.globals[0]?).map (·.type) = some 32) Tryz.underlying32 la_row Tryz.underlying239 Tryz.underlying241 rfl rfl Tryz.underlying9 la_c1 la_c2 h
theorem la_e11 (W : World) (seg : List MemPlace) (h : EntryAt Tryz.prog W "unicode.White_Space" Rows.laid_unicode_White_Space seg) : EntryOk 24 Tryz.prog W (laSpecF ("unicode.White_Space", Rows.laid_unicode_White_Space)) seg := by
  rw [show laSpecF ("unicode.White_Space", Rows.laid_unicode_White_Space) = [] from by kernel_rfl]
  exact entry_none h
theorem la_e12 (W : World) (seg : List MemPlace) (h : EntryAt Tryz.prog W "strings.asciiSpace" Rows.laid_strings_asciiSpace seg) : EntryOk 24 Tryz.prog W (laSpecF ("strings.asciiSpace", Rows.laid_strings_asciiSpace)) seg := by
  rw [show laSpecF ("strings.asciiSpace", Rows.laid_strings_asciiSpace) = [(K.of 13, ([0, 0, 0, 0, 0, 0, 0, 0, 0, 1, 1, 1, 1, 1, 0, 0, 0, 0, 0, 0, 0, 0, 0, 0, 0, 0, 0, 0, 0, 0, 0, 0, 1, 0, 0, 0, 0, 0, 0, 0, 0, 0, 0, 0, 0, 0, 0, 0, 0, 0, 0, 0, 0, 0, 0, 0, 0, 0, 0, 0, 0, 0, 0, 0, 0, 0, 0, 0, 0, 0, 0, 0, 0, 0, 0, 0, 0, 0, 0, 0, 0, 0, 0, 0, 0, 0, 0, 0, 0, 0, 0, 0, 0, 0, 0, 0, 0, 0, 0, 0, 0, 0, 0, 0, 0, 0, 0, 0, 0, 0, 0, 0, 0, 0, 0, 0, 0, 0, 0, 0, 0, 0, 0, 0, 0, 0, 0, 0, 0, 0, 0, 0, 0, 0, 0, 0, 0, 0, 0, 0, 0, 0, 0, 0, 0, 0, 0, 0, 0, 0, 0, 0, 0, 0, 0, 0, 0, 0, 0, 0, 0, 0, 0, 0, 0, 0, 0, 0, 0, 0, 0, 0, 0, 0, 0, 0, 0, 0, 0, 0, 0, 0, 0, 0, 0, 0, 0, 0, 0, 0, 0, 0, 0, 0, 0, 0, 0, 0, 0, 0, 0, 0, 0, 0, 0, 0, 0, 0, 0, 0, 0, 0, 0, 0, 0, 0, 0, 0, 0, 0, 0, 0, 0, 0, 0, 0, 0, 0, 0, 0, 0, 0, 0, 0, 0, 0, 0, 0, 0, 0, 0, 0, 0, 0, 0, 0, 0, 0, 0, 0, 0, 0, 0, 0, 0, 0] : List Int).map fun x => .int .u8 x)] from by kernel_rfl]
  rw [show (Rows.laid_strings_asciiSpace : DataW Unit) = .agg (([0, 0, 0, 0, 0, 0, 0, 0, 0, 1, 1, 1, 1, 1, 0, 0, 0, 0, 0, 0, 0, 0, 0, 0, 0, 0, 0, 0, 0, 0, 0, 0, 1, 0, 0, 0, 0, 0, 0, 0, 0, 0, 0, 0, 0, 0, 0, 0, 0, 0, 0, 0, 0, 0, 0, 0, 0, 0, 0, 0, 0, 0, 0, 0, 0, 0, 0, 0, 0, 0, 0, 0, 0, 0, 0, 0, 0, 0, 0, 0, 0, 0, 0, 0, 0, 0, 0, 0, 0, 0, 0, 0, 0, 0, 0, 0, 0, 0, 0, 0, 0, 0, 0, 0, 0, 0, 0, 0, 0, 0, 0, 0, 0, 0, 0, 0, 0, 0, 0, 0, 0, 0, 0, 0, 0, 0, 0, 0, 0, 0, 0, 0, 0, 0, 0, 0, 0, 0, 0, 0, 0, 0, 0, 0, 0, 0, 0, 0, 0, 0, 0, 0, 0, 0, 0, 0, 0, 0, 0, 0, 0, 0, 0, 0, 0, 0, 0, 0, 0, 0, 0, 0, 0, 0, 0, 0, 0, 0, 0, 0, 0, 0, 0, 0, 0, 0, 0, 0, 0, 0, 0, 0, 0, 0, 0, 0, 0, 0, 0, 0, 0, 0, 0, 0, 0, 0, 0, 0, 0, 0, 0, 0, 0, 0, 0, 0, 0, 0, 0, 0, 0, 0, 0, 0, 0, 0, 0, 0, 0, 0, 0, 0, 0, 0, 0, 0, 0, 0, 0, 0, 0, 0, 0, 0, 0, 0, 0, 0, 0, 0, 0, 0, 0, 0, 0, 0] : List Int).map fun x => .lit (.int .u8 x)) from by kernel_rfl] at h
  exact entry_ints (by kernel_rfl) (by kernel_rfl : (Tryz.prog.globals[13]?).map (·.type) = some 190) (by kernel_rfl : Tryz.prog.underlying 190 = some (.array 256 5)) Tryz.underlying5 (by kernel_rfl) (by kernel_rfl) (by decide) h
theorem la_ok (W : World) : ∀ x ∈ Rows.lowerArcsRow.laid, ∀ seg, EntryAt Tryz.prog W x.1 x.2 seg → EntryOk 24 Tryz.prog W (laSpecF x) seg := by
  unfold Rows.lowerArcsRow
  simp only [List.forall_mem_cons, List.not_mem_nil, false_implies, implies_true, and_true]
  exact ⟨la_e0 W, la_e1 W, la_e2 W, la_e3 W, la_e4 W, la_e5 W, la_e6 W, la_e7 W, la_e8 W, la_e9 W, la_e10 W, la_e11 W, la_e12 W⟩
theorem la_nodup : (((Rows.lowerArcsRow.laid).flatMap laSpecF).map (·.1)).Nodup := by rw [la_flat]; decide +kernel
theorem la_lt : ∀ x ∈ (Rows.lowerArcsRow.laid).flatMap laSpecF, x.1.toNat < ((.xo (.xo (.xo (.xo (.xo (.xo (.xo .xh))))))) : K).toNat := by rw [la_flat]; decide +kernel
theorem la_glob : ∀ k, memN k ctx.globs = true → k < 24 := by
  intro k hk
  have h : ∀ (l : List Nat), (l.all fun x => Nat.blt x 24) = true → memN k l = true → k < 24 := by
    intro l
    induction l with
    | nil => intro _ h; simp [memN] at h
    | cons x r ih =>
      intro hl h
      simp only [List.all_cons, Bool.and_eq_true] at hl
      simp only [memN, Bool.or_eq_true, Nat.beq_eq] at h
      rcases h with h | h
      · have := hl.1; simp at this; omega
      · exact ih hl.2 h
  exact h ctx.globs (by kernel_rfl) hk
theorem la_calls (W : World) (hL : laidMet Tryz.prog Rows.lowerArcsRow.laid W) (hsh : W.ShapedOpen Tryz.prog) (p0 : Int) (p1 : Int) (p2 : Bool) :
    Calls Tryz.prog 9 #[.int .i64 p0, .int .i64 p1, .bool p2] W fun e W' => e = .returned (.bool true) ∧ Below W.heap.size W W' := by
  obtain ⟨H', hrun⟩ := la_run p0 p1 p2 (la_all p0 p1 p2)
  obtain ⟨g, hG, hS, hro⟩ := laid_start (gb := 24) hL (heap_size_of_shape hsh (n := 23) (by decide +kernel) (by kernel_rfl)) laSpecF (.xo (.xo (.xo (.xo (.xo (.xo (.xo .xh))))))) (la_ok W) la_nodup la_lt (by decide) (H := laH) (by rw [la_flat]; rfl) la_glob
  exact calls_true (C := ctx) (callF_ok hpts hmix tab1_ok 61) hrun (Args := #[.int .i64 p0, .int .i64 p1, .bool p2]) hG (.cons (.int _ _) (.cons (.int _ _) (.cons (.bool _) .nil))) hS hro
theorem la_door (os : Os) (args : Array Value) : laidMetH Tryz.prog Rows.lowerArcsRow.laid ((World.laidAll Tryz.prog os Rows.lowerArcsRow.laid).forCall (fun _ _ => 0) ⟨#[], args, []⟩).memory := by
  rw [MakeChecks.laidMetH_plain _ _ _ (by kernel_rfl)]; exact laidMet_laidAll _ (by kernel_rfl) (by kernel_rfl)
set_option maxRecDepth 100000 in
theorem la_lifted (os : Os) (started : os.Started) (H : Type) (enc : TypeId × Value → H) :
    ReturnsInHanded {} Tryz.checked os 9 .any (fun w args => (Rows.lowerArcsSpec.pre enc Tryz.prog Tryz.f9 [] false w args ∧ laidMetH Tryz.prog Rows.lowerArcsRow.laid w) ∧ sizedMet enc Tryz.prog Tryz.f9 (OpenSpec.ofChange Rows.lowerArcsSpec) false w args)
      (Rows.lowerArcsSpec.post enc Tryz.prog Tryz.f9 false true false false) := by
  refine returnsIn_laid_shaped (C := Tryz.checked) (X := fun w _ => laidMetH Tryz.prog Rows.lowerArcsRow.laid w) (fun _ _ _ hh h => h.of_heap hh) la_own started (by kernel_rfl) Tryz.func9
    (ChangeSpec.witness_shaped (enc := enc) (C := Tryz.checked) (os := os) (X := fun w _ => laidMetH Tryz.prog Rows.lowerArcsRow.laid w) false (World.laidAll Tryz.prog os Rows.lowerArcsRow.laid) #[.int .i64 0, .int .i64 0, .bool false] 8 (World.laidAll_os _ _ _) (World.shaped_of_ZipB (by kernel_rfl) (by kernel_rfl)) (by kernel_rfl) (by kernel_rfl) (by kernel_rfl) (la_door os _)) ?_
  intro W base args ds gs before hval0 hW _ _ hL hsh _
  have hval : ∀ (j : Nat) t v, Tryz.f9.params[j]? = some t → args[j]? = some v → Value.okWide Tryz.prog W .any base t v := hval0
  have hW' := hW
  obtain ⟨p, q, hA0, hV0, rfl, hfz, hnd⟩ := hW
  have hA : DataW.TrodAll enc Tryz.prog W 0 (fun _ => true) true Tryz.f9.params.toList args.toList ds p := hA0
  have hV : DataW.TrodVars enc Tryz.prog W (fun _ => true) [] gs q := hV0
  rw [Tryz.params9] at hA hval
  obtain ⟨v0, v1, v2, d0, d1, d2, q0, q1, q2, rfl, rfl, rfl, h0, h1, h2⟩ := trodAll_three hA
  obtain ⟨n0, rfl, rfl, rfl, w0⟩ := open_int Tryz.underlying3 (hval 0 3 v0 rfl rfl) h0
  obtain ⟨n1, rfl, rfl, rfl, w1⟩ := open_int Tryz.underlying3 (hval 1 3 v1 rfl rfl) h1
  obtain ⟨n2, rfl, rfl, rfl⟩ := open_bool Tryz.underlying4 (hval 2 4 v2 rfl rfl) h2
  obtain ⟨rfl, rfl⟩ : gs = [] ∧ q = [] := by
    cases gs with
    | nil => exact ⟨rfl, hV⟩
    | cons g r => exact absurd hV (by intro h; cases h)
  have e1 : Rows.lowerArcsSpec.fn H ([.lit (.int .i64 n0), .lit (.int .i64 n1), .lit (.bool n2)] ++ []) = { results := [.lit (.bool true)], args := [.lit (.int .i64 n0), .lit (.int .i64 n1), .lit (.bool n2)] } := by simp [Rows.lowerArcsSpec]
  rw [MakeChecks.laidMetH_plain _ _ _ (by kernel_rfl)] at hL
  refine (la_calls W hL hsh n0 n1 n2).mono fun e W' ⟨he, hb⟩ => ?_
  subst he
  refine ⟨_, rfl, _, _, _, [], [], [], hW', ?_, ?_, ?_, hb.frame _, fun h => by cases h⟩
  · rw [e1]; exact trodAll_mk1 (shut_bool Tryz.underlying4 true)
  · rw [e1]; exact trodAll_mk3 (shut_int Tryz.underlying3 w0) (shut_int Tryz.underlying3 w1) (shut_bool Tryz.underlying4 _)
  · rw [e1]; rfl
theorem la_said : Rows.LowerArcsSaid :=
  OpenClaim.holds_of_wide 9 Tryz.f9 rfl rfl rfl rfl rfl rfl rfl ⟨rfl, rfl, rfl, rfl, rfl⟩ rfl rfl rfl rfl rfl (by kernel_rfl) Tryz.func9 (by kernel_rfl)
    (of_decide_eq_true (by kernel_rfl)) (by unfold Func.isWrapper; first | (rw [if_pos (by decide +kernel)]; kernel_rfl) | (rw [if_neg (by decide +kernel)]; exact ⟨rfl, rfl⟩))
    (fun os started H enc _ => la_lifted os started H enc)
theorem la_holds : Rows.LowerArcsCardSaid :=
  Claim7.holds_tied_plain_at .later [] [.data, .data, .data, .sentinel, .sentinel, .sentinel, .sentinel, .sentinel, .sentinel, .sentinel, .sentinel, .listed, .data] true (true, "5cd1e3313c60d7d6f13e53a10fc83fea3220df1c2e46ef070287c46080ffe0b4") true
    la_said (fun _ h => by cases h) (by kernel_rfl) (fun _ h => by cases h) lowerArcs_row_tie rfl ⟨rfl, rfl⟩ (by kernel_rfl) rfl
    (fun f fn hf hfn => by
      obtain rfl : f = 9 := Option.some.inj ((show Tryz.prog.funcNamed "glyphic/glyphiclaw17.LowerArcs" = some 9 by kernel_rfl).symm.trans hf) |>.symm
      obtain rfl : fn = Tryz.f9 := (Option.some.inj (Tryz.func9.symm.trans hfn)).symm
      exact ⟨by kernel_rfl, fun j t ht => by
        rw [Tryz.params9] at ht
        have hm : t ∈ [3, 3, 4] := by simpa using Array.mem_of_getElem? ht
        have hall : ([3, 3, 4].all fun u => !Tryz.prog.wantsStandIn u) = true := by kernel_rfl
        exact (show Tryz.prog.wantsStandIn t = false by simpa using List.all_eq_true.1 hall t hm)⟩)
    (by kernel_rfl)
#print axioms la_holds
end Go.Proofs.YthbfgbfgkkhoiaaGreatDoor

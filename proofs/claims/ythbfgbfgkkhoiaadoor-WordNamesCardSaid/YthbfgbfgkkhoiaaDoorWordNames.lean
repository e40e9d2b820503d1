/- The law WordNames answers true for every input, and leaves what was there as it was; its card. Conditions: none beyond the row's own (the listed variables hold what the program lays). -/
import Derived.Test.YthbfgbfgkkhoiaaDoorAx5
import Derived.Test.YthbfgbfgkkhoiaaDoorWordNamesC
import Derived.Test.YthbfgbfgkkhoiaaDoorRows
import Derived.Test.YthbfgbfgkkhoiaaDoorCards
import Derived.Test.YthbfgbfgkkhoiaaDoorTie
import Derived.ProofKit
import Derived.LaidMore
import Derived.OpenShut
import Derived.Stop.Joined
import Derived.SevenTiedAt
import Derived.KernelRfl
set_option maxRecDepth 100000
namespace Go.Proofs.YthbfgbfgkkhoiaaDoor
open Go Go.Ax Go.ChangeShapes Go.WideShapes Go.ChangeAt Go.WideMaps Go.WideElems Go.RowKit
theorem wn_own : ownKnob Tryd.prog.godebug = Option.none := by kernel_rfl
theorem wn_star : "*" ++ "errors.errorString" = "*errors.errorString" := by decide
theorem wn_row (u : TypeId) (h : Tryd.prog.typeName? 3 u = some "*errors.errorString") : u = 152 :=
  typeName_ptr_named (nm := "errors.errorString") (by rw [wn_star]; kernel_rfl) (by kernel_rfl) (by decide) u (by rw [wn_star]; exact h)
theorem wn_c1 : Tryd.prog.cellsOf 154 = 1 := by kernel_rfl
theorem wn_c2 : Tryd.prog.cellsOf 9 = 1 := by kernel_rfl
noncomputable def wnNames : List String := ["glyphic/api.ErrText", "glyphic/api.ErrName", "glyphic/api.ErrTwice", "glyphic/api.ErrPath", "glyphic/api.ErrRange", "glyphic/api.ErrLimit", "glyphic/api.ErrShort", "glyphic/api.ErrMagic", "glyphic/api.ErrVarint", "glyphic/api.ErrCanon", "glyphic/api.ErrTrail", "glyphic/api.ErrWidth", "glyphic/api.ErrBudget", "unicode.White_Space", "strings.asciiSpace"]
noncomputable def wnSpecF (x : String × DataW Unit) : List (K × List AV) := ((wnNames.zip wnSpec).lookup x.1).getD []
theorem wn_flat : (Rows.wordNamesRow.laid).flatMap wnSpecF = wnSpec.flatten := by kernel_rfl
theorem wn_e0 (W : World) (seg : List MemPlace) (h : EntryAt Tryd.prog W "glyphic/api.ErrText" Rows.laid_glyphic_api_ErrText seg) : EntryOk 24 Tryd.prog W (wnSpecF ("glyphic/api.ErrText", Rows.laid_glyphic_api_ErrText)) seg := by
  rw [show wnSpecF ("glyphic/api.ErrText", Rows.laid_glyphic_api_ErrText) = [(K.of 1, [.iface 152 (.ptr (.xo (.xi (.xo (.xo (.xo (.xo .xh)))))) 0)]), ((.xo (.xi (.xo (.xo (.xo (.xo .xh)))))), [.str ([110, 111, 116, 32, 97, 115, 32, 105, 116, 32, 105, 115, 32, 119, 114, 105, 116, 116, 101, 110] : List UInt8).length (pack ([110, 111, 116, 32, 97, 115, 32, 105, 116, 32, 105, 115, 32, 119, 114, 105, 116, 116, 101, 110] : List UInt8))])] from by kernel_rfl]
  exact entry_sent (.xo (.xi (.xo (.xo (.xo (.xo .xh)))))) (by decide) (by kernel_rfl) (by kernel_rfl : (Tryd.prog.globals[1]?).map (·.type) = some 26) Tryd.underlying26 wn_row Tryd.underlying152 Tryd.underlying154 rfl rfl Tryd.underlying9 wn_c1 wn_c2 h
theorem wn_e1 (W : World) (seg : List MemPlace) (h : EntryAt Tryd.prog W "glyphic/api.ErrName" Rows.laid_glyphic_api_ErrName seg) : EntryOk 24 Tryd.prog W (wnSpecF ("glyphic/api.ErrName", Rows.laid_glyphic_api_ErrName)) seg := by
  rw [show wnSpecF ("glyphic/api.ErrName", Rows.laid_glyphic_api_ErrName) = [(K.of 3, [.iface 152 (.ptr (.xo (.xo (.xi (.xo (.xo (.xo .xh)))))) 0)]), ((.xo (.xo (.xi (.xo (.xo (.xo .xh)))))), [.str ([97, 32, 110, 97, 109, 101, 32, 116, 104, 97, 116, 32, 105, 115, 32, 110, 111, 98, 111, 100, 121, 39, 115] : List UInt8).length (pack ([97, 32, 110, 97, 109, 101, 32, 116, 104, 97, 116, 32, 105, 115, 32, 110, 111, 98, 111, 100, 121, 39, 115] : List UInt8))])] from by kernel_rfl]
  exact entry_sent (.xo (.xo (.xi (.xo (.xo (.xo .xh)))))) (by decide) (by kernel_rfl) (by kernel_rfl : (Tryd.prog.globals[3]?).map (·.type) = some 26) Tryd.underlying26 wn_row Tryd.underlying152 Tryd.underlying154 rfl rfl Tryd.underlying9 wn_c1 wn_c2 h
theorem wn_e2 (W : World) (seg : List MemPlace) (h : EntryAt Tryd.prog W "glyphic/api.ErrTwice" Rows.laid_glyphic_api_ErrTwice seg) : EntryOk 24 Tryd.prog W (wnSpecF ("glyphic/api.ErrTwice", Rows.laid_glyphic_api_ErrTwice)) seg := by
  rw [show wnSpecF ("glyphic/api.ErrTwice", Rows.laid_glyphic_api_ErrTwice) = [(K.of 4, [.iface 152 (.ptr (.xi (.xo (.xi (.xo (.xo (.xo .xh)))))) 0)]), ((.xi (.xo (.xi (.xo (.xo (.xo .xh)))))), [.str ([97, 32, 110, 97, 109, 101, 32, 116, 119, 105, 99, 101] : List UInt8).length (pack ([97, 32, 110, 97, 109, 101, 32, 116, 119, 105, 99, 101] : List UInt8))])] from by kernel_rfl]
  exact entry_sent (.xi (.xo (.xi (.xo (.xo (.xo .xh)))))) (by decide) (by kernel_rfl) (by kernel_rfl : (Tryd.prog.globals[4]?).map (·.type) = some 26) Tryd.underlying26 wn_row Tryd.underlying152 Tryd.underlying154 rfl rfl Tryd.underlying9 wn_c1 wn_c2 h
theorem wn_e3 (W : World) (seg : List MemPlace) (h : EntryAt Tryd.prog W "glyphic/api.ErrPath" Rows.laid_glyphic_api_ErrPath seg) : EntryOk 24 Tryd.prog W (wnSpecF ("glyphic/api.ErrPath", Rows.laid_glyphic_api_ErrPath)) seg := by
  rw [show wnSpecF ("glyphic/api.ErrPath", Rows.laid_glyphic_api_ErrPath) = [(K.of 5, [.iface 152 (.ptr (.xo (.xi (.xi (.xo (.xo (.xo .xh)))))) 0)]), ((.xo (.xi (.xi (.xo (.xo (.xo .xh)))))), [.str ([115, 116, 101, 112, 115, 32, 116, 104, 97, 116, 32, 97, 114, 101, 32, 110, 111, 32, 112, 97, 116, 104] : List UInt8).length (pack ([115, 116, 101, 112, 115, 32, 116, 104, 97, 116, 32, 97, 114, 101, 32, 110, 111, 32, 112, 97, 116, 104] : List UInt8))])] from by kernel_rfl]
  exact entry_sent (.xo (.xi (.xi (.xo (.xo (.xo .xh)))))) (by decide) (by kernel_rfl) (by kernel_rfl : (Tryd.prog.globals[5]?).map (·.type) = some 26) Tryd.underlying26 wn_row Tryd.underlying152 Tryd.underlying154 rfl rfl Tryd.underlying9 wn_c1 wn_c2 h
theorem wn_e4 (W : World) (seg : List MemPlace) (h : EntryAt Tryd.prog W "glyphic/api.ErrRange" Rows.laid_glyphic_api_ErrRange seg) : EntryOk 24 Tryd.prog W (wnSpecF ("glyphic/api.ErrRange", Rows.laid_glyphic_api_ErrRange)) seg := by
  rw [show wnSpecF ("glyphic/api.ErrRange", Rows.laid_glyphic_api_ErrRange) = [(K.of 6, [.iface 152 (.ptr (.xi (.xi (.xi (.xo (.xo (.xo .xh)))))) 0)]), ((.xi (.xi (.xi (.xo (.xo (.xo .xh)))))), [.str ([97, 32, 110, 117, 109, 98, 101, 114, 32, 111, 117, 116, 32, 111, 102, 32, 105, 116, 115, 32, 114, 97, 110, 103, 101] : List UInt8).length (pack ([97, 32, 110, 117, 109, 98, 101, 114, 32, 111, 117, 116, 32, 111, 102, 32, 105, 116, 115, 32, 114, 97, 110, 103, 101] : List UInt8))])] from by kernel_rfl]
  exact entry_sent (.xi (.xi (.xi (.xo (.xo (.xo .xh)))))) (by decide) (by kernel_rfl) (by kernel_rfl : (Tryd.prog.globals[6]?).map (·.type) = some 26) Tryd.underlying26 wn_row Tryd.underlying152 Tryd.underlying154 rfl rfl Tryd.underlying9 wn_c1 wn_c2 h
theorem wn_e5 (W : World) (seg : List MemPlace) (h : EntryAt Tryd.prog W "glyphic/api.ErrLimit" Rows.laid_glyphic_api_ErrLimit seg) : EntryOk 24 Tryd.prog W (wnSpecF ("glyphic/api.ErrLimit", Rows.laid_glyphic_api_ErrLimit)) seg := by
  rw [show wnSpecF ("glyphic/api.ErrLimit", Rows.laid_glyphic_api_ErrLimit) = [(K.of 0, [.iface 152 (.ptr (.xi (.xo (.xo (.xo (.xo (.xo .xh)))))) 0)]), ((.xi (.xo (.xo (.xo (.xo (.xo .xh)))))), [.str ([109, 111, 114, 101, 32, 116, 104, 97, 110, 32, 109, 97, 121, 32, 98, 101] : List UInt8).length (pack ([109, 111, 114, 101, 32, 116, 104, 97, 110, 32, 109, 97, 121, 32, 98, 101] : List UInt8))])] from by kernel_rfl]
  exact entry_sent (.xi (.xo (.xo (.xo (.xo (.xo .xh)))))) (by decide) (by kernel_rfl) (by kernel_rfl : (Tryd.prog.globals[0]?).map (·.type) = some 26) Tryd.underlying26 wn_row Tryd.underlying152 Tryd.underlying154 rfl rfl Tryd.underlying9 wn_c1 wn_c2 h
theorem wn_e6 (W : World) (seg : List MemPlace) (h : EntryAt Tryd.prog W "glyphic/api.ErrShort" Rows.laid_glyphic_api_ErrShort seg) : EntryOk 24 Tryd.prog W (wnSpecF ("glyphic/api.ErrShort", Rows.laid_glyphic_api_ErrShort)) seg := by
  rw [show wnSpecF ("glyphic/api.ErrShort", Rows.laid_glyphic_api_ErrShort) = [(K.of 7, [.iface 152 (.ptr (.xo (.xo (.xo (.xi (.xo (.xo .xh)))))) 0)]), ((.xo (.xo (.xo (.xi (.xo (.xo .xh)))))), [.str ([108, 101, 115, 115, 32, 116, 104, 97, 110, 32, 104, 97, 115, 32, 116, 111, 32, 98, 101] : List UInt8).length (pack ([108, 101, 115, 115, 32, 116, 104, 97, 110, 32, 104, 97, 115, 32, 116, 111, 32, 98, 101] : List UInt8))])] from by kernel_rfl]
  exact entry_sent (.xo (.xo (.xo (.xi (.xo (.xo .xh)))))) (by decide) (by kernel_rfl) (by kernel_rfl : (Tryd.prog.globals[7]?).map (·.type) = some 26) Tryd.underlying26 wn_row Tryd.underlying152 Tryd.underlying154 rfl rfl Tryd.underlying9 wn_c1 wn_c2 h
theorem wn_e7 (W : World) (seg : List MemPlace) (h : EntryAt Tryd.prog W "glyphic/api.ErrMagic" Rows.laid_glyphic_api_ErrMagic seg) : EntryOk 24 Tryd.prog W (wnSpecF ("glyphic/api.ErrMagic", Rows.laid_glyphic_api_ErrMagic)) seg := by
  rw [show wnSpecF ("glyphic/api.ErrMagic", Rows.laid_glyphic_api_ErrMagic) = [(K.of 8, [.iface 152 (.ptr (.xi (.xo (.xo (.xi (.xo (.xo .xh)))))) 0)]), ((.xi (.xo (.xo (.xi (.xo (.xo .xh)))))), [.str ([110, 111, 116, 32, 97, 110, 32, 105, 99, 111, 110] : List UInt8).length (pack ([110, 111, 116, 32, 97, 110, 32, 105, 99, 111, 110] : List UInt8))])] from by kernel_rfl]
  exact entry_sent (.xi (.xo (.xo (.xi (.xo (.xo .xh)))))) (by decide) (by kernel_rfl) (by kernel_rfl : (Tryd.prog.globals[8]?).map (·.type) = some 26) Tryd.underlying26 wn_row Tryd.underlying152 Tryd.underlying154 rfl rfl Tryd.underlying9 wn_c1 wn_c2 h
theorem wn_e8 (W : World) (seg : List MemPlace) (h : EntryAt Tryd.prog W "glyphic/api.ErrVarint" Rows.laid_glyphic_api_ErrVarint seg) : EntryOk 24 Tryd.prog W (wnSpecF ("glyphic/api.ErrVarint", Rows.laid_glyphic_api_ErrVarint)) seg := by
  rw [show wnSpecF ("glyphic/api.ErrVarint", Rows.laid_glyphic_api_ErrVarint) = [(K.of 9, [.iface 152 (.ptr (.xo (.xi (.xo (.xi (.xo (.xo .xh)))))) 0)]), ((.xo (.xi (.xo (.xi (.xo (.xo .xh)))))), [.str ([97, 32, 110, 117, 109, 98, 101, 114, 32, 116, 104, 97, 116, 32, 105, 115, 32, 110, 111, 116, 32, 119, 114, 105, 116, 116, 101, 110, 32, 115, 104, 111, 114, 116, 108, 121] : List UInt8).length (pack ([97, 32, 110, 117, 109, 98, 101, 114, 32, 116, 104, 97, 116, 32, 105, 115, 32, 110, 111, 116, 32, 119, 114, 105, 116, 116, 101, 110, 32, 115, 104, 111, 114, 116, 108, 121] : List UInt8))])] from by kernel_rfl]
  exact entry_sent (.xo (.xi (.xo (.xi (.xo (.xo .xh)))))) (by decide) (by kernel_rfl) (by kernel_rfl : (Tryd.prog.globals[9]?).map (·.type) = some 26) Tryd.underlying26 wn_row Tryd.underlying152 Tryd.underlying154 rfl rfl Tryd.underlying9 wn_c1 wn_c2 h
theorem wn_e9 (W : World) (seg : List MemPlace) (h : EntryAt Tryd.prog W "glyphic/api.ErrCanon" Rows.laid_glyphic_api_ErrCanon seg) : EntryOk 24 Tryd.prog W (wnSpecF ("glyphic/api.ErrCanon", Rows.laid_glyphic_api_ErrCanon)) seg := by
  rw [show wnSpecF ("glyphic/api.ErrCanon", Rows.laid_glyphic_api_ErrCanon) = [(K.of 10, [.iface 152 (.ptr (.xi (.xi (.xo (.xi (.xo (.xo .xh)))))) 0)]), ((.xi (.xi (.xo (.xi (.xo (.xo .xh)))))), [.str ([110, 111, 116, 32, 116, 104, 101, 32, 111, 110, 101, 32, 102, 111, 114, 109] : List UInt8).length (pack ([110, 111, 116, 32, 116, 104, 101, 32, 111, 110, 101, 32, 102, 111, 114, 109] : List UInt8))])] from by kernel_rfl]
  exact entry_sent (.xi (.xi (.xo (.xi (.xo (.xo .xh)))))) (by decide) (by kernel_rfl) (by kernel_rfl : (Tryd.prog.globals[10]?).map (·.type) = some 26) Tryd.underlying26 wn_row Tryd.underlying152 Tryd.underlying154 rfl rfl Tryd.underlying9 wn_c1 wn_c2 h
theorem wn_e10 (W : World) (seg : List MemPlace) (h : EntryAt Tryd.prog W "glyphic/api.ErrTrail" Rows.laid_glyphic_api_ErrTrail seg) : EntryOk 24 Tryd.prog W (wnSpecF ("glyphic/api.ErrTrail", Rows.laid_glyphic_api_ErrTrail)) seg := by
  rw [show wnSpecF ("glyphic/api.ErrTrail", Rows.laid_glyphic_api_ErrTrail) = [(K.of 11, [.iface 152 (.ptr (.xo (.xo (.xi (.xi (.xo (.xo .xh)))))) 0)]), ((.xo (.xo (.xi (.xi (.xo (.xo .xh)))))), [.str ([98, 121, 116, 101, 115, 32, 98, 101, 104, 105, 110, 100, 32, 116, 104, 101, 32, 101, 110, 100] : List UInt8).length (pack ([98, 121, 116, 101, 115, 32, 98, 101, 104, 105, 110, 100, 32, 116, 104, 101, 32, 101, 110, 100] : List UInt8))])] from by kernel_rfl]
  exact entry_sent (.xo (.xo (.xi (.xi (.xo (.xo .xh)))))) (by decide) (by kernel_rfl) (by kernel_rfl : (Tryd.prog.globals[11]?).map (·.type) = some 26) Tryd.underlying26 wn_row Tryd.underlying152 Tryd.underlying154 rfl rfl Tryd.underlying9 wn_c1 wn_c2 h
theorem wn_e11 (W : World) (seg : List MemPlace) (h : EntryAt Tryd.prog W "glyphic/api.ErrWidth" Rows.laid_glyphic_api_ErrWidth seg) : EntryOk 24 Tryd.prog W (wnSpecF ("glyphic/api.ErrWidth", Rows.laid_glyphic_api_ErrWidth)) seg := by
  rw [show wnSpecF ("glyphic/api.ErrWidth", Rows.laid_glyphic_api_ErrWidth) = [(K.of 12, [.iface 152 (.ptr (.xi (.xo (.xi (.xi (.xo (.xo .xh)))))) 0)]), ((.xi (.xo (.xi (.xi (.xo (.xo .xh)))))), [.str ([97, 32, 119, 105, 100, 116, 104, 32, 116, 104, 97, 116, 32, 99, 97, 110, 39, 116, 32, 98, 101] : List UInt8).length (pack ([97, 32, 119, 105, 100, 116, 104, 32, 116, 104, 97, 116, 32, 99, 97, 110, 39, 116, 32, 98, 101] : List UInt8))])] from by kernel_rfl]
  exact entry_sent (.xi (.xo (.xi (.xi (.xo (.xo .xh)))))) (by decide) (by kernel_rfl) (by kernel_rfl : (Tryd.prog.globals[12]?).map (·.type) = some 26) Tryd.underlying26 wn_row Tryd.underlying152 Tryd.underlying154 rfl rfl Tryd.underlying9 wn_c1 wn_c2 h
theorem wn_e12 (W : World) (seg : List MemPlace) (h : EntryAt Tryd.prog W "glyphic/api.ErrBudget" Rows.laid_glyphic_api_ErrBudget seg) : EntryOk 24 Tryd.prog W (wnSpecF ("glyphic/api.ErrBudget", Rows.laid_glyphic_api_ErrBudget)) seg := by
  rw [show wnSpecF ("glyphic/api.ErrBudget", Rows.laid_glyphic_api_ErrBudget) = [(K.of 13, [.iface 152 (.ptr (.xo (.xi (.xi (.xi (.xo (.xo .xh)))))) 0)]), ((.xo (.xi (.xi (.xi (.xo (.xo .xh)))))), [.str ([109, 111, 114, 101, 32, 101, 100, 103, 101, 115, 32, 116, 104, 97, 110, 32, 109, 97, 121, 32, 98, 101] : List UInt8).length (pack ([109, 111, 114, 101, 32, 101, 100, 103, 101, 115, 32, 116, 104, 97, 110, 32, 109, 97, 121, 32, 98, 101] : List UInt8))])] from by kernel_rfl]
  exact entry_sent (.xo (.xi (.xi (.xi (.xo (.xo .xh)))))) (by decide) (by kernel_rfl) (by kernel_rfl : (Tryd.prog.globals[13]?).map (·.type) = some 26) Tryd.underlying26 wn_row Tryd.underlying152 Tryd.underlying154 rfl rfl Tryd.underlying9 wn_c1 wn_c2 h
theorem wn_e13 (W : World) (seg : List MemPlace) (h : EntryAt Tryd.prog W "unicode.White_Space" Rows.laid_unicode_White_Space seg) : EntryOk 24 Tryd.prog W (wnSpecF ("unicode.White_Space", Rows.laid_unicode_White_Space)) seg := by
  rw [show wnSpecF ("unicode.White_Space", Rows.laid_unicode_White_Space) = [] from by kernel_rfl]
  exact entry_none h
theorem wn_e14 (W : World) (seg : List MemPlace) (h : EntryAt Tryd.prog W "strings.asciiSpace" Rows.laid_strings_asciiSpace seg) : EntryOk 24 Tryd.prog W (wnSpecF ("strings.asciiSpace", Rows.laid_strings_asciiSpace)) seg := by
  rw [show wnSpecF ("strings.asciiSpace", Rows.laid_strings_asciiSpace) = [(K.of 2, ([0, 0, 0, 0, 0, 0, 0, 0, 0, 1, 1, 1, 1, 1, 0, 0, 0, 0, 0, 0, 0, 0, 0, 0, 0, 0, 0, 0, 0, 0, 0, 0, 1, 0, 0, 0, 0, 0, 0, 0, 0, 0, 0, 0, 0, 0, 0, 0, 0, 0, 0, 0, 0, 0, 0, 0, 0, 0, 0, 0, 0, 0, 0, 0, 0, 0, 0, 0, 0, 0, 0, 0, 0, 0, 0, 0, 0, 0, 0, 0, 0, 0, 0, 0, 0, 0, 0, 0, 0, 0, 0, 0, 0, 0, 0, 0, 0, 0, 0, 0, 0, 0, 0, 0, 0, 0, 0, 0, 0, 0, 0, 0, 0, 0, 0, 0, 0, 0, 0, 0, 0, 0, 0, 0, 0, 0, 0, 0, 0, 0, 0, 0, 0, 0, 0, 0, 0, 0, 0, 0, 0, 0, 0, 0, 0, 0, 0, 0, 0, 0, 0, 0, 0, 0, 0, 0, 0, 0, 0, 0, 0, 0, 0, 0, 0, 0, 0, 0, 0, 0, 0, 0, 0, 0, 0, 0, 0, 0, 0, 0, 0, 0, 0, 0, 0, 0, 0, 0, 0, 0, 0, 0, 0, 0, 0, 0, 0, 0, 0, 0, 0, 0, 0, 0, 0, 0, 0, 0, 0, 0, 0, 0, 0, 0, 0, 0, 0, 0, 0, 0, 0, 0, 0, 0, 0, 0, 0, 0, 0, 0, 0, 0, 0, 0, 0, 0, 0, 0, 0, 0, 0, 0, 0, 0, 0, 0, 0, 0, 0, 0, 0, 0, 0, 0, 0, 0] : List Int).map fun x => .int .u8 x)] from by kernel_rfl]
  rw [show (Rows.laid_strings_asciiSpace : DataW Unit) = .agg (([0, 0, 0, 0, 0, 0, 0, 0, 0, 1, 1, 1, 1, 1, 0, 0, 0, 0, 0, 0, 0, 0, 0, 0, 0, 0, 0, 0, 0, 0, 0, 0, 1, 0, 0, 0, 0, 0, 0, 0, 0, 0, 0, 0, 0, 0, 0, 0, 0, 0, 0, 0, 0, 0, 0, 0, 0, 0, 0, 0, 0, 0, 0, 0, 0, 0, 0, 0, 0, 0, 0, 0, 0, 0, 0, 0, 0, 0, 0, 0, 0, 0, 0, 0, 0, 0, 0, 0, 0, 0, 0, 0, 0, 0, 0, 0, 0, 0, 0, 0, 0, 0, 0, 0, 0, 0, 0, 0, 0, 0, 0, 0, 0, 0, 0, 0, 0, 0, 0, 0, 0, 0, 0, 0, 0, 0, 0, 0, 0, 0, 0, 0, 0, 0, 0, 0, 0, 0, 0, 0, 0, 0, 0, 0, 0, 0, 0, 0, 0, 0, 0, 0, 0, 0, 0, 0, 0, 0, 0, 0, 0, 0, 0, 0, 0, 0, 0, 0, 0, 0, 0, 0, 0, 0, 0, 0, 0, 0, 0, 0, 0, 0, 0, 0, 0, 0, 0, 0, 0, 0, 0, 0, 0, 0, 0, 0, 0, 0, 0, 0, 0, 0, 0, 0, 0, 0, 0, 0, 0, 0, 0, 0, 0, 0, 0, 0, 0, 0, 0, 0, 0, 0, 0, 0, 0, 0, 0, 0, 0, 0, 0, 0, 0, 0, 0, 0, 0, 0, 0, 0, 0, 0, 0, 0, 0, 0, 0, 0, 0, 0, 0, 0, 0, 0, 0, 0] : List Int).map fun x => .lit (.int .u8 x)) from by kernel_rfl] at h
  exact entry_ints (by kernel_rfl) (by kernel_rfl : (Tryd.prog.globals[2]?).map (·.type) = some 87) (by kernel_rfl : Tryd.prog.underlying 87 = some (.array 256 5)) Tryd.underlying5 (by kernel_rfl) (by kernel_rfl) (by decide) h
theorem wn_ok (W : World) : ∀ x ∈ Rows.wordNamesRow.laid, ∀ seg, EntryAt Tryd.prog W x.1 x.2 seg → EntryOk 24 Tryd.prog W (wnSpecF x) seg := by
  unfold Rows.wordNamesRow
  simp only [List.forall_mem_cons, List.not_mem_nil, false_implies, implies_true, and_true]
  exact ⟨wn_e0 W, wn_e1 W, wn_e2 W, wn_e3 W, wn_e4 W, wn_e5 W, wn_e6 W, wn_e7 W, wn_e8 W, wn_e9 W, wn_e10 W, wn_e11 W, wn_e12 W, wn_e13 W, wn_e14 W⟩
theorem wn_nodup : (((Rows.wordNamesRow.laid).flatMap wnSpecF).map (·.1)).Nodup := by rw [wn_flat]; decide +kernel
theorem wn_lt : ∀ x ∈ (Rows.wordNamesRow.laid).flatMap wnSpecF, x.1.toNat < ((.xo (.xo (.xo (.xo (.xo (.xo (.xo .xh))))))) : K).toNat := by rw [wn_flat]; decide +kernel
theorem wn_glob : ∀ k, memN k ctx.globs = true → k < 24 := by
  intro k hk
  have h : ∀ (l : List Nat), (l.all fun x => Nat.blt x 24) = true → memN k l = true → k < 24 := by
    intro l
    induction l with
    | nil => intro _ h; simp [memN] at h
    | cons x r ih =>
      intro hl h
      simp only [List.all_cons, Bool.and_eq_true] at hl
      simp only [memN, Bool.or_eq_true, Nat.beq_eq] at h
      rcases h with h | h
      · have := hl.1; simp at this; omega
      · exact ih hl.2 h
  exact h ctx.globs (by kernel_rfl) hk
theorem wn_calls (W : World) (hL : laidMet Tryd.prog Rows.wordNamesRow.laid W) (hsh : W.ShapedOpen Tryd.prog) (p0 : Int) (p1 : Int) :
    Calls Tryd.prog 4 #[.int .i64 p0, .int .i64 p1] W fun e W' => e = .returned (.bool true) ∧ Below W.heap.size W W' := by
  obtain ⟨H', hrun⟩ := wn_run p0 p1 (wn_all p0 p1)
  obtain ⟨g, hG, hS, hro⟩ := laid_start (gb := 24) hL (heap_size_of_shape hsh (n := 23) (by decide +kernel) (by kernel_rfl)) wnSpecF (.xo (.xo (.xo (.xo (.xo (.xo (.xo .xh))))))) (wn_ok W) wn_nodup wn_lt (by decide) (H := wnH) (by rw [wn_flat]; rfl) wn_glob
  exact calls_true (C := ctx) (callF_ok hpts hmix tab2_ok 61) hrun (Args := #[.int .i64 p0, .int .i64 p1]) hG (.cons (.int _ _) (.cons (.int _ _) .nil)) hS hro
theorem wn_door (os : Os) (args : Array Value) : laidMetH Tryd.prog Rows.wordNamesRow.laid ((World.doorLaid Tryd.prog 1000 os).forCall (fun _ _ => 0) ⟨#[], args, []⟩).memory :=
  laidMetH_of_parts3 (fuel := 8) (laidMet_of_run' 8 (by kernel_rfl) (by kernel_rfl)) (by kernel_rfl) (by kernel_rfl)
set_option maxRecDepth 100000 in
theorem wn_lifted (os : Os) (started : os.Started) (H : Type) (enc : TypeId × Value → H) :
    ReturnsInHanded {} Tryd.checked os 4 .any (fun w args => (Rows.wordNamesSpec.pre enc Tryd.prog Tryd.f4 [] false w args ∧ laidMetH Tryd.prog Rows.wordNamesRow.laid w) ∧ sizedMet enc Tryd.prog Tryd.f4 (OpenSpec.ofChange Rows.wordNamesSpec) false w args)
      (Rows.wordNamesSpec.post enc Tryd.prog Tryd.f4 false true false false) := by
  refine returnsIn_laid_shaped (C := Tryd.checked) (X := fun w _ => laidMetH Tryd.prog Rows.wordNamesRow.laid w) (fun _ _ _ hh h => h.of_heap hh) wn_own started (by kernel_rfl) Tryd.func4
    (ChangeSpec.witness_shaped (enc := enc) (C := Tryd.checked) (os := os) (X := fun w _ => laidMetH Tryd.prog Rows.wordNamesRow.laid w) false (World.doorLaid Tryd.prog 1000 os) #[.int .i64 0, .int .i64 0] 8 rfl (World.shaped_of_RefB (by kernel_rfl) (by kernel_rfl)) (by kernel_rfl) (by kernel_rfl) (by kernel_rfl) (wn_door os _)) ?_
  intro W base args ds gs before hval0 hW _ _ hL hsh _
  have hval : ∀ (j : Nat) t v, Tryd.f4.params[j]? = some t → args[j]? = some v → Value.okWide Tryd.prog W .any base t v := hval0
  have hW' := hW
  obtain ⟨p, q, hA0, hV0, rfl, hfz, hnd⟩ := hW
  have hA : DataW.TrodAll enc Tryd.prog W 0 (fun _ => true) true Tryd.f4.params.toList args.toList ds p := hA0
  have hV : DataW.TrodVars enc Tryd.prog W (fun _ => true) [] gs q := hV0
  rw [Tryd.params4] at hA hval
  obtain ⟨v0, v1, d0, d1, q0, q1, rfl, rfl, rfl, h0, h1⟩ := trodAll_two hA
  obtain ⟨n0, rfl, rfl, rfl, w0⟩ := open_int Tryd.underlying3 (hval 0 3 v0 rfl rfl) h0
  obtain ⟨n1, rfl, rfl, rfl, w1⟩ := open_int Tryd.underlying3 (hval 1 3 v1 rfl rfl) h1
  obtain ⟨rfl, rfl⟩ : gs = [] ∧ q = [] := by
    cases gs with
    | nil => exact ⟨rfl, hV⟩
    | cons g r => exact absurd hV (by intro h; cases h)
  have e1 : Rows.wordNamesSpec.fn H ([.lit (.int .i64 n0), .lit (.int .i64 n1)] ++ []) = { results := [.lit (.bool true)], args := [.lit (.int .i64 n0), .lit (.int .i64 n1)] } := by simp [Rows.wordNamesSpec]
  rw [MakeChecks.laidMetH_plain _ _ _ (by kernel_rfl)] at hL
  refine (wn_calls W hL hsh n0 n1).mono fun e W' ⟨he, hb⟩ => ?_
  subst he
  refine ⟨_, rfl, _, _, _, [], [], [], hW', ?_, ?_, ?_, hb.frame _, fun h => by cases h⟩
  · rw [e1]; exact trodAll_mk1 (shut_bool Tryd.underlying4 true)
  · rw [e1]; exact trodAll_mk2 (shut_int Tryd.underlying3 w0) (shut_int Tryd.underlying3 w1)
  · rw [e1]; rfl
theorem wn_said : Rows.WordNamesSaid :=
  OpenClaim.holds_of_wide 4 Tryd.f4 rfl rfl rfl rfl rfl rfl rfl ⟨rfl, rfl, rfl, rfl, rfl⟩ rfl rfl rfl rfl rfl (by kernel_rfl) Tryd.func4 (by kernel_rfl)
    (of_decide_eq_true (by kernel_rfl)) (by unfold Func.isWrapper; first | (rw [if_pos (by decide +kernel)]; kernel_rfl) | (rw [if_neg (by decide +kernel)]; exact ⟨rfl, rfl⟩))
    (fun os started H enc _ => wn_lifted os started H enc)
theorem wn_holds : Rows.WordNamesCardSaid :=
  Claim7.holds_tied_plain_at .later [] [.sentinel, .sentinel, .sentinel, .sentinel, .sentinel, .sentinel, .sentinel, .sentinel, .sentinel, .sentinel, .sentinel, .sentinel, .sentinel, .listed, .data] true (true, "1fe820792af6624bce867b6f34df44da5bdc42d1c74a2d6407b4822bebeccfe4") true
    wn_said (fun _ h => by cases h) (by kernel_rfl) (fun _ h => by cases h) wordNames_row_tie rfl ⟨rfl, rfl⟩ (by kernel_rfl) rfl
    (fun f fn hf hfn => by
      obtain rfl : f = 4 := Option.some.inj ((show Tryd.prog.funcNamed "glyphic/glyphiclaw8.WordNames" = some 4 by kernel_rfl).symm.trans hf) |>.symm
      obtain rfl : fn = Tryd.f4 := (Option.some.inj (Tryd.func4.symm.trans hfn)).symm
      exact ⟨by kernel_rfl, fun j t ht => by
        rw [Tryd.params4] at ht
        have hm : t ∈ [3, 3] := by simpa using Array.mem_of_getElem? ht
        have hall : ([3, 3].all fun u => !Tryd.prog.wantsStandIn u) = true := by kernel_rfl
        exact (show Tryd.prog.wantsStandIn t = false by simpa using List.all_eq_true.1 hall t hm)⟩)
    (by kernel_rfl)
#print axioms wn_holds
end Go.Proofs.YthbfgbfgkkhoiaaDoor

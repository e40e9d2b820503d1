/-
  DERIVED. GIVEN WITH THE SEED: THE PROGRAM's TIES (one call each: nine closed facts by the kernel) AND EACH ROW's TIE, after the 31st guide's Derived/Test/Toyas{Tie, Card}.lean. No idea stands in it: it is a product of the set-up. Laid BY PROGRAM, IN A SANDBOX (cutbox-door.mjs). By AI agents, Wed Nov 11 2026. No macro, syntax, notation, axiom, sorry.
-/
import Derived.Test.YthbfgbfgkkhoiaaDoorRows
import Derived.LaidByTextLater
import Derived.SevenTiedAt
import Derived.LaidSub
import Derived.LaidOnce
namespace Go.Proofs.YthbfgbfgkkhoiaaDoor
open Go
set_option maxRecDepth 100000
theorem seatTie1 : Tryd.prog.laidByTextLater [("glyphic/api.ErrText", Rows.laid_glyphic_api_ErrText), ("glyphic/api.ErrName", Rows.laid_glyphic_api_ErrName), ("glyphic/api.ErrTwice", Rows.laid_glyphic_api_ErrTwice), ("glyphic/api.ErrPath", Rows.laid_glyphic_api_ErrPath), ("glyphic/api.ErrRange", Rows.laid_glyphic_api_ErrRange), ("glyphic/api.ErrLimit", Rows.laid_glyphic_api_ErrLimit), ("glyphic/api.ErrShort", Rows.laid_glyphic_api_ErrShort), ("glyphic/api.ErrMagic", Rows.laid_glyphic_api_ErrMagic), ("glyphic/api.ErrVarint", Rows.laid_glyphic_api_ErrVarint), ("glyphic/api.ErrCanon", Rows.laid_glyphic_api_ErrCanon), ("glyphic/api.ErrTrail", Rows.laid_glyphic_api_ErrTrail), ("glyphic/api.ErrWidth", Rows.laid_glyphic_api_ErrWidth), ("glyphic/api.ErrBudget", Rows.laid_glyphic_api_ErrBudget), ("unicode.White_Space", Rows.laid_unicode_White_Space), ("strings.asciiSpace", Rows.laid_strings_asciiSpace)] [.sentinel, .sentinel, .sentinel, .sentinel, .sentinel, .sentinel, .sentinel, .sentinel, .sentinel, .sentinel, .sentinel, .sentinel, .sentinel, .listed, .data] true :=
  Program.laidByTextLater_by_one 343 8 257 (by kernel_rfl) (by kernel_rfl) (by kernel_rfl) (by kernel_rfl) (by kernel_rfl) (by kernel_rfl) (fun _ _ => by kernel_rfl)
theorem seatTie2 : Tryd.prog.laidByTextLater [("math/bits.deBruijn32tab", Rows.laid_math_bits_deBruijn32tab), ("math/bits.deBruijn64tab", Rows.laid_math_bits_deBruijn64tab), ("internal/strconv.uint64pow10", Rows.laid_internal_strconv_uint64pow10), ("unicode/utf8.acceptRanges", Rows.laid_unicode_utf8_acceptRanges), ("strconv.ErrRange", Rows.laid_strconv_ErrRange), ("strconv.ErrSyntax", Rows.laid_strconv_ErrSyntax), ("glyphic/api.ErrText", Rows.laid_glyphic_api_ErrText), ("glyphic/api.ErrName", Rows.laid_glyphic_api_ErrName), ("glyphic/api.ErrTwice", Rows.laid_glyphic_api_ErrTwice), ("glyphic/api.ErrPath", Rows.laid_glyphic_api_ErrPath), ("glyphic/api.ErrRange", Rows.laid_glyphic_api_ErrRange), ("glyphic/api.ErrLimit", Rows.laid_glyphic_api_ErrLimit), ("glyphic/api.ErrShort", Rows.laid_glyphic_api_ErrShort), ("glyphic/api.ErrMagic", Rows.laid_glyphic_api_ErrMagic), ("glyphic/api.ErrVarint", Rows.laid_glyphic_api_ErrVarint), ("glyphic/api.ErrCanon", Rows.laid_glyphic_api_ErrCanon), ("glyphic/api.ErrTrail", Rows.laid_glyphic_api_ErrTrail), ("glyphic/api.ErrWidth", Rows.laid_glyphic_api_ErrWidth), ("glyphic/api.ErrBudget", Rows.laid_glyphic_api_ErrBudget)] [.data, .data, .data, .data, .sentinel, .sentinel, .sentinel, .sentinel, .sentinel, .sentinel, .sentinel, .sentinel, .sentinel, .sentinel, .sentinel, .sentinel, .sentinel, .sentinel, .sentinel] true :=
  Program.laidByTextLater_by_one 343 8 257 (by kernel_rfl) (by kernel_rfl) (by kernel_rfl) (by kernel_rfl) (by kernel_rfl) (by kernel_rfl) (fun _ _ => by kernel_rfl)
theorem pin_laid_unicode_utf8_first : Tryd.pinned.checked.prog.pinnedFits "unicode/utf8.first" = true := by kernel_rfl
theorem noOwnUnsafe : Tryd.pinned.checked.prog.headLifts.contains "ownunsafe" = false := by kernel_rfl
theorem tie : Tryd.prog.laidByTextLater [("glyphic/api.ErrText", Rows.laid_glyphic_api_ErrText), ("glyphic/api.ErrName", Rows.laid_glyphic_api_ErrName), ("glyphic/api.ErrTwice", Rows.laid_glyphic_api_ErrTwice), ("glyphic/api.ErrPath", Rows.laid_glyphic_api_ErrPath), ("glyphic/api.ErrRange", Rows.laid_glyphic_api_ErrRange), ("glyphic/api.ErrLimit", Rows.laid_glyphic_api_ErrLimit), ("glyphic/api.ErrShort", Rows.laid_glyphic_api_ErrShort), ("glyphic/api.ErrMagic", Rows.laid_glyphic_api_ErrMagic), ("glyphic/api.ErrVarint", Rows.laid_glyphic_api_ErrVarint), ("glyphic/api.ErrCanon", Rows.laid_glyphic_api_ErrCanon), ("glyphic/api.ErrTrail", Rows.laid_glyphic_api_ErrTrail), ("glyphic/api.ErrWidth", Rows.laid_glyphic_api_ErrWidth), ("glyphic/api.ErrBudget", Rows.laid_glyphic_api_ErrBudget), ("unicode.White_Space", Rows.laid_unicode_White_Space), ("strings.asciiSpace", Rows.laid_strings_asciiSpace)] [.sentinel, .sentinel, .sentinel, .sentinel, .sentinel, .sentinel, .sentinel, .sentinel, .sentinel, .sentinel, .sentinel, .sentinel, .sentinel, .listed, .data] true :=
  Program.laidByTextLater.sub seatTie1 ["glyphic/api.ErrText", "glyphic/api.ErrName", "glyphic/api.ErrTwice", "glyphic/api.ErrPath", "glyphic/api.ErrRange", "glyphic/api.ErrLimit", "glyphic/api.ErrShort", "glyphic/api.ErrMagic", "glyphic/api.ErrVarint", "glyphic/api.ErrCanon", "glyphic/api.ErrTrail", "glyphic/api.ErrWidth", "glyphic/api.ErrBudget", "unicode.White_Space", "strings.asciiSpace"] (by kernel_rfl) (by kernel_rfl)
theorem wordErrors_row_tie : Rows.wordErrorsRow.laidByTextAt .later Tryd.pinned [.sentinel, .sentinel, .sentinel, .sentinel, .sentinel, .sentinel, .sentinel, .sentinel, .sentinel, .sentinel, .sentinel, .sentinel, .sentinel, .listed, .data] true :=
  OpenClaim.laidByTextAt_later rfl rfl tie noOwnUnsafe
theorem wordNames_row_tie : Rows.wordNamesRow.laidByTextAt .later Tryd.pinned [.sentinel, .sentinel, .sentinel, .sentinel, .sentinel, .sentinel, .sentinel, .sentinel, .sentinel, .sentinel, .sentinel, .sentinel, .sentinel, .listed, .data] true :=
  OpenClaim.laidByTextAt_later rfl rfl tie noOwnUnsafe
theorem fits2 : Tryd.pinned.checked.prog.listedFits [("math/bits.deBruijn32tab", Rows.laid_math_bits_deBruijn32tab), ("math/bits.deBruijn64tab", Rows.laid_math_bits_deBruijn64tab), ("internal/strconv.uint64pow10", Rows.laid_internal_strconv_uint64pow10), ("unicode/utf8.acceptRanges", Rows.laid_unicode_utf8_acceptRanges), ("strconv.ErrRange", Rows.laid_strconv_ErrRange), ("strconv.ErrSyntax", Rows.laid_strconv_ErrSyntax), ("glyphic/api.ErrText", Rows.laid_glyphic_api_ErrText), ("glyphic/api.ErrName", Rows.laid_glyphic_api_ErrName), ("glyphic/api.ErrTwice", Rows.laid_glyphic_api_ErrTwice), ("glyphic/api.ErrPath", Rows.laid_glyphic_api_ErrPath), ("glyphic/api.ErrRange", Rows.laid_glyphic_api_ErrRange), ("glyphic/api.ErrLimit", Rows.laid_glyphic_api_ErrLimit), ("glyphic/api.ErrShort", Rows.laid_glyphic_api_ErrShort), ("glyphic/api.ErrMagic", Rows.laid_glyphic_api_ErrMagic), ("glyphic/api.ErrVarint", Rows.laid_glyphic_api_ErrVarint), ("glyphic/api.ErrCanon", Rows.laid_glyphic_api_ErrCanon), ("glyphic/api.ErrTrail", Rows.laid_glyphic_api_ErrTrail), ("glyphic/api.ErrWidth", Rows.laid_glyphic_api_ErrWidth), ("glyphic/api.ErrBudget", Rows.laid_glyphic_api_ErrBudget), ("unicode/utf8.first", Rows.laid_unicode_utf8_first)] = true := by
  unfold Program.listedFits
  rw [noOwnUnsafe]
  kernel_rfl
theorem tie2 : Tryd.prog.laidByTextLater [("math/bits.deBruijn32tab", Rows.laid_math_bits_deBruijn32tab), ("math/bits.deBruijn64tab", Rows.laid_math_bits_deBruijn64tab), ("internal/strconv.uint64pow10", Rows.laid_internal_strconv_uint64pow10), ("unicode/utf8.acceptRanges", Rows.laid_unicode_utf8_acceptRanges), ("strconv.ErrRange", Rows.laid_strconv_ErrRange), ("strconv.ErrSyntax", Rows.laid_strconv_ErrSyntax), ("glyphic/api.ErrText", Rows.laid_glyphic_api_ErrText), ("glyphic/api.ErrName", Rows.laid_glyphic_api_ErrName), ("glyphic/api.ErrTwice", Rows.laid_glyphic_api_ErrTwice), ("glyphic/api.ErrPath", Rows.laid_glyphic_api_ErrPath), ("glyphic/api.ErrRange", Rows.laid_glyphic_api_ErrRange), ("glyphic/api.ErrLimit", Rows.laid_glyphic_api_ErrLimit), ("glyphic/api.ErrShort", Rows.laid_glyphic_api_ErrShort), ("glyphic/api.ErrMagic", Rows.laid_glyphic_api_ErrMagic), ("glyphic/api.ErrVarint", Rows.laid_glyphic_api_ErrVarint), ("glyphic/api.ErrCanon", Rows.laid_glyphic_api_ErrCanon), ("glyphic/api.ErrTrail", Rows.laid_glyphic_api_ErrTrail), ("glyphic/api.ErrWidth", Rows.laid_glyphic_api_ErrWidth), ("glyphic/api.ErrBudget", Rows.laid_glyphic_api_ErrBudget)] [.data, .data, .data, .data, .sentinel, .sentinel, .sentinel, .sentinel, .sentinel, .sentinel, .sentinel, .sentinel, .sentinel, .sentinel, .sentinel, .sentinel, .sentinel, .sentinel, .sentinel] true :=
  Program.laidByTextLater.sub seatTie2 ["math/bits.deBruijn32tab", "math/bits.deBruijn64tab", "internal/strconv.uint64pow10", "unicode/utf8.acceptRanges", "strconv.ErrRange", "strconv.ErrSyntax", "glyphic/api.ErrText", "glyphic/api.ErrName", "glyphic/api.ErrTwice", "glyphic/api.ErrPath", "glyphic/api.ErrRange", "glyphic/api.ErrLimit", "glyphic/api.ErrShort", "glyphic/api.ErrMagic", "glyphic/api.ErrVarint", "glyphic/api.ErrCanon", "glyphic/api.ErrTrail", "glyphic/api.ErrWidth", "glyphic/api.ErrBudget"] (by kernel_rfl) (by kernel_rfl)
theorem numberWrong_row_tie : Rows.numberWrongRow.laidByTextAt .later Tryd.pinned [.data, .data, .data, .data, .sentinel, .sentinel, .sentinel, .sentinel, .sentinel, .sentinel, .sentinel, .sentinel, .sentinel, .sentinel, .sentinel, .sentinel, .sentinel, .sentinel, .sentinel, .pinned] true :=
  OpenClaim.laidByTextAt_pinned rfl rfl tie2 rfl rfl rfl rfl (fun y hy _e => by
    simp only [Rows.numberWrongRow, List.zip_cons_cons, List.zip_nil_right, List.mem_cons, List.mem_nil_iff, or_false] at hy
    rcases hy with rfl | rfl | rfl | rfl | rfl | rfl | rfl | rfl | rfl | rfl | rfl | rfl | rfl | rfl | rfl | rfl | rfl | rfl | rfl | rfl
    · cases _e
    · cases _e
    · cases _e
    · cases _e
    · cases _e
    · cases _e
    · cases _e
    · cases _e
    · cases _e
    · cases _e
    · cases _e
    · cases _e
    · cases _e
    · cases _e
    · cases _e
    · cases _e
    · cases _e
    · cases _e
    · cases _e
    · exact ⟨pin_laid_unicode_utf8_first, by kernel_rfl⟩) fits2
theorem wordErrorsUpto_row_tie : Rows.wordErrorsUptoRow.laidByTextAt .later Tryd.pinned [.sentinel, .sentinel, .sentinel, .sentinel, .sentinel, .sentinel, .sentinel, .sentinel, .sentinel, .sentinel, .sentinel, .sentinel, .sentinel, .listed, .data] true :=
  OpenClaim.laidByTextAt_later rfl rfl tie noOwnUnsafe
theorem wordNamesUpto_row_tie : Rows.wordNamesUptoRow.laidByTextAt .later Tryd.pinned [.sentinel, .sentinel, .sentinel, .sentinel, .sentinel, .sentinel, .sentinel, .sentinel, .sentinel, .sentinel, .sentinel, .sentinel, .sentinel, .listed, .data] true :=
  OpenClaim.laidByTextAt_later rfl rfl tie noOwnUnsafe
theorem numberWrongUpto_row_tie : Rows.numberWrongUptoRow.laidByTextAt .later Tryd.pinned [.data, .data, .data, .data, .sentinel, .sentinel, .sentinel, .sentinel, .sentinel, .sentinel, .sentinel, .sentinel, .sentinel, .sentinel, .sentinel, .sentinel, .sentinel, .sentinel, .sentinel, .pinned] true :=
  OpenClaim.laidByTextAt_pinned rfl rfl tie2 rfl rfl rfl rfl (fun y hy _e => by
    simp only [Rows.numberWrongUptoRow, List.zip_cons_cons, List.zip_nil_right, List.mem_cons, List.mem_nil_iff, or_false] at hy
    rcases hy with rfl | rfl | rfl | rfl | rfl | rfl | rfl | rfl | rfl | rfl | rfl | rfl | rfl | rfl | rfl | rfl | rfl | rfl | rfl | rfl
    · cases _e
    · cases _e
    · cases _e
    · cases _e
    · cases _e
    · cases _e
    · cases _e
    · cases _e
    · cases _e
    · cases _e
    · cases _e
    · cases _e
    · cases _e
    · cases _e
    · cases _e
    · cases _e
    · cases _e
    · cases _e
    · cases _e
    · exact ⟨pin_laid_unicode_utf8_first, by kernel_rfl⟩) fits2
end Go.Proofs.YthbfgbfgkkhoiaaDoor

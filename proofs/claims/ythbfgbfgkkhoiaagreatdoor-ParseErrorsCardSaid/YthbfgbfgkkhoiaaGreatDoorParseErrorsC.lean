/- ParseErrors: all cases. No condition. -/
import Derived.Test.YthbfgbfgkkhoiaaGreatDoorParseErrorsB1
import Derived.Test.YthbfgbfgkkhoiaaGreatDoorParseErrorsB2
import Derived.Test.YthbfgbfgkkhoiaaGreatDoorParseErrorsB3
import Derived.KernelRfl
set_option maxRecDepth 100000
namespace Go.Proofs.YthbfgbfgkkhoiaaGreatDoor
open Go Go.Ax
theorem pe_all (p0 : Int) : ∀ k0, k0 < 23 → peG p0 k0 = true := by
  intro k0 h0
  match k0, h0 with
  | 0, _ => exact pe__0 p0
  | 1, _ => exact pe__1 p0
  | 2, _ => exact pe__2 p0
  | 3, _ => exact pe__3 p0
  | 4, _ => exact pe__4 p0
  | 5, _ => exact pe__5 p0
  | 6, _ => exact pe__6 p0
  | 7, _ => exact pe__7 p0
  | 8, _ => exact pe__8 p0
  | 9, _ => exact pe__9 p0
  | 10, _ => exact pe__10 p0
  | 11, _ => exact pe__11 p0
  | 12, _ => exact pe__12 p0
  | 13, _ => exact pe__13 p0
  | 14, _ => exact pe__14 p0
  | 15, _ => exact pe__15 p0
  | 16, _ => exact pe__16 p0
  | 17, _ => exact pe__17 p0
  | 18, _ => exact pe__18 p0
  | 19, _ => exact pe__19 p0
  | 20, _ => exact pe__20 p0
  | 21, _ => exact pe__21 p0
  | 22, _ => exact pe__22 p0
  | n + 23, h => exact absurd h (by omega)
end Go.Proofs.YthbfgbfgkkhoiaaGreatDoor

/- NamesErrors: all cases. No condition. -/
import Derived.Test.YthbfgbfgkkhoiaaGreatDoorNamesErrorsB1
import Derived.Test.YthbfgbfgkkhoiaaGreatDoorNamesErrorsB2
import Derived.Test.YthbfgbfgkkhoiaaGreatDoorNamesErrorsB3
import Derived.Test.YthbfgbfgkkhoiaaGreatDoorNamesErrorsB4
import Derived.KernelRfl
set_option maxRecDepth 100000
namespace Go.Proofs.YthbfgbfgkkhoiaaGreatDoor
open Go Go.Ax
theorem ne_all (p0 : Int) : ∀ k0, k0 < 14 → neG p0 k0 = true := by
  intro k0 h0
  match k0, h0 with
  | 0, _ => exact ne__0 p0
  | 1, _ => exact ne__1 p0
  | 2, _ => exact ne__2 p0
  | 3, _ => exact ne__3 p0
  | 4, _ => exact ne__4 p0
  | 5, _ => exact ne__5 p0
  | 6, _ => exact ne__6 p0
  | 7, _ => exact ne__7 p0
  | 8, _ => exact ne__8 p0
  | 9, _ => exact ne__9 p0
  | 10, _ => exact ne__10 p0
  | 11, _ => exact ne__11 p0
  | 12, _ => exact ne__12 p0
  | 13, _ => exact ne__13 p0
  | n + 14, h => exact absurd h (by omega)
end Go.Proofs.YthbfgbfgkkhoiaaGreatDoor

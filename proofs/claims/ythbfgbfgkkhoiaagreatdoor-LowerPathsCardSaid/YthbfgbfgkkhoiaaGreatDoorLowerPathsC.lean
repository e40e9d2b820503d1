/- LowerPaths: all cases. No condition. -/
import Derived.Test.YthbfgbfgkkhoiaaGreatDoorLowerPathsB1
import Derived.Test.YthbfgbfgkkhoiaaGreatDoorLowerPathsB2
import Derived.Test.YthbfgbfgkkhoiaaGreatDoorLowerPathsB3
import Derived.KernelRfl
set_option maxRecDepth 100000
namespace Go.Proofs.YthbfgbfgkkhoiaaGreatDoor
open Go Go.Ax
theorem lp_all (p0 : Int) : ∀ k0, k0 < 10 → lpG p0 k0 = true := by
  intro k0 h0
  match k0, h0 with
  | 0, _ => exact lp__0 p0
  | 1, _ => exact lp__1 p0
  | 2, _ => exact lp__2 p0
  | 3, _ => exact lp__3 p0
  | 4, _ => exact lp__4 p0
  | 5, _ => exact lp__5 p0
  | 6, _ => exact lp__6 p0
  | 7, _ => exact lp__7 p0
  | 8, _ => exact lp__8 p0
  | 9, _ => exact lp__9 p0
  | n + 10, h => exact absurd h (by omega)
end Go.Proofs.YthbfgbfgkkhoiaaGreatDoor

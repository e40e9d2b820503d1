/- ParseParts: all cases. No condition. -/
import Derived.Test.YthbfgbfgkkhoiaaGreatDoorParsePartsB1
import Derived.Test.YthbfgbfgkkhoiaaGreatDoorParsePartsB2
import Derived.Test.YthbfgbfgkkhoiaaGreatDoorParsePartsB3
import Derived.Test.YthbfgbfgkkhoiaaGreatDoorParsePartsB4
import Derived.Test.YthbfgbfgkkhoiaaGreatDoorParsePartsB5
import Derived.Test.YthbfgbfgkkhoiaaGreatDoorParsePartsB6
import Derived.KernelRfl
set_option maxRecDepth 100000
namespace Go.Proofs.YthbfgbfgkkhoiaaGreatDoor
open Go Go.Ax
theorem pp_all (p0 : Int) (p1 : Bool) : ∀ k0, k0 < 5 → ppG p0 p1 k0 = true := by
  intro k0 h0
  cases p1
  · match k0, h0 with
    | 0, _ => exact pp_f_0 p0
    | 1, _ => exact pp_f_1 p0
    | 2, _ => exact pp_f_2 p0
    | 3, _ => exact pp_f_3 p0
    | 4, _ => exact pp_f_4 p0
    | n + 5, h => exact absurd h (by omega)
  · match k0, h0 with
    | 0, _ => exact pp_t_0 p0
    | 1, _ => exact pp_t_1 p0
    | 2, _ => exact pp_t_2 p0
    | 3, _ => exact pp_t_3 p0
    | 4, _ => exact pp_t_4 p0
    | n + 5, h => exact absurd h (by omega)
end Go.Proofs.YthbfgbfgkkhoiaaGreatDoor

/- LowerArcs: all cases. No condition. -/
import Derived.Test.YthbfgbfgkkhoiaaGreatDoorLowerArcsB1
import Derived.Test.YthbfgbfgkkhoiaaGreatDoorLowerArcsB2
import Derived.Test.YthbfgbfgkkhoiaaGreatDoorLowerArcsB3
import Derived.Test.YthbfgbfgkkhoiaaGreatDoorLowerArcsB4
import Derived.Test.YthbfgbfgkkhoiaaGreatDoorLowerArcsB5
import Derived.Test.YthbfgbfgkkhoiaaGreatDoorLowerArcsB6
import Derived.Test.YthbfgbfgkkhoiaaGreatDoorLowerArcsB7
import Derived.Test.YthbfgbfgkkhoiaaGreatDoorLowerArcsB8
import Derived.Test.YthbfgbfgkkhoiaaGreatDoorLowerArcsB9
import Derived.Test.YthbfgbfgkkhoiaaGreatDoorLowerArcsB10
import Derived.Test.YthbfgbfgkkhoiaaGreatDoorLowerArcsB11
import Derived.KernelRfl
set_option maxRecDepth 100000
namespace Go.Proofs.YthbfgbfgkkhoiaaGreatDoor
open Go Go.Ax
theorem la_all (p0 : Int) (p1 : Int) (p2 : Bool) : ∀ k0 k1, k0 < 9 → k1 < 9 → laG p0 p1 p2 k0 k1 = true := by
  intro k0 k1 h0 h1
  cases p2
  · match k0, h0 with
    | 0, _ => match k1, h1 with
      | 0, _ => exact la_f_0_0 p0 p1
      | 1, _ => exact la_f_0_1 p0 p1
      | 2, _ => exact la_f_0_2 p0 p1
      | 3, _ => exact la_f_0_3 p0 p1
      | 4, _ => exact la_f_0_4 p0 p1
      | 5, _ => exact la_f_0_5 p0 p1
      | 6, _ => exact la_f_0_6 p0 p1
      | 7, _ => exact la_f_0_7 p0 p1
      | 8, _ => exact la_f_0_8 p0 p1
      | n + 9, h => exact absurd h (by omega)
    | 1, _ => match k1, h1 with
      | 0, _ => exact la_f_1_0 p0 p1
      | 1, _ => exact la_f_1_1 p0 p1
      | 2, _ => exact la_f_1_2 p0 p1
      | 3, _ => exact la_f_1_3 p0 p1
      | 4, _ => exact la_f_1_4 p0 p1
      | 5, _ => exact la_f_1_5 p0 p1
      | 6, _ => exact la_f_1_6 p0 p1
      | 7, _ => exact la_f_1_7 p0 p1
      | 8, _ => exact la_f_1_8 p0 p1
      | n + 9, h => exact absurd h (by omega)
    | 2, _ => match k1, h1 with
      | 0, _ => exact la_f_2_0 p0 p1
      | 1, _ => exact la_f_2_1 p0 p1
      | 2, _ => exact la_f_2_2 p0 p1
      | 3, _ => exact la_f_2_3 p0 p1
      | 4, _ => exact la_f_2_4 p0 p1
      | 5, _ => exact la_f_2_5 p0 p1
      | 6, _ => exact la_f_2_6 p0 p1
      | 7, _ => exact la_f_2_7 p0 p1
      | 8, _ => exact la_f_2_8 p0 p1
      | n + 9, h => exact absurd h (by omega)
    | 3, _ => match k1, h1 with
      | 0, _ => exact la_f_3_0 p0 p1
      | 1, _ => exact la_f_3_1 p0 p1
      | 2, _ => exact la_f_3_2 p0 p1
      | 3, _ => exact la_f_3_3 p0 p1
      | 4, _ => exact la_f_3_4 p0 p1
      | 5, _ => exact la_f_3_5 p0 p1
      | 6, _ => exact la_f_3_6 p0 p1
      | 7, _ => exact la_f_3_7 p0 p1
      | 8, _ => exact la_f_3_8 p0 p1
      | n + 9, h => exact absurd h (by omega)
    | 4, _ => match k1, h1 with
      | 0, _ => exact la_f_4_0 p0 p1
      | 1, _ => exact la_f_4_1 p0 p1
      | 2, _ => exact la_f_4_2 p0 p1
      | 3, _ => exact la_f_4_3 p0 p1
      | 4, _ => exact la_f_4_4 p0 p1
      | 5, _ => exact la_f_4_5 p0 p1
      | 6, _ => exact la_f_4_6 p0 p1
      | 7, _ => exact la_f_4_7 p0 p1
      | 8, _ => exact la_f_4_8 p0 p1
      | n + 9, h => exact absurd h (by omega)
    | 5, _ => match k1, h1 with
      | 0, _ => exact la_f_5_0 p0 p1
      | 1, _ => exact la_f_5_1 p0 p1
      | 2, _ => exact la_f_5_2 p0 p1
      | 3, _ => exact la_f_5_3 p0 p1
      | 4, _ => exact la_f_5_4 p0 p1
      | 5, _ => exact la_f_5_5 p0 p1
      | 6, _ => exact la_f_5_6 p0 p1
      | 7, _ => exact la_f_5_7 p0 p1
      | 8, _ => exact la_f_5_8 p0 p1
      | n + 9, h => exact absurd h (by omega)
    | 6, _ => match k1, h1 with
      | 0, _ => exact la_f_6_0 p0 p1
      | 1, _ => exact la_f_6_1 p0 p1
      | 2, _ => exact la_f_6_2 p0 p1
      | 3, _ => exact la_f_6_3 p0 p1
      | 4, _ => exact la_f_6_4 p0 p1
      | 5, _ => exact la_f_6_5 p0 p1
      | 6, _ => exact la_f_6_6 p0 p1
      | 7, _ => exact la_f_6_7 p0 p1
      | 8, _ => exact la_f_6_8 p0 p1
      | n + 9, h => exact absurd h (by omega)
    | 7, _ => match k1, h1 with
      | 0, _ => exact la_f_7_0 p0 p1
      | 1, _ => exact la_f_7_1 p0 p1
      | 2, _ => exact la_f_7_2 p0 p1
      | 3, _ => exact la_f_7_3 p0 p1
      | 4, _ => exact la_f_7_4 p0 p1
      | 5, _ => exact la_f_7_5 p0 p1
      | 6, _ => exact la_f_7_6 p0 p1
      | 7, _ => exact la_f_7_7 p0 p1
      | 8, _ => exact la_f_7_8 p0 p1
      | n + 9, h => exact absurd h (by omega)
    | 8, _ => match k1, h1 with
      | 0, _ => exact la_f_8_0 p0 p1
      | 1, _ => exact la_f_8_1 p0 p1
      | 2, _ => exact la_f_8_2 p0 p1
      | 3, _ => exact la_f_8_3 p0 p1
      | 4, _ => exact la_f_8_4 p0 p1
      | 5, _ => exact la_f_8_5 p0 p1
      | 6, _ => exact la_f_8_6 p0 p1
      | 7, _ => exact la_f_8_7 p0 p1
      | 8, _ => exact la_f_8_8 p0 p1
      | n + 9, h => exact absurd h (by omega)
    | n + 9, h => exact absurd h (by omega)
  · match k0, h0 with
    | 0, _ => match k1, h1 with
      | 0, _ => exact la_t_0_0 p0 p1
      | 1, _ => exact la_t_0_1 p0 p1
      | 2, _ => exact la_t_0_2 p0 p1
      | 3, _ => exact la_t_0_3 p0 p1
      | 4, _ => exact la_t_0_4 p0 p1
      | 5, _ => exact la_t_0_5 p0 p1
      | 6, _ => exact la_t_0_6 p0 p1
      | 7, _ => exact la_t_0_7 p0 p1
      | 8, _ => exact la_t_0_8 p0 p1
      | n + 9, h => exact absurd h (by omega)
    | 1, _ => match k1, h1 with
      | 0, _ => exact la_t_1_0 p0 p1
      | 1, _ => exact la_t_1_1 p0 p1
      | 2, _ => exact la_t_1_2 p0 p1
      | 3, _ => exact la_t_1_3 p0 p1
      | 4, _ => exact la_t_1_4 p0 p1
      | 5, _ => exact la_t_1_5 p0 p1
      | 6, _ => exact la_t_1_6 p0 p1
      | 7, _ => exact la_t_1_7 p0 p1
      | 8, _ => exact la_t_1_8 p0 p1
      | n + 9, h => exact absurd h (by omega)
    | 2, _ => match k1, h1 with
      | 0, _ => exact la_t_2_0 p0 p1
      | 1, _ => exact la_t_2_1 p0 p1
      | 2, _ => exact la_t_2_2 p0 p1
      | 3, _ => exact la_t_2_3 p0 p1
      | 4, _ => exact la_t_2_4 p0 p1
      | 5, _ => exact la_t_2_5 p0 p1
      | 6, _ => exact la_t_2_6 p0 p1
      | 7, _ => exact la_t_2_7 p0 p1
      | 8, _ => exact la_t_2_8 p0 p1
      | n + 9, h => exact absurd h (by omega)
    | 3, _ => match k1, h1 with
      | 0, _ => exact la_t_3_0 p0 p1
      | 1, _ => exact la_t_3_1 p0 p1
      | 2, _ => exact la_t_3_2 p0 p1
      | 3, _ => exact la_t_3_3 p0 p1
      | 4, _ => exact la_t_3_4 p0 p1
      | 5, _ => exact la_t_3_5 p0 p1
      | 6, _ => exact la_t_3_6 p0 p1
      | 7, _ => exact la_t_3_7 p0 p1
      | 8, _ => exact la_t_3_8 p0 p1
      | n + 9, h => exact absurd h (by omega)
    | 4, _ => match k1, h1 with
      | 0, _ => exact la_t_4_0 p0 p1
      | 1, _ => exact la_t_4_1 p0 p1
      | 2, _ => exact la_t_4_2 p0 p1
      | 3, _ => exact la_t_4_3 p0 p1
      | 4, _ => exact la_t_4_4 p0 p1
      | 5, _ => exact la_t_4_5 p0 p1
      | 6, _ => exact la_t_4_6 p0 p1
      | 7, _ => exact la_t_4_7 p0 p1
      | 8, _ => exact la_t_4_8 p0 p1
      | n + 9, h => exact absurd h (by omega)
    | 5, _ => match k1, h1 with
      | 0, _ => exact la_t_5_0 p0 p1
      | 1, _ => exact la_t_5_1 p0 p1
      | 2, _ => exact la_t_5_2 p0 p1
      | 3, _ => exact la_t_5_3 p0 p1
      | 4, _ => exact la_t_5_4 p0 p1
      | 5, _ => exact la_t_5_5 p0 p1
      | 6, _ => exact la_t_5_6 p0 p1
      | 7, _ => exact la_t_5_7 p0 p1
      | 8, _ => exact la_t_5_8 p0 p1
      | n + 9, h => exact absurd h (by omega)
    | 6, _ => match k1, h1 with
      | 0, _ => exact la_t_6_0 p0 p1
      | 1, _ => exact la_t_6_1 p0 p1
      | 2, _ => exact la_t_6_2 p0 p1
      | 3, _ => exact la_t_6_3 p0 p1
      | 4, _ => exact la_t_6_4 p0 p1
      | 5, _ => exact la_t_6_5 p0 p1
      | 6, _ => exact la_t_6_6 p0 p1
      | 7, _ => exact la_t_6_7 p0 p1
      | 8, _ => exact la_t_6_8 p0 p1
      | n + 9, h => exact absurd h (by omega)
    | 7, _ => match k1, h1 with
      | 0, _ => exact la_t_7_0 p0 p1
      | 1, _ => exact la_t_7_1 p0 p1
      | 2, _ => exact la_t_7_2 p0 p1
      | 3, _ => exact la_t_7_3 p0 p1
      | 4, _ => exact la_t_7_4 p0 p1
      | 5, _ => exact la_t_7_5 p0 p1
      | 6, _ => exact la_t_7_6 p0 p1
      | 7, _ => exact la_t_7_7 p0 p1
      | 8, _ => exact la_t_7_8 p0 p1
      | n + 9, h => exact absurd h (by omega)
    | 8, _ => match k1, h1 with
      | 0, _ => exact la_t_8_0 p0 p1
      | 1, _ => exact la_t_8_1 p0 p1
      | 2, _ => exact la_t_8_2 p0 p1
      | 3, _ => exact la_t_8_3 p0 p1
      | 4, _ => exact la_t_8_4 p0 p1
      | 5, _ => exact la_t_8_5 p0 p1
      | 6, _ => exact la_t_8_6 p0 p1
      | 7, _ => exact la_t_8_7 p0 p1
      | 8, _ => exact la_t_8_8 p0 p1
      | n + 9, h => exact absurd h (by omega)
    | n + 9, h => exact absurd h (by omega)
end Go.Proofs.YthbfgbfgkkhoiaaGreatDoor

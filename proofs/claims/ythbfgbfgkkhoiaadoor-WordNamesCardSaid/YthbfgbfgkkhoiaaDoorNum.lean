/- glyphicworld.Number, by a walk; as a hook of the executor. No condition. -/
import Derived.Test.YthbfgbfgkkhoiaaDoorMemo
import Derived.WalkKit
import Derived.Outline
set_option maxRecDepth 100000
namespace Go.Proofs.YthbfgbfgkkhoiaaDoor
open Go Go.Ax Go.RowKit

theorem num_calls (a b : Int) (h0 : 0 < b) (h1 : b < 1000) (w : World) : Calls Tryd.prog 10 #[.int .i64 a, .int .i64 b] w fun e w' => e = .returned (.int .i64 (a % b)) ∧ w' = w := by
  have hb : ¬ b = 0 := by omega
  have l1 : -b < Int.tmod a b := Int.lt_tmod_of_pos a h0
  have l2 : Int.tmod a b < b := Int.tmod_lt_of_pos a h0
  have hm : a % b = Int.tmod a b % b := by
    have h := Int.tmod_add_mul_tdiv a b
    conv => lhs; rw [← h]
    exact Int.add_mul_emod_self_left _ _ _
  by_cases hr : Int.tmod a b < 0
  · have e : a % b = Int.tmod a b + b := by
      rw [hm, ← Int.add_emod_right]
      exact Int.emod_eq_of_lt (by omega) (by omega)
    rw [e]
    clear e hm
    go_enter Tryd.func10, Tryd.ntmps10
    go_wp2
    go_ret
    exact ⟨rfl, rfl⟩
  · have e : a % b = Int.tmod a b := by
      rw [hm]
      exact Int.emod_eq_of_lt (by omega) (by omega)
    rw [e]
    clear e hm
    go_enter Tryd.func10, Tryd.ntmps10
    go_wp2
    go_ret
    exact ⟨rfl, rfl⟩

/-- What the hook answers. -/
noncomputable def hkNum : List AV → AH → Option (AV × AH) := fun args H => match args with
  | [.int k a, .int k' (.ofNat b)] => cond (kEq k .i64) (cond (kEq k' .i64) (cond (Nat.ble 1 b) (cond (Nat.blt b 1000) (some (.int .i64 (Int.emod a (.ofNat b)), H)) none) none) none) none
  | _ => none

theorem hkNum_ok : HookOk ctx (.xi (.xi (.xo .xh))) hkNum := by
  intro args H v H' he g w Args hG hA hS
  refine ⟨⟨Tryd.f10, _, (by kernel_rfl : Tryd.prog.funcs[10]? = some Tryd.f10), rfl, by decide +kernel⟩, ?_⟩
  unfold hkNum at he
  split at he
  · rename_i k a k' b
    cases h1 : kEq k .i64 with
    | false => rw [h1] at he; simp at he
    | true =>
    cases h2 : kEq k' .i64 with
    | false => rw [h1, h2] at he; simp at he
    | true =>
    cases h3 : Nat.ble 1 b with
    | false => rw [h1, h2, h3] at he; simp at he
    | true =>
    cases h4 : Nat.blt b 1000 with
    | false => rw [h1, h2, h3, h4] at he; simp at he
    | true =>
    rw [h1, h2, h3, h4] at he
    simp only [cond_true, Option.some.injEq, Prod.mk.injEq] at he
    obtain ⟨rfl, rfl⟩ := he
    have e1 : k = .i64 := by rw [← kEq_eq] at h1; simpa using h1
    have e2 : k' = .i64 := by rw [← kEq_eq] at h2; simpa using h2
    subst e1 e2
    obtain ⟨l⟩ := Args
    have hA' : VRels g [.int .i64 a, .int .i64 (.ofNat b)] l := hA
    cases hA' with
    | cons x1 t1 =>
      cases x1
      cases t1 with
      | cons x2 t2 =>
        cases x2
        cases t2
        have hb1 : 1 ≤ b := by simpa using h3
        have hb2 : b < 1000 := by simpa using h4
        refine (num_calls a (Int.ofNat b) (by show (0 : Int) < (b : Int); omega) (by show (b : Int) < 1000; omega) w).mono ?_
        rintro e w' ⟨rfl, rfl⟩
        exact ⟨g, _, rfl, .refl hS, .int _ _⟩
  · simp at he
noncomputable def tab2 : Tr FF := Tr.set (.xi (.xi (.xo .xh))) (.hook hkNum) tab1
theorem tab2_ok : FTabOk ctx tab2 := tab1_ok.hook hkNum_ok
end Go.Proofs.YthbfgbfgkkhoiaaDoor

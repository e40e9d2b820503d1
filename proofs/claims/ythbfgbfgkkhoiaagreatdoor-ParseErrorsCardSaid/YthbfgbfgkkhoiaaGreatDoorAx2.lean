/- Operations that only answer: slice expressions, tests, lengths. No condition. -/
import Derived.Test.YthbfgbfgkkhoiaaGreatDoorAx1
import Derived.Laws.BytesString
import Derived.DeepKeys
import Derived.Laws.Closers25b
set_option linter.unusedVariables false
set_option linter.unusedSimpArgs false
namespace Go.Ax
noncomputable section
section
variable {P : Program} {g : G} {ρ : Operand → Value}

theorem optB_sound {b : Bool} {l l' : List AV} {r : Option Nat} {Vs : List Value} (hv : VRels g l Vs) (h : optB b l = some (r, l')) :
    (b = false ∧ r = none ∧ l' = l) ∨ ∃ k n V' , b = true ∧ r = some n ∧ Vs = .int k (n : Int) :: V' ∧ VRels g l' V' := by
  unfold optB at h
  split at h
  · simp only [Option.some.injEq, Prod.mk.injEq] at h
    exact .inl ⟨rfl, h.1.symm, h.2.symm⟩
  · rename_i k a l2
    simp only [Option.some.injEq, Prod.mk.injEq] at h
    obtain ⟨rfl, rfl⟩ := h
    cases hv with | cons h1 t =>
    cases h1
    exact .inr ⟨_, _, _, rfl, rfl, rfl, t⟩
  · simp at h

theorem sliceBound_run {k : IntKind} {n y : Nat} {code : BoundsCode} (h : n ≤ y) (w : World) : (Go.Instr.sliceBound (.int k (n : Int)) y code).run P w = .ok n w := by
  simp only [Go.Instr.sliceBound, Sem.run_bind, asIntOf, Sem.run_pure, Result.andThen_ok]
  rw [if_pos ⟨by omega, by omega⟩]
  rfl

/-- What the model's bounds come to where the abstract ones stand: over any capacity that is no less. -/
theorem boundsA_sound {len cap C : Nat} {lo hi mx : Option Operand} {args : List AV} {a b m : Nat} {isS : Bool}
    (hv : VRels g args ((lo.toList ++ hi.toList ++ mx.toList).map ρ)) (hC : cap ≤ C) (hlc : len ≤ cap) (h : boundsA len cap lo.isSome hi.isSome mx.isSome args = some (a, b, m)) :
    ∃ M, a ≤ b ∧ b ≤ m ∧ m ≤ M ∧ m ≤ cap ∧ (mx.isSome = true → M = m) ∧ (mx.isSome = false → m = cap ∧ M = C) ∧
      ∀ w, (Go.Instr.sliceBounds isS len C (lo.map ρ) (hi.map ρ) (mx.map ρ)).run P w = .ok (a, b, M) w := by
  unfold boundsA at h
  cases h1 : optB lo.isSome args with
  | none => rw [h1] at h; simp at h
  | some x1 =>
  obtain ⟨r1, l1⟩ := x1
  rw [h1] at h
  simp only [] at h
  cases h2 : optB hi.isSome l1 with
  | none => rw [h2] at h; simp at h
  | some x2 =>
  obtain ⟨r2, l2⟩ := x2
  rw [h2] at h
  simp only [] at h
  cases h3 : optB mx.isSome l2 with
  | none => rw [h3] at h; simp at h
  | some x3 =>
  obtain ⟨r3, l3⟩ := x3
  rw [h3] at h
  cases l3 with
  | cons => simp at h
  | nil =>
  simp only [] at h
  -- the low bound's word
  have hlo : (lo = none ∧ r1 = none ∧ VRels g l1 ((hi.toList ++ mx.toList).map ρ)) ∨ (∃ x k n, lo = some x ∧ ρ x = .int k (n : Nat) ∧ r1 = some n ∧ VRels g l1 ((hi.toList ++ mx.toList).map ρ)) := by
    rcases optB_sound hv h1 with ⟨e, e2, e3⟩ | ⟨k, n, V', e, e2, e3, e4⟩
    · cases lo with
      | none => subst e3; exact .inl ⟨rfl, e2, by simpa using hv⟩
      | some x => simp at e
    · cases lo with
      | none => simp at e
      | some x =>
        simp only [Option.toList, List.cons_append, List.nil_append, List.map_cons, List.cons.injEq] at e3
        exact .inr ⟨x, k, n, rfl, e3.1, e2, by rw [← e3.2] at e4; simpa [Option.toList] using e4⟩
  have hv1 : VRels g l1 ((hi.toList ++ mx.toList).map ρ) := by rcases hlo with h | ⟨_, _, _, _, _, _, h⟩; exact h.2.2; exact h
  have hhi : (hi = none ∧ r2 = none ∧ VRels g l2 (mx.toList.map ρ)) ∨ (∃ x k n, hi = some x ∧ ρ x = .int k (n : Nat) ∧ r2 = some n ∧ VRels g l2 (mx.toList.map ρ)) := by
    rcases optB_sound hv1 h2 with ⟨e, e2, e3⟩ | ⟨k, n, V', e, e2, e3, e4⟩
    · cases hi with
      | none => subst e3; exact .inl ⟨rfl, e2, by simpa using hv1⟩
      | some x => simp at e
    · cases hi with
      | none => simp at e
      | some x =>
        simp only [Option.toList, List.cons_append, List.nil_append, List.map_cons, List.cons.injEq] at e3
        exact .inr ⟨x, k, n, rfl, e3.1, e2, by rw [← e3.2] at e4; simpa [Option.toList] using e4⟩
  have hv2 : VRels g l2 (mx.toList.map ρ) := by rcases hhi with h | ⟨_, _, _, _, _, _, h⟩; exact h.2.2; exact h
  have hmx : (mx = none ∧ r3 = none) ∨ (∃ x k n, mx = some x ∧ ρ x = .int k (n : Nat) ∧ r3 = some n) := by
    rcases optB_sound hv2 h3 with ⟨e, e2, e3⟩ | ⟨k, n, V', e, e2, e3, e4⟩
    · cases mx with
      | none => exact .inl ⟨rfl, e2⟩
      | some x => simp at e
    · cases mx with
      | none => simp at e
      | some x =>
        simp only [Option.toList, List.map_cons, List.map_nil, List.cons.injEq] at e3
        exact .inr ⟨x, k, n, rfl, e3.1, e2⟩
  clear hv hv1 hv2 h1 h2 h3
  rcases hmx with ⟨rfl, rfl⟩ | ⟨x3, k3, n3, rfl, e3, rfl⟩
  · simp only [Option.isSome_none, Option.isNone_none, cond_true] at h
    have hh : ∃ hb, b = hb ∧ hb ≤ cap ∧ a ≤ hb ∧ m = cap ∧ (hi = none → hb = len) ∧ (∀ n, r2 = some n → hb = n) ∧ (r1 = none → a = 0) ∧ (∀ n, r1 = some n → a = n) := by
      rcases hhi with ⟨rfl, rfl, _⟩ | ⟨x2, k2, n2, rfl, e2, rfl, _⟩
      · rcases r1 with _ | n1 <;> simp only [] at h
        · cases hb : (Nat.ble len cap && Nat.ble 0 len) with
          | false => rw [hb] at h; simp at h
          | true =>
            rw [hb] at h
            simp only [cond_true, Option.some.injEq, Prod.mk.injEq] at h
            obtain ⟨rfl, rfl, rfl⟩ := h
            exact ⟨_, rfl, hlc, Nat.zero_le _, rfl, fun _ => rfl, fun n hn => by simp at hn, fun _ => rfl, fun n hn => by simp at hn⟩
        · cases hb : (Nat.ble len cap && Nat.ble n1 len) with
          | false => rw [hb] at h; simp at h
          | true =>
            rw [hb] at h
            simp only [cond_true, Option.some.injEq, Prod.mk.injEq] at h
            obtain ⟨rfl, rfl, rfl⟩ := h
            simp only [Bool.and_eq_true, Nat.ble_eq] at hb
            exact ⟨_, rfl, hlc, hb.2, rfl, fun _ => rfl, fun n hn => by simp at hn, fun hn => by simp at hn, fun n hn => by simpa using hn⟩
      · rcases r1 with _ | n1 <;> simp only [] at h
        · cases hb : (Nat.ble n2 cap && Nat.ble 0 n2) with
          | false => rw [hb] at h; simp at h
          | true =>
            rw [hb] at h
            simp only [cond_true, Option.some.injEq, Prod.mk.injEq] at h
            obtain ⟨rfl, rfl, rfl⟩ := h
            simp only [Bool.and_eq_true, Nat.ble_eq] at hb
            exact ⟨_, rfl, hb.1, Nat.zero_le _, rfl, fun hn => by simp at hn, fun n hn => by simpa using hn, fun _ => rfl, fun n hn => by simp at hn⟩
        · cases hb : (Nat.ble n2 cap && Nat.ble n1 n2) with
          | false => rw [hb] at h; simp at h
          | true =>
            rw [hb] at h
            simp only [cond_true, Option.some.injEq, Prod.mk.injEq] at h
            obtain ⟨rfl, rfl, rfl⟩ := h
            simp only [Bool.and_eq_true, Nat.ble_eq] at hb
            exact ⟨_, rfl, hb.1, hb.2, rfl, fun hn => by simp at hn, fun n hn => by simpa using hn, fun hn => by simp at hn, fun n hn => by simpa using hn⟩
    obtain ⟨hb, rfl, hbc, hab, rfl, hb0, hbn, ha0, han⟩ := hh
    refine ⟨C, hab, hbc, hC, Nat.le_refl _, fun h => by simp at h, fun _ => ⟨rfl, rfl⟩, fun w => ?_⟩
    have ela : ∀ w, (match lo.map ρ with
        | some v => Go.Instr.sliceBound v b .sliceB
        | none => Pure.pure 0).run P w = .ok a w := by
      intro w
      rcases hlo with ⟨rfl, rfl, _⟩ | ⟨x1, k1, n1, rfl, e1, rfl, _⟩
      · rw [ha0 rfl]; rfl
      · rw [han n1 rfl] at hab ⊢
        simp only [Option.map_some, e1]
        exact sliceBound_run hab w
    rcases hhi with ⟨rfl, rfl, _⟩ | ⟨x2, k2, n2, rfl, e2, rfl, _⟩
    · have := hb0 rfl
      subst this
      rcases hlo with ⟨rfl, rfl, _⟩ | ⟨x1, k1, n1, rfl, e1, rfl, _⟩
      · simp only [Go.Instr.sliceBounds, Option.map_none, Sem.run_bind, Sem.run_pure, Result.andThen_ok, ha0 rfl]
      · rw [han n1 rfl] at hab ⊢
        simp only [Go.Instr.sliceBounds, Option.map_none, Option.map_some, e1, Option.isSome_none, Bool.false_eq_true, if_false, Sem.run_bind, sliceBound_run hab w, Sem.run_pure, Result.andThen_ok]
    · have := hbn n2 rfl
      subst this
      rcases hlo with ⟨rfl, rfl, _⟩ | ⟨x1, k1, n1, rfl, e1, rfl, _⟩
      · simp only [Go.Instr.sliceBounds, Option.map_none, Option.map_some, e2, sliceBound_run (Nat.le_trans hbc hC) w, Sem.run_bind, Sem.run_pure, Result.andThen_ok, ha0 rfl]
      · rw [han n1 rfl] at hab ⊢
        simp only [Go.Instr.sliceBounds, Option.map_none, Option.map_some, e1, e2, sliceBound_run (Nat.le_trans hbc hC) w, Option.isSome_none, Bool.false_eq_true, if_false, Sem.run_bind, sliceBound_run hab w, Sem.run_pure, Result.andThen_ok]
  · simp only [Option.isSome_some, Option.isNone_some] at h
    cases hb3 : Nat.ble n3 cap with
    | false => rw [hb3] at h; simp at h
    | true =>
    rw [hb3] at h
    simp only [cond_true] at h
    have h3c : n3 ≤ cap := Nat.le_of_ble_eq_true hb3
    rcases hhi with ⟨rfl, rfl, _⟩ | ⟨x2, k2, n2, rfl, e2, rfl, _⟩
    · simp at h
    · have hh : b = n2 ∧ n2 ≤ n3 ∧ a ≤ n2 ∧ m = n3 ∧ (r1 = none → a = 0) ∧ (∀ n, r1 = some n → a = n) := by
        rcases r1 with _ | n1 <;> simp only [] at h
        · cases hb : (Nat.ble n2 n3 && Nat.ble 0 n2) with
          | false => rw [hb] at h; simp at h
          | true =>
            rw [hb] at h
            simp only [cond_true, Option.some.injEq, Prod.mk.injEq] at h
            obtain ⟨rfl, rfl, rfl⟩ := h
            simp only [Bool.and_eq_true, Nat.ble_eq] at hb
            exact ⟨rfl, hb.1, hb.2, rfl, fun _ => rfl, fun n hn => by simp at hn⟩
        · cases hb : (Nat.ble n2 n3 && Nat.ble n1 n2) with
          | false => rw [hb] at h; simp at h
          | true =>
            rw [hb] at h
            simp only [cond_true, Option.some.injEq, Prod.mk.injEq] at h
            obtain ⟨rfl, rfl, rfl⟩ := h
            simp only [Bool.and_eq_true, Nat.ble_eq] at hb
            exact ⟨rfl, hb.1, hb.2, rfl, fun hn => by simp at hn, fun n hn => by simpa using hn⟩
      obtain ⟨rfl, h23, hab, rfl, ha0, han⟩ := hh
      refine ⟨m, hab, h23, Nat.le_refl _, h3c, fun _ => rfl, fun h => by simp at h, fun w => ?_⟩
      simp only [Go.Instr.sliceBounds, Option.map_some, e3, e2, Sem.run_bind, Sem.run_pure, Result.andThen_ok, sliceBound_run (Nat.le_trans h3c hC) w, sliceBound_run h23 w, Option.isSome_some, if_true]
      rcases hlo with ⟨rfl, rfl, _⟩ | ⟨x1, k1, n1, rfl, e1, rfl, _⟩
      · simp only [Option.map_none, Sem.run_bind, Sem.run_pure, Result.andThen_ok, ha0 rfl]
      · have := han n1 rfl
        subst this
        simp only [Option.map_some, e1, Sem.run_bind, sliceBound_run hab w, Result.andThen_ok, Sem.run_pure]

theorem SRel.extract {n v a b : Nat} {S : ByteArray} (h : SRel n v S) (hab : a ≤ b) (hb : b ≤ n) :
    SRel (b - a) (v / 256 ^ a % 256 ^ (b - a)) (S.extract a b) := by
  refine ⟨?_, Nat.mod_lt _ (Nat.pow_pos (by decide))⟩
  have e : (S.extract a b).data.toList = (S.data.toList.drop a).take (b - a) := by
    rw [ByteArray.data_extract, Array.toList_extract]
  rw [e, h.eq, unp_drop, unp_take _ _ _ (by omega)]

theorem snd_sliceStr {t : TypeId} {x : Operand} {lo hi : Option Operand} {args : List AV} {v : AV} (ht : und P t = .string)
    (hv : VRels g args ((x :: (lo.toList ++ hi.toList)).map ρ)) (he : pSliceStr lo.isSome hi.isSome args = some v) :
    Ans P g v (do pure (.value (← Go.Instr.sliceAt t (ρ x) (lo.map ρ) (hi.map ρ) (none : Option Value)))) := by
  unfold pSliceStr at he
  split at he
  · rename_i n u l
    cases hv with | cons h1 tl =>
    generalize ρ x = X at *
    cases h1 with | str h1 =>
    rename_i S
    cases hb : boundsA n n lo.isSome hi.isSome false l with
    | none => rw [hb] at he; simp at he
    | some r =>
      obtain ⟨a, b, m⟩ := r
      rw [hb] at he
      simp only [Option.some.injEq] at he
      subst he
      have tl' : VRels g l ((lo.toList ++ hi.toList ++ (none : Option Operand).toList).map ρ) := by simpa [Option.toList] using tl
      obtain ⟨M, hab, hbm, hmM, hmc, _, _, hrun⟩ := boundsA_sound (P := P) (isS := false) (mx := none) tl' (Nat.le_refl n) (Nat.le_refl n) hb
      refine .of ⟨.string (S.extract a b), .str (h1.extract hab (by omega)), fun w => ?_⟩
      have hr := hrun w
      simp only [Option.map_none] at hr
      simp only [Go.Instr.sliceAt, Go.Instr.slice, Sem.run_bind, und_run ht (by simp) w, Result.andThen_ok, h1.size, Option.isSome_none, Bool.false_eq_true, if_false, hr]
      rfl
  · simp at he

theorem snd_sliceSl {t e : TypeId} {j : TypeInfo} {x : Operand} {lo hi mx : Option Operand} {args : List AV} {v : AV} (ht : und P t = .slice e) (hj : P.info? e = some j)
    (hv : VRels g args ((x :: (lo.toList ++ hi.toList ++ mx.toList)).map ρ)) (he : pSliceSl j.size lo.isSome hi.isSome mx.isSome args = some v) :
    Ans P g v (do pure (.value (← Go.Instr.sliceAt t (ρ x) (lo.map ρ) (hi.map ρ) (mx.map ρ)))) := by
  unfold pSliceSl at he
  split at he
  · rename_i id o es len cap ex l
    cases hv with | cons h1 tl =>
    generalize ρ x = X at *
    cases h1 with | slice hl hc hx ha =>
    rename_i A C
    cases hb : boundsA len cap lo.isSome hi.isSome mx.isSome l with
    | none => rw [hb] at he; simp at he
    | some r =>
      obtain ⟨a, b, m⟩ := r
      rw [hb] at he
      cases hes : Nat.beq es j.size with
      | false => rw [hes] at he; simp at he
      | true =>
      rw [hes] at he
      have hes' := Nat.eq_of_beq_eq_true hes
      simp only [cond_true, Option.some.injEq] at he
      subst he
      obtain ⟨M, hab, hbm, hmM, hmc, hmx1, hmx2, hrun⟩ := boundsA_sound (P := P) (isS := true) tl hc hl hb
      have hMC : M ≤ C := by
        cases hms : mx.isSome with
        | true => have := hmx1 hms; omega
        | false => have := hmx2 hms; omega
      refine .of ⟨.slice (some (if M = a then A else A.add (a * j.size))) (b - a) (M - a), .slice ?_ ?_ ?_ ?_, fun w => ?_⟩
      · show b - a ≤ m - a; omega
      · show m - a ≤ M - a; omega
      · intro hex
        simp only [Bool.or_eq_true] at hex
        show m - a = M - a
        rcases hex with hex | hex
        · cases hms : mx.isSome with
          | true => have := hmx1 hms; omega
          | false => have := hmx2 hms; have := hx hex; omega
        · have := hmx1 hex; omega
      · by_cases hMa : M = a
        · exact .inl (by omega)
        · rcases ha with ha | ⟨B, O, S, hg, rfl, hS⟩
          · omega
          · refine .inr ⟨B, O, S, hg, ?_, ?_⟩
            · rw [if_neg hMa, Addr.add_none]
              show (⟨B, O + o + a * j.size, none⟩ : Addr) = ⟨B, O + (o + a * j.size), none⟩
              rw [Nat.add_assoc]
            · intro hex
              simp only [Bool.or_eq_false_iff] at hex
              have h1 := hS hex.1
              show O + (o + a * j.size) + (M - a) * es ≤ S
              rw [← hes']
              have h2 : M * es ≤ C * es := Nat.mul_le_mul_right _ hMC
              have h3 : (M - a) * es + a * es = M * es := by
                rw [← Nat.add_mul]
                congr 1
                omega
              omega
      · simp only [Go.Instr.sliceAt, Go.Instr.slice, Sem.run_bind, und_run ht (by simp) w, Result.andThen_ok, hrun w, run_sizeOf hj, Sem.run_pure]
        by_cases hMa : M = a
        · simp [hMa]
        · simp [hMa]
  · rename_i l
    cases hv with | cons h1 tl =>
    generalize ρ x = X at *
    cases h1
    cases hb : boundsA 0 0 lo.isSome hi.isSome mx.isSome l with
    | none => rw [hb] at he; simp at he
    | some r =>
      obtain ⟨a, b, m⟩ := r
      rw [hb] at he
      simp only [Option.some.injEq] at he
      subst he
      obtain ⟨M, hab, hbm, hmM, hmc, hmx1, hmx2, hrun⟩ := boundsA_sound (P := P) (isS := true) tl (Nat.le_refl 0) (Nat.le_refl 0) hb
      have hM0 : M = 0 := by
        cases hms : mx.isSome with
        | true => have := hmx1 hms; omega
        | false => have := hmx2 hms; omega
      have ha0 : a = 0 := by omega
      have hb0 : b = 0 := by omega
      subst hM0 ha0 hb0
      refine .of ⟨.slice none 0 0, .nils, fun w => ?_⟩
      simp only [Go.Instr.sliceAt, Go.Instr.slice, Sem.run_bind, und_run ht (by simp) w, Result.andThen_ok, hrun w, run_sizeOf hj, Sem.run_pure]
      rfl
  · simp at he

theorem snd_sliceArr {t e : TypeId} {n : Nat} {j : TypeInfo} {x : Operand} {lo hi mx : Option Operand} {args : List AV} {v : AV} (ht : und P t = .array n e) (hj : P.info? e = some j)
    (hv : VRels g args ((x :: (lo.toList ++ hi.toList ++ mx.toList)).map ρ)) (he : pSliceArr n j.size lo.isSome hi.isSome mx.isSome args = some v) :
    Ans P g v (do pure (.value (← Go.Instr.sliceAt t (ρ x) (lo.map ρ) (hi.map ρ) (mx.map ρ)))) := by
  unfold pSliceArr at he
  split at he
  · rename_i id o l
    cases hv with | cons h1 tl =>
    generalize ρ x = X at *
    cases h1 with | ptr hg =>
    rename_i B O S
    cases hb : boundsA n n lo.isSome hi.isSome mx.isSome l with
    | none => rw [hb] at he; simp at he
    | some r =>
      obtain ⟨a, b, m⟩ := r
      rw [hb] at he
      simp only [Option.some.injEq] at he
      subst he
      obtain ⟨M, hab, hbm, hmM, hmc, hmx1, hmx2, hrun⟩ := boundsA_sound (P := P) (isS := false) tl (Nat.le_refl n) (Nat.le_refl n) hb
      have hMm : M = m := by
        cases hms : mx.isSome with
        | true => exact hmx1 hms
        | false => have := hmx2 hms; omega
      subst hMm
      refine .of ⟨.slice (some (if M = a then ⟨B, O + o, none⟩ else (⟨B, O + o, none⟩ : Addr).add (a * j.size))) (b - a) (M - a), .slice ?_ ?_ (fun _ => rfl) ?_, fun w => ?_⟩
      · show b - a ≤ M - a; omega
      · exact Nat.le_refl _
      · by_cases hMa : M = a
        · exact .inl (by omega)
        · refine .inr ⟨B, O, S, hg, ?_, fun h => by simp at h⟩
          rw [if_neg hMa, Addr.add_none]
          show (⟨B, O + o + a * j.size, none⟩ : Addr) = ⟨B, O + (o + a * j.size), none⟩
          rw [Nat.add_assoc]
      · simp only [Go.Instr.sliceAt, Sem.run_bind, und_run ht (by simp) w, Result.andThen_ok, Go.Instr.sureAddr, Sem.run_pure, hrun w, run_sizeOf hj]
  · simp at he

theorem snd_extract {x : Operand} {i : Nat} {args : List AV} {v : AV} (hv : VRels g args [ρ x]) (he : pExtract i args = some v) :
    Ans P g v (do pure (.value (← Go.Instr.extract (ρ x) i))) := by
  unfold pExtract at he
  split at he
  · cases hv with | cons h1 tl =>
    generalize ρ x = X at *
    cases h1 with | tuple h1 =>
    rename_i C
    obtain ⟨V, hV, hr⟩ := h1.get i v he
    refine .of ⟨V, hr, fun w => ?_⟩
    have : C[i]? = some V := by rw [← Array.getElem?_toList]; exact hV
    simp [Go.Instr.extract, this]
  · simp at he

theorem snd_typeAssert {x : Operand} {xt t : TypeId} {ok : Bool} {z : AV} {args : List AV} {v : AV} (h1' : ∀ ms, und P t ≠ .interface ms) (h2' : und P t ≠ .invalid) (hz : zeroA P t = some z)
    (hv : VRels g args [ρ x]) (he : pTypeAssert t z ok args = some v) :
    Ans P g v (do pure (.value (← Go.Instr.typeAssert (ρ x) xt t ok))) := by
  obtain ⟨Z, hZ, hZw⟩ := zeroA_run hz g
  unfold pTypeAssert at he
  split at he
  · rename_i u a
    cases hv with | cons h1 tl =>
    generalize ρ x = X at *
    cases h1 with | iface h1 =>
    rename_i V
    cases hb : Nat.beq u t with
    | true =>
      rw [hb] at he
      have hut : u = t := Nat.eq_of_beq_eq_true hb
      simp only [cond_true, Option.some.injEq] at he
      subst he
      have key : ∀ w, (Go.Instr.typeAssert (.iface u V) xt t ok).run P w = .ok (if ok then .tuple #[V, .bool true] else V) w := by
        intro w
        simp only [Go.Instr.typeAssert, Sem.run_bind, und_run rfl h2' w, Result.andThen_ok]
        split
        all_goals first
          | exact absurd (by assumption) (h1' _)
          | (rename_i heq; cases heq; simp [hut])
          | (simp_all; done)
          | skip
      cases ok
      · exact .of ⟨_, h1, fun w => by rw [key w]; rfl⟩
      · exact .of ⟨_, .tuple (.cons h1 (.cons (.bool true) .nil)), fun w => by rw [key w]; rfl⟩
    | false =>
      rw [hb] at he
      have hut : u ≠ t := fun h => by rw [h, Nat.beq_refl] at hb; simp at hb
      simp only [cond_false] at he
      cases ok with
      | false => simp at he
      | true =>
        simp only [cond_true, Option.some.injEq] at he
        subst he
        refine .of ⟨.tuple #[Z, .bool false], .tuple (.cons hZ (.cons (.bool false) .nil)), fun w => ?_⟩
        simp only [Go.Instr.typeAssert, Sem.run_bind, und_run rfl h2' w, Result.andThen_ok]
        simp [hut, hZw w]
  · cases hv with | cons h1 tl =>
    generalize ρ x = X at *
    cases h1
    cases ok with
    | false => simp at he
    | true =>
      simp only [cond_true, Option.some.injEq] at he
      subst he
      refine .of ⟨.tuple #[Z, .bool false], .tuple (.cons hZ (.cons (.bool false) .nil)), fun w => ?_⟩
      simp only [Go.Instr.typeAssert, Sem.run_bind, und_run rfl h2' w, Result.andThen_ok]
      simp [hZw w]
  · simp at he

end
end
end Go.Ax

/- Operations that only answer: all together. No condition. -/
set_option linter.unusedVariables false
set_option linter.unusedSimpArgs false
namespace Go.Ax
noncomputable section
section
variable {P : Program} {g : G} {ρ : Operand → Value}

theorem snd_nilCheck {x : Operand} {o : Oper} {args : List AV} {v : AV} (ho : o.op = .nilCheck x) (hv : VRels g args [ρ x]) (he : pNilCheck args = some v) :
    Ans P g v (execOp ρ o) := by
  unfold pNilCheck at he
  split at he
  · simp only [Option.some.injEq] at he
    subst he
    cases hv with | cons h1 tl =>
    have h1' := h1
    generalize hX : ρ x = X at *
    cases h1
    refine ⟨_, h1', fun w => ?_⟩
    simp only [execOp, ho, hX]
    rfl
  · simp only [Option.some.injEq] at he
    subst he
    cases hv with | cons h1 tl =>
    have h1' := h1
    generalize hX : ρ x = X at *
    cases h1
    refine ⟨_, h1', fun w => ?_⟩
    simp only [execOp, ho, hX]
    rfl
  · rename_i fn f c
    cases hb : fnPlain fn with
    | false => rw [hb] at he; simp at he
    | true =>
      rw [hb] at he
      simp only [cond_true, Option.some.injEq] at he
      subst he
      cases hv with | cons h1 tl =>
      have h1' := h1
      generalize hX : ρ x = X at *
      cases h1
      cases fn with
      | func fid =>
        refine ⟨_, h1', fun w => ?_⟩
        simp only [execOp, ho, hX]
        rfl
      | _ => simp [fnPlain] at hb
  · simp at he

/-- A call of a built-in: what it comes to. -/
theorem exec_builtin {o : Oper} {b : Builtin} {args : Array Operand} {ts : Array TypeId} (ho : o.op = .call ⟨.builtin b, args, ts⟩) :
    execOp ρ o = (do Go.builtin b ts o.type (args.map fun | .const _ => true | _ => false) (args.map ρ)) := by
  simp only [execOp, ho]
  rfl

theorem Ans.eq {v : AV} {s s' : Sem Next} (h : Ans P g v s') (e : s = s') : Ans P g v s := e ▸ h

theorem snd_len {o : Oper} {args : Array Operand} {ts : Array TypeId} {x : Operand} {t : TypeId} {as : List AV} {v : AV} {pk : PK}
    (ho : o.op = .call ⟨.builtin .len, args, ts⟩) (hargs : args.toList = [x]) (hts : ts.toList = [t])
    (hpk : (match und P t with
      | .string => some (PK.lenStr, [x])
      | .slice _ => some (.lenSl, [x])
      | .array n _ => some (.lenConst n, [x])
      | _ => none) = some (pk, [x])) (hv : VRels g as [ρ x]) (he : evalP pk as = some v) : Ans P g v (execOp ρ o) := by
  have e1 : args = #[x] := by rw [← Array.toArray_toList (xs := args), hargs]
  have e2 : ts = #[t] := by rw [← Array.toArray_toList (xs := ts), hts]
  refine (Ans.of (s := Go.Builtin.len_ #[t] o.type #[ρ x]) ?_).eq (by rw [exec_builtin ho, e1, e2]; simp [Go.builtin])
  cases hu : und P t <;> rw [hu] at hpk <;> simp only [Option.some.injEq, Prod.mk.injEq, and_true, reduceCtorEq] at hpk
  case string =>
    subst hpk
    simp only [evalP, pLenStr] at he
    split at he
    · simp only [Option.some.injEq] at he
      subst he
      cases hv with | cons h1 tl =>
      generalize ρ x = X at *
      cases h1 with | str h1 =>
      rename_i S
      refine ⟨_, .int _ _, fun w => ?_⟩
      simp [Go.Builtin.len_, und_run hu (by simp) w, h1.size, goInt]
    · simp at he
  case slice =>
    subst hpk
    simp only [evalP, pLenSl] at he
    split at he
    · simp only [Option.some.injEq] at he
      subst he
      cases hv with | cons h1 tl =>
      generalize ρ x = X at *
      cases h1
      refine ⟨_, .int _ _, fun w => ?_⟩
      simp [Go.Builtin.len_, und_run hu (by simp) w, goInt]
    · simp only [Option.some.injEq] at he
      subst he
      cases hv with | cons h1 tl =>
      generalize ρ x = X at *
      cases h1
      refine ⟨_, .int _ _, fun w => ?_⟩
      simp [Go.Builtin.len_, und_run hu (by simp) w, goInt]
    · simp at he
  case array =>
    subst hpk
    simp only [evalP, pLenConst] at he
    split at he
    · simp only [Option.some.injEq] at he
      subst he
      refine ⟨_, .int _ _, fun w => ?_⟩
      simp [Go.Builtin.len_, und_run hu (by simp) w, goInt]
    · simp at he

theorem snd_cap {o : Oper} {args : Array Operand} {ts : Array TypeId} {x : Operand} {t e : TypeId} {as : List AV} {v : AV}
    (ho : o.op = .call ⟨.builtin .cap, args, ts⟩) (hargs : args.toList = [x]) (hts : ts.toList = [t]) (hu : und P t = .slice e)
    (hv : VRels g as [ρ x]) (he : pCapSl as = some v) : Ans P g v (execOp ρ o) := by
  have e1 : args = #[x] := by rw [← Array.toArray_toList (xs := args), hargs]
  have e2 : ts = #[t] := by rw [← Array.toArray_toList (xs := ts), hts]
  refine (Ans.of (s := Go.Builtin.cap_ #[t] o.type #[ρ x]) ?_).eq (by rw [exec_builtin ho, e1, e2]; simp [Go.builtin])
  unfold pCapSl at he
  split at he
  · simp only [Option.some.injEq] at he
    subst he
    cases hv with | cons h1 tl =>
    generalize ρ x = X at *
    cases h1 with | slice hl hc hx ha =>
    have := hx rfl
    subst this
    refine ⟨_, .int _ _, fun w => ?_⟩
    simp [Go.Builtin.cap_, und_run hu (by simp) w, goInt]
  · simp only [Option.some.injEq] at he
    subst he
    cases hv with | cons h1 tl =>
    generalize ρ x = X at *
    cases h1
    refine ⟨_, .int _ _, fun w => ?_⟩
    simp [Go.Builtin.cap_, und_run hu (by simp) w, goInt]
  · simp at he

theorem min2A_sound : ∀ (l : List AV) (Vs : List Value) (k : IntKind) (x : Int) (v : AV), VRels g l Vs → min2A k x l = some v →
    ∃ V, VRel g v V ∧ ∀ w, (Vs.foldlM Go.Builtin.min2 (.int k x) : Sem Value).run P w = .ok V w := by
  intro l
  induction l with
  | nil =>
    intro Vs k x v hv h
    cases hv
    simp only [min2A, Option.some.injEq] at h
    subst h
    exact ⟨_, .int _ _, fun w => rfl⟩
  | cons a l ih =>
    intro Vs k x v hv h
    cases hv with | cons h1 tl =>
    cases a <;> simp only [min2A] at h <;> try (simp at h; done)
    cases h1
    rename_i k' y
    have e : (bif ltB y x then y else x) = (if y < x then y else x) := by
      rw [ltB_eq]; by_cases hh : y < x <;> simp [hh]
    rw [e] at h
    obtain ⟨V, hr, hw⟩ := ih _ k _ v tl h
    refine ⟨V, hr, fun w => ?_⟩
    simp only [List.foldlM_cons, Sem.run_bind, Go.Builtin.min2, Sem.run_pure, Result.andThen_ok]
    exact hw w

theorem max2A_sound : ∀ (l : List AV) (Vs : List Value) (k : IntKind) (x : Int) (v : AV), VRels g l Vs → max2A k x l = some v →
    ∃ V, VRel g v V ∧ ∀ w, (Vs.foldlM Go.Builtin.max2 (.int k x) : Sem Value).run P w = .ok V w := by
  intro l
  induction l with
  | nil =>
    intro Vs k x v hv h
    cases hv
    simp only [max2A, Option.some.injEq] at h
    subst h
    exact ⟨_, .int _ _, fun w => rfl⟩
  | cons a l ih =>
    intro Vs k x v hv h
    cases hv with | cons h1 tl =>
    cases a <;> simp only [max2A] at h <;> try (simp at h; done)
    cases h1
    rename_i k' y
    have e : (bif ltB x y then y else x) = (if y > x then y else x) := by
      rw [ltB_eq]; by_cases hh : x < y <;> simp [hh]
    rw [e] at h
    obtain ⟨V, hr, hw⟩ := ih _ k _ v tl h
    refine ⟨V, hr, fun w => ?_⟩
    simp only [List.foldlM_cons, Sem.run_bind, Go.Builtin.max2, Sem.run_pure, Result.andThen_ok]
    exact hw w

theorem snd_min {o : Oper} {args : Array Operand} {ts : Array TypeId} {as : List AV} {v : AV}
    (ho : o.op = .call ⟨.builtin .min, args, ts⟩) (hv : VRels g as (args.toList.map ρ)) (he : pMin as = some v) : Ans P g v (execOp ρ o) := by
  refine (Ans.of (s := Go.Builtin.min_ ts o.type (args.map ρ)) ?_).eq (by rw [exec_builtin ho]; rfl)
  unfold pMin at he
  split at he
  · rename_i k x l
    have e1 : (args.map ρ).toList = args.toList.map ρ := by simp
    cases hl : args.toList.map ρ with
    | nil => rw [hl] at hv; cases hv
    | cons X Xs =>
      rw [hl] at hv
      cases hv with | cons h1 tl =>
      cases h1
      obtain ⟨V, hr, hw⟩ := min2A_sound (P := P) l Xs k x v tl he
      exact ⟨V, hr, fun w => by simp only [Go.Builtin.min_, e1, hl]; exact hw w⟩
  · simp at he

theorem snd_max {o : Oper} {args : Array Operand} {ts : Array TypeId} {as : List AV} {v : AV}
    (ho : o.op = .call ⟨.builtin .max, args, ts⟩) (hv : VRels g as (args.toList.map ρ)) (he : pMax as = some v) : Ans P g v (execOp ρ o) := by
  refine (Ans.of (s := Go.Builtin.max_ ts o.type (args.map ρ)) ?_).eq (by rw [exec_builtin ho]; rfl)
  unfold pMax at he
  split at he
  · rename_i k x l
    have e1 : (args.map ρ).toList = args.toList.map ρ := by simp
    cases hl : args.toList.map ρ with
    | nil => rw [hl] at hv; cases hv
    | cons X Xs =>
      rw [hl] at hv
      cases hv with | cons h1 tl =>
      cases h1
      obtain ⟨V, hr, hw⟩ := max2A_sound (P := P) l Xs k x v tl he
      exact ⟨V, hr, fun w => by simp only [Go.Builtin.max_, e1, hl]; exact hw w⟩
  · simp at he

/-- ALL TOGETHER: what compP takes answers as evalP says. -/
theorem compP_sound {o : Oper} {pk : PK} {xs : List Operand} (hc : compP P o = some (pk, xs)) {args : List AV} {v : AV}
    (hv : VRels g args (xs.map ρ)) (he : evalP pk args = some v) : Ans P g v (execOp ρ o) := by
  unfold compP at hc
  split at hc
  case h_1 x ho =>
    simp only [Option.some.injEq, Prod.mk.injEq] at hc
    obtain ⟨rfl, rfl⟩ := hc
    exact (snd_id hv he).eq (by simp only [execOp, ho])
  case h_2 x ho =>
    simp only [Option.some.injEq, Prod.mk.injEq] at hc
    obtain ⟨rfl, rfl⟩ := hc
    exact (snd_id hv he).eq (by simp only [execOp, ho])
  case h_3 c a b ho =>
    simp only [Option.some.injEq, Prod.mk.injEq] at hc
    obtain ⟨rfl, rfl⟩ := hc
    exact (snd_pick hv he).eq (by simp only [execOp, ho])
  case h_4 op t x y yt ho =>
    split at hc
    · simp only [Option.some.injEq, Prod.mk.injEq] at hc
      obtain ⟨rfl, rfl⟩ := hc
      exact (snd_binOp_int (t := t) hv he).eq (by simp only [execOp, ho])
    · cases hb : (op == .add || op == .eql || op == .neq) with
      | false => rw [hb] at hc; simp at hc
      | true =>
        rw [hb] at hc
        simp only [cond_true, Option.some.injEq, Prod.mk.injEq] at hc
        obtain ⟨rfl, rfl⟩ := hc
        exact (snd_binOp_str (t := t) hv he).eq (by simp only [execOp, ho])
    · rename_i hu
      cases hb : (op == .eql) with
      | true =>
        rw [hb] at hc
        simp only [cond_true, Option.some.injEq, Prod.mk.injEq] at hc
        obtain ⟨rfl, rfl⟩ := hc
        have : op = .eql := by simpa using hb
        subst this
        exact (snd_binOp_bool (neg := false) hu hv he).eq (by simp only [execOp, ho, cond_false])
      | false =>
        rw [hb] at hc
        cases hb2 : (op == .neq) with
        | false => rw [hb2] at hc; simp at hc
        | true =>
          rw [hb2] at hc
          simp only [cond_true, cond_false, Option.some.injEq, Prod.mk.injEq] at hc
          obtain ⟨rfl, rfl⟩ := hc
          have : op = .neq := by simpa using hb2
          subst this
          exact (snd_binOp_bool (neg := true) hu hv he).eq (by simp only [execOp, ho, cond_true])
    · simp at hc
  case h_5 t x ho =>
    simp only [Option.some.injEq, Prod.mk.injEq] at hc
    obtain ⟨rfl, rfl⟩ := hc
    exact (snd_not hv he).eq (by simp only [execOp, ho])
  case h_6 t x ho =>
    simp only [Option.some.injEq, Prod.mk.injEq] at hc
    obtain ⟨rfl, rfl⟩ := hc
    exact (snd_neg hv he).eq (by simp only [execOp, ho])
  case h_7 t x ho =>
    simp only [Option.some.injEq, Prod.mk.injEq] at hc
    obtain ⟨rfl, rfl⟩ := hc
    exact (snd_compl hv he).eq (by simp only [execOp, ho])
  case h_8 s d x ho =>
    split at hc
    · rename_i hs hd
      simp only [Option.some.injEq, Prod.mk.injEq] at hc
      obtain ⟨rfl, rfl⟩ := hc
      exact (snd_conv hs hd hv he).eq (by simp only [execOp, ho])
    · rename_i hs hd
      simp only [Option.some.injEq, Prod.mk.injEq] at hc
      obtain ⟨rfl, rfl⟩ := hc
      exact (snd_convStr hs hd hv he).eq (by simp only [execOp, ho])
    · simp at hc
  case h_9 t x ho =>
    split at hc
    · simp at hc
    · simp at hc
    · rename_i h1 h2
      simp only [Option.some.injEq, Prod.mk.injEq] at hc
      obtain ⟨rfl, rfl⟩ := hc
      exact (snd_mkIface h1 h2 hv he).eq (by simp only [execOp, ho])
  case h_10 fn first captured ho =>
    simp only [Option.some.injEq, Prod.mk.injEq] at hc
    obtain ⟨rfl, rfl⟩ := hc
    exact (snd_mkFunc hv he).eq (by simp only [execOp, ho])
  case h_11 t ps ho =>
    split at hc
    · rename_i z pl hz hp
      cases hk : structKnown P (und P t) with
      | false => rw [hk] at hc; simp at hc
      | true =>
        rw [hk] at hc
        simp only [cond_true, Option.some.injEq, Prod.mk.injEq] at hc
        obtain ⟨rfl, rfl⟩ := hc
        exact (snd_build hz hp (fun fs hf => by rw [hf] at hk; exact hk) hv he).eq (by simp only [execOp, ho])
    · simp at hc
  case h_12 t x f ho =>
    split at hc
    · rename_i fs ht
      split at hc
      · rename_i f' hf
        split at hc
        · rename_i n b hl
          simp only [Option.some.injEq, Prod.mk.injEq] at hc
          obtain ⟨rfl, rfl⟩ := hc
          exact (snd_field ht hf hl hv he).eq (by simp only [execOp, ho])
        · simp at hc
      · simp at hc
    · simp at hc
  case h_13 t x i ho =>
    split at hc
    · rename_i n e ht
      split at hc
      · rename_i s b hl
        simp only [Option.some.injEq, Prod.mk.injEq] at hc
        obtain ⟨rfl, rfl⟩ := hc
        exact (snd_idxArr ht hl hv he).eq (by simp only [execOp, ho])
      · simp at hc
    · rename_i ht
      simp only [Option.some.injEq, Prod.mk.injEq] at hc
      obtain ⟨rfl, rfl⟩ := hc
      exact (snd_idxStr ht hv he).eq (by simp only [execOp, ho])
    · simp at hc
  case h_14 t x f ho =>
    split at hc
    · rename_i fs ht
      split at hc
      · rename_i f' hf
        split at hc
        · rename_i j hj
          cases hb : Nat.beq j.size 0 with
          | true => rw [hb] at hc; simp at hc
          | false =>
            rw [hb] at hc
            simp only [cond_false, Option.some.injEq, Prod.mk.injEq] at hc
            obtain ⟨rfl, rfl⟩ := hc
            exact (snd_fieldAddr ht hf hj (fun h => by rw [h] at hb; simp at hb) hv he).eq (by simp only [execOp, ho])
        · simp at hc
      · simp at hc
    · simp at hc
  case h_15 t x i ho =>
    split at hc
    · rename_i n e ht
      split at hc
      · rename_i j hj
        simp only [Option.some.injEq, Prod.mk.injEq] at hc
        obtain ⟨rfl, rfl⟩ := hc
        exact (snd_idxAddrArr ht hj hv he).eq (by simp only [execOp, ho])
      · simp at hc
    · rename_i e ht
      split at hc
      · rename_i j hj
        simp only [Option.some.injEq, Prod.mk.injEq] at hc
        obtain ⟨rfl, rfl⟩ := hc
        exact (snd_idxAddrSl ht hj hv he).eq (by simp only [execOp, ho])
      · simp at hc
    · simp at hc
  case h_16 t x lo hi mx ho =>
    split at hc
    · rename_i ht
      cases mx with
      | some y => simp at hc
      | none =>
        simp only [Option.isNone_none, cond_true, Option.some.injEq, Prod.mk.injEq] at hc
        obtain ⟨rfl, rfl⟩ := hc
        exact (snd_sliceStr ht hv he).eq (by simp only [execOp, ho, Option.map_none])
    · rename_i e ht
      split at hc
      · rename_i j hj
        simp only [Option.some.injEq, Prod.mk.injEq] at hc
        obtain ⟨rfl, rfl⟩ := hc
        exact (snd_sliceSl ht hj hv he).eq (by simp only [execOp, ho])
      · simp at hc
    · rename_i n e ht
      split at hc
      · rename_i j hj
        simp only [Option.some.injEq, Prod.mk.injEq] at hc
        obtain ⟨rfl, rfl⟩ := hc
        exact (snd_sliceArr ht hj hv he).eq (by simp only [execOp, ho])
      · simp at hc
    · simp at hc
  case h_17 x ho =>
    simp only [Option.some.injEq, Prod.mk.injEq] at hc
    obtain ⟨rfl, rfl⟩ := hc
    exact snd_nilCheck ho hv he
  case h_18 x i ho =>
    simp only [Option.some.injEq, Prod.mk.injEq] at hc
    obtain ⟨rfl, rfl⟩ := hc
    exact (snd_extract hv he).eq (by simp only [execOp, ho])
  case h_19 x xt t ok ho =>
    split at hc
    · simp at hc
    · simp at hc
    · rename_i z hz h1 h2
      simp only [Option.some.injEq, Prod.mk.injEq] at hc
      obtain ⟨rfl, rfl⟩ := hc
      exact (snd_typeAssert (xt := xt) h1 h2 hz hv he).eq (by simp only [execOp, ho])
    · simp at hc
  case h_20 as ts ho =>
    split at hc
    · rename_i x t h1 h2
      have hx : xs = [x] := by
        revert hc
        split <;> (intro hc; simp only [Option.some.injEq, Prod.mk.injEq, reduceCtorEq] at hc) <;> exact hc.2.symm
      subst hx
      exact snd_len ho h1 h2 hc hv he
    · simp at hc
  case h_21 as ts ho =>
    split at hc
    · rename_i x t h1 h2
      split at hc
      · rename_i e hu
        simp only [Option.some.injEq, Prod.mk.injEq] at hc
        obtain ⟨rfl, rfl⟩ := hc
        exact snd_cap ho h1 h2 hu hv he
      · simp at hc
    · simp at hc
  case h_22 as ts ho =>
    simp only [Option.some.injEq, Prod.mk.injEq] at hc
    obtain ⟨rfl, rfl⟩ := hc
    exact snd_min ho hv he
  case h_23 as ts ho =>
    simp only [Option.some.injEq, Prod.mk.injEq] at hc
    obtain ⟨rfl, rfl⟩ := hc
    exact snd_max ho hv he
  all_goals simp at hc

end
end
end Go.Ax

/- Operations that read memory. No condition. -/
set_option linter.unusedVariables false
set_option linter.unusedSimpArgs false
namespace Go.Ax
noncomputable section

/-! ### Reading an abstract heap -/

def AH.loadN (H : AH) (id : K) (off n : Nat) : Option (List AV) :=
  match H.get id with
  | .cells sz c _ => cond (Nat.ble (Nat.add off n) sz) (c.getFrom off n) none
  | _ => none

def AH.load1 (H : AH) (id : K) (off : Nat) : Option AV :=
  match H.get id with
  | .cells sz c _ => cond (Nat.blt off sz) (c.get (K.of off)) none
  | _ => none

theorem Sim.cellsAt {g : G} {H : AH} {w : World} (h : Sim g H w) {id : K} {sz : Nat} {c : Tr AV} {rw : Bool} (e : H.get id = .cells sz c rw) :
    ∃ B O cs T fz, g id = some (B, O, cs.size) ∧ w.heap[B]? = some (.cells cs T fz) ∧ CRel g sz c rw O cs fz := by
  obtain ⟨B, O, S, hg, hb⟩ := h.blk id (by rw [e]; rfl)
  rw [e] at hb
  obtain ⟨cs, T, fz, h1, h2, rfl⟩ := hb
  exact ⟨B, O, cs, T, fz, hg, h1, h2⟩

theorem cell_of_heap {w : World} {B o : Nat} {cs : Array Value} {T : TypeId} {fz : Nat × Nat} (h : w.heap[B]? = some (.cells cs T fz)) :
    w.cell? ⟨B, o, none⟩ = cs[o]? := by
  simp [World.cell?, h]

theorem frozen_of_heap {w : World} {B o : Nat} {cs : Array Value} {T : TypeId} {fz : Nat × Nat} (h : w.heap[B]? = some (.cells cs T fz)) :
    w.frozen? ⟨B, o, none⟩ = (decide (fz.1 ≤ o) && decide (o < fz.2)) := by
  obtain ⟨lo, hi⟩ := fz
  simp [World.frozen?, h]

theorem load1_sound {g : G} {H : AH} {w : World} (h : Sim g H w) {id : K} {off : Nat} {v : AV} (e : H.load1 id off = some v) :
    ∃ B O S V, g id = some (B, O, S) ∧ VRel g v V ∧ w.cell? ⟨B, O + off, none⟩ = some V := by
  unfold AH.load1 at e
  split at e
  · rename_i sz c rw hget
    cases hb : Nat.blt off sz with
    | false => rw [hb] at e; simp at e
    | true =>
      rw [hb] at e
      simp only [cond_true] at e
      have hlt : off < sz := by simpa using hb
      obtain ⟨B, O, cs, T, fz, hg, hh, hc⟩ := h.cellsAt hget
      obtain ⟨v', V, h1, h2, h3⟩ := hc.cell off hlt
      rw [e] at h1
      obtain rfl := Option.some.inj h1
      exact ⟨B, O, _, V, hg, h3, by rw [cell_of_heap hh, h2]⟩
  · simp at e

theorem loadN_sound {g : G} {H : AH} {w : World} (h : Sim g H w) {id : K} {off n : Nat} {l : List AV} (e : H.loadN id off n = some l) :
    ∃ B O S Vs, g id = some (B, O, S) ∧ VRels g l Vs ∧ l.length = n ∧ ∀ i, i < n → w.cell? ⟨B, O + off + i, none⟩ = Vs[i]? := by
  unfold AH.loadN at e
  split at e
  · rename_i sz c rw hget
    cases hb : Nat.ble (Nat.add off n) sz with
    | false => rw [hb] at e; simp at e
    | true =>
      rw [hb] at e
      simp only [cond_true] at e
      have hle : off + n ≤ sz := Nat.le_of_ble_eq_true hb
      obtain ⟨hlen, hel⟩ := Tr.getFrom_spec n off c l e
      obtain ⟨B, O, cs, T, fz, hg, hh, hc⟩ := h.cellsAt hget
      have hfit := hc.fits
      refine ⟨B, O, _, (cs.toList.drop (O + off)).take n, hg, VRels.of_get ?_ ?_, hlen, ?_⟩
      · simp; omega
      · intro i x X hx hX
        have hi : i < n := by
          rw [← hlen]
          rcases Nat.lt_or_ge i l.length with h | h
          · exact h
          · rw [List.getElem?_eq_none h] at hx; simp at hx
        obtain ⟨v', V, h1, h2, h3⟩ := hc.cell (off + i) (by omega)
        rw [hel i hi, hx] at h1
        obtain rfl := Option.some.inj h1
        rw [List.getElem?_take_of_lt hi, List.getElem?_drop, Array.getElem?_toList, ← Nat.add_assoc O off i] at *
        rw [h2] at hX
        obtain rfl := Option.some.inj hX
        exact h3
      · intro i hi
        rw [cell_of_heap hh, List.getElem?_take_of_lt hi, List.getElem?_drop, Array.getElem?_toList]
  · simp at e

theorem loadCells_run {P : Program} {w : World} {B o : Nat} : ∀ (n i : Nat) (Vs : List Value) (acc : Array Value), Vs.length = n →
    (∀ j, j < n → w.cell? ⟨B, o + (i + j), none⟩ = Vs[j]?) → (loadCellsFrom ⟨B, o, none⟩ i n acc).run P w = .ok (acc ++ Vs.toArray) w
  | 0, i, Vs, acc, hl, h => by
    have : Vs = [] := by simpa using hl
    subst this
    simp [loadCellsFrom]
  | n + 1, i, [], acc, hl, h => by simp at hl
  | n + 1, i, V :: Vs, acc, hl, h => by
    have h0 := h 0 (by omega)
    simp only [Nat.add_zero, List.getElem?_cons_zero] at h0
    simp only [loadCellsFrom, Sem.run_bind, Addr.add_none, run_load, h0, Result.andThen_ok]
    rw [loadCells_run n (i + 1) Vs (acc.push V) (by simpa using hl) (fun j hj => by
      have := h (j + 1) (by omega)
      rw [List.getElem?_cons_succ] at this
      rw [← this]
      congr 2
      omega)]
    simp

theorem loadN_run {P : Program} {g : G} {H : AH} {w : World} (h : Sim g H w) {id : K} {off n : Nat} {l : List AV} (e : H.loadN id off n = some l) :
    ∃ B O S Vs, g id = some (B, O, S) ∧ VRels g l Vs ∧ l.length = n ∧ (loadCells ⟨B, O + off, none⟩ n).run P w = .ok Vs.toArray w := by
  obtain ⟨B, O, S, Vs, hg, hr, hlen, hcell⟩ := loadN_sound h e
  refine ⟨B, O, S, Vs, hg, hr, hlen, ?_⟩
  have := loadCells_run (P := P) (w := w) (B := B) (o := O + off) n 0 Vs #[] (by rw [hr.length, hlen]) (fun j hj => by rw [Nat.zero_add]; exact hcell j hj)
  simpa [loadCells] using this

/-- An abstract heap that has all that another has. -/
def AH.sub (H H' : AH) : Prop := ∀ id, (H.get id).live = true → H'.get id = H.get id

theorem load1_mono {H H' : AH} (h : H.sub H') {id : K} {off : Nat} {v : AV} (e : H.load1 id off = some v) : H'.load1 id off = some v := by
  unfold AH.load1 at e ⊢
  have hl : (H.get id).live = true := by
    revert e; cases H.get id <;> simp [ABlk.live]
  rw [h id hl]
  exact e

theorem loadN_mono {H H' : AH} (h : H.sub H') {id : K} {off n : Nat} {v : List AV} (e : H.loadN id off n = some v) : H'.loadN id off n = some v := by
  unfold AH.loadN at e ⊢
  have hl : (H.get id).live = true := by
    revert e; cases H.get id <;> simp [ABlk.live]
  rw [h id hl]
  exact e

/-! ### The kinds -/

def packA : List AV → Option Nat
  | [] => some 0
  | .int .u8 (.ofNat b) :: r => match packA r with
    | some m => cond (Nat.blt b 256) (some (Nat.add b (Nat.mul 256 m))) none
    | none => none
  | _ => none

def findE (n v : Nat) : List (AV × AV × Nat) → Option (Option AV)
  | [] => some none
  | (.str m u, x, _) :: r => cond (Nat.beq n m && Nat.beq v u) (some (some x)) (findE n v r)
  | _ => none

def AH.roCells (H : AH) (id : K) (o : Nat) : Bool := match H.get id with | .cells sz _ rw => !rw && Nat.blt o sz | _ => false
def AH.someCells (H : AH) (id : K) (o : Nat) : Bool := match H.get id with | .cells sz _ _ => Nat.blt o sz | _ => false

/-- Are two pointers one? -/
def eqPtrA (H : AH) : AV → AV → Option Bool
  | .nilp, .nilp => some true
  | .nilp, .ptr _ _ => some false
  | .ptr _ _, .nilp => some false
  | .ptr a o, .ptr b p => cond (K.beq a b) (some (Nat.beq o p)) (cond ((H.roCells a o && H.someCells b p) || (H.roCells b p && H.someCells a o)) (some false) none)
  | _, _ => none

def memN (t : Nat) : List Nat → Bool
  | [] => false
  | u :: r => Nat.beq t u || memN t r

def eqIfaceA (H : AH) (guard : Bool) (pts : List Nat) : AV → AV → Option Bool
  | .nili, .nili => cond guard (some true) none
  | .nili, .iface _ _ => some false
  | .iface _ _, .nili => some false
  | .iface t v, .iface u w => cond (Nat.beq t u) (cond (memN t pts) (eqPtrA H v w) none) (some false)
  | _, _ => none

inductive NK where | sl | mp | fn
  deriving DecidableEq, Inhabited

def eqNilA : NK → AV → AV → Option Bool
  | .sl, .nils, .nils => some true
  | .sl, .nils, .slice _ _ _ _ _ _ => some false
  | .sl, .slice _ _ _ _ _ _, .nils => some false
  | .mp, .nilm, .nilm => some true
  | .mp, .nilm, .map _ => some false
  | .mp, .map _, .nilm => some false
  | .fn, .nilf, .nilf => some true
  | .fn, .nilf, .func _ _ _ => some false
  | .fn, .func _ _ _, .nilf => some false
  | _, _, _ => none

/-- Whole numbers of these kinds, each in its range. -/
def asInts : List IntKind → List AV → Option (List Int)
  | [], [] => some []
  | k :: ks, .int k' n :: r => cond (decide (k = k') && eqB (k.wrap n) n) (match asInts ks r with | some l => some (n :: l) | none => none) none
  | _, _ => none

def eqInts : List Int → List Int → Bool
  | [], [] => true
  | a :: r, b :: s => eqB a b && eqInts r s
  | _, _ => false

/-- Structs, arrays of whole numbers: are they one? -/
def rEqAgg (neg : Bool) (ks : List IntKind) : List AV → Option AV
  | [.agg a, .agg b] => match asInts ks a, asInts ks b with
    | some x, some y => some (.bool (xor (eqInts x y) neg))
    | _, _ => none
  | _ => none

inductive RK where
  | load1
  | loadN (n : Nat)
  | lenMap
  | lookup (zero : AV) (ok : Bool)
  | bytesStr
  | eqPtr (neg : Bool)
  | eqIface (neg : Bool) (guard : Bool) (pts : List Nat)
  | eqNil (k : NK) (neg : Bool)
  | eqAgg (neg : Bool) (ks : List IntKind)
  deriving Inhabited

def negB (neg : Bool) : Option Bool → Option AV
  | some b => some (.bool (xor b neg))
  | none => none

def rLoad1 (H : AH) : List AV → Option AV
  | [.ptr id o] => H.load1 id o
  | _ => none
def rLoadN (n : Nat) (H : AH) : List AV → Option AV
  | [.ptr id o] => match H.loadN id o n with | some l => some (.agg l) | none => none
  | _ => none
def rLenMap (H : AH) : List AV → Option AV
  | [.nilm] => some (.int .i64 (.ofNat 0))
  | [.map id] => match H.get id with | .map es _ => some (.int .i64 (.ofNat es.length)) | _ => none
  | _ => none
def rLookup (zero : AV) (ok : Bool) (H : AH) : List AV → Option AV
  | [.map id, .str n v] => match H.get id with
    | .map es _ => match findE n v es with
      | some (some x) => some (cond ok (.tuple [x, .bool true]) x)
      | some none => some (cond ok (.tuple [zero, .bool false]) zero)
      | none => none
    | _ => none
  | _ => none
def rBytesStr (H : AH) : List AV → Option AV
  | [.nils] => some (.str 0 0)
  | [.slice id o _ len _ _] => match H.loadN id o len with
    | some l => match packA l with | some m => some (.str len m) | none => none
    | none => none
  | _ => none
def two2 (neg : Bool) (f : AV → AV → Option Bool) : List AV → Option AV
  | [x, y] => negB neg (f x y)
  | _ => none
def rEqPtr (neg : Bool) (H : AH) : List AV → Option AV := two2 neg (eqPtrA H)
def rEqIface (neg guard : Bool) (pts : List Nat) (H : AH) : List AV → Option AV := two2 neg (eqIfaceA H guard pts)
def rEqNil (k : NK) (neg : Bool) : List AV → Option AV := two2 neg (eqNilA k)

def evalR (H : AH) : RK → List AV → Option AV
  | .load1 => rLoad1 H
  | .loadN n => rLoadN n H
  | .lenMap => rLenMap H
  | .lookup zero ok => rLookup zero ok H
  | .bytesStr => rBytesStr H
  | .eqPtr neg => rEqPtr neg H
  | .eqIface neg guard pts => rEqIface neg guard pts H
  | .eqNil k neg => rEqNil k neg
  | .eqAgg neg ks => rEqAgg neg ks

theorem AH.sub_get {H H' : AH} (h : H.sub H') {id : K} {b : ABlk} (e : H.get id = b) (hl : b.live = true) : H'.get id = b := by
  rw [← e]; exact h id (by rw [e]; exact hl)

theorem eqPtrA_mono {H H' : AH} (h : H.sub H') {x y : AV} {b : Bool} (e : eqPtrA H x y = some b) : eqPtrA H' x y = some b := by
  have hro : ∀ id o, H.roCells id o = true → H'.roCells id o = true := by
    intro id o hh
    unfold AH.roCells at hh ⊢
    rw [h id (by revert hh; cases H.get id <;> simp [ABlk.live])]
    exact hh
  have hso : ∀ id o, H.someCells id o = true → H'.someCells id o = true := by
    intro id o hh
    unfold AH.someCells at hh ⊢
    rw [h id (by revert hh; cases H.get id <;> simp [ABlk.live])]
    exact hh
  cases x <;> cases y <;> simp only [eqPtrA] at e ⊢ <;> try exact e
  rename_i a o b' p
  cases hk : K.beq a b' with
  | true => rw [hk] at e; exact e
  | false =>
    rw [hk] at e
    simp only [cond_false] at e ⊢
    cases hc : ((H.roCells a o && H.someCells b' p) || (H.roCells b' p && H.someCells a o)) with
    | false => rw [hc] at e; simp at e
    | true =>
      rw [hc] at e
      have : ((H'.roCells a o && H'.someCells b' p) || (H'.roCells b' p && H'.someCells a o)) = true := by
        simp only [Bool.or_eq_true, Bool.and_eq_true] at hc ⊢
        rcases hc with ⟨h1, h2⟩ | ⟨h1, h2⟩
        · exact .inl ⟨hro _ _ h1, hso _ _ h2⟩
        · exact .inr ⟨hro _ _ h1, hso _ _ h2⟩
      rw [this]
      exact e

theorem evalR_mono {H H' : AH} (h : H.sub H') {rk : RK} {args : List AV} {v : AV} (e : evalR H rk args = some v) : evalR H' rk args = some v := by
  cases rk with
  | load1 =>
    simp only [evalR, rLoad1] at e ⊢
    split at e
    · exact load1_mono h e
    · simp at e
  | loadN n =>
    simp only [evalR, rLoadN] at e ⊢
    split at e
    · rename_i id o
      cases hl : H.loadN id o n with
      | none => rw [hl] at e; simp at e
      | some l => rw [hl] at e; rw [loadN_mono h hl]; exact e
    · simp at e
  | lenMap =>
    simp only [evalR, rLenMap] at e ⊢
    split at e
    · exact e
    · rename_i id
      cases hg : H.get id with
      | map es c => rw [hg] at e; rw [AH.sub_get h hg rfl]; exact e
      | cells => rw [hg] at e; simp at e
      | dead => rw [hg] at e; simp at e
    · simp at e
  | lookup zero ok =>
    simp only [evalR, rLookup] at e ⊢
    split at e
    · rename_i id n u
      cases hg : H.get id with
      | map es c => rw [hg] at e; rw [AH.sub_get h hg rfl]; exact e
      | cells => rw [hg] at e; simp at e
      | dead => rw [hg] at e; simp at e
    · simp at e
  | bytesStr =>
    simp only [evalR, rBytesStr] at e ⊢
    split at e
    · exact e
    · rename_i id o es len c ex
      cases hl : H.loadN id o len with
      | none => rw [hl] at e; simp at e
      | some l => rw [hl] at e; rw [loadN_mono h hl]; exact e
    · simp at e
  | eqPtr neg =>
    simp only [evalR, rEqPtr] at e ⊢
    unfold two2 at e ⊢
    split at e
    · rename_i x y
      cases hq : eqPtrA H x y with
      | none => rw [hq] at e; simp [negB] at e
      | some b => rw [hq] at e; rw [eqPtrA_mono h hq]; exact e
    · simp at e
  | eqIface neg guard pts =>
    simp only [evalR, rEqIface] at e ⊢
    unfold two2 at e ⊢
    split at e
    · rename_i x y
      cases hq : eqIfaceA H guard pts x y with
      | none => rw [hq] at e; simp [negB] at e
      | some b =>
        rw [hq] at e
        have : eqIfaceA H' guard pts x y = some b := by
          cases x <;> cases y <;> simp only [eqIfaceA] at hq ⊢ <;> try exact hq
          rename_i t v u w
          cases ht : Nat.beq t u with
          | false => rw [ht] at hq; exact hq
          | true =>
            rw [ht] at hq
            simp only [cond_true] at hq ⊢
            cases hm : memN t pts with
            | false => rw [hm] at hq; exact hq
            | true => rw [hm] at hq; exact eqPtrA_mono h hq
        rw [this]
        exact e
    · simp at e
  | eqNil k neg => exact e
  | eqAgg neg ks => exact e

end
end Go.Ax

/- Operations that read memory: the model's answer is the abstract one. No condition. -/
set_option linter.unusedVariables false
set_option linter.unusedSimpArgs false
namespace Go.Ax
noncomputable section
section
variable {P : Program} {g : G} {ρ : Operand → Value} {H : AH} {w : World}

/-- It answers, in this world. -/
def AnsW (P : Program) (g : G) (w : World) (v : AV) (s : Sem Next) : Prop := ∃ V, VRel g v V ∧ s.run P w = .ok (.value V) w

theorem AnsW.of {v : AV} {s : Sem Value} (h : ∃ V, VRel g v V ∧ s.run P w = .ok V w) : AnsW P g w v (do pure (.value (← s))) := by
  obtain ⟨V, hr, hw⟩ := h
  exact ⟨V, hr, by simp [hw]⟩

theorem AnsW.eq {v : AV} {s s' : Sem Next} (h : AnsW P g w v s') (e : s = s') : AnsW P g w v s := e ▸ h

theorem Ans.toW {v : AV} {s : Sem Next} (h : Ans P g v s) : AnsW P g w v s := let ⟨V, h1, h2⟩ := h; ⟨V, h1, h2 w⟩

theorem snr_load1 (hS : Sim g H w) {t : TypeId} {n : Nat} {a : Operand} {args : List AV} {v : AV} (hl : lay P t = some (n, false))
    (hv : VRels g args [ρ a]) (he : rLoad1 H args = some v) : AnsW P g w v (do pure (.value (← Go.Instr.loadAt t (ρ a)))) := by
  unfold rLoad1 at he
  split at he
  · rename_i id o
    cases hv with | cons h1 tl =>
    generalize ρ a = A at *
    cases h1 with | ptr hg =>
    rename_i B O S
    obtain ⟨B', O', S', V, hg', hr, hc⟩ := load1_sound hS he
    rw [hg] at hg'
    simp only [Option.some.injEq, Prod.mk.injEq] at hg'
    obtain ⟨rfl, rfl, rfl⟩ := hg'
    refine .of ⟨V, hr, ?_⟩
    simp [Go.Instr.loadAt, Go.Instr.sureAddr, loadVar, (lay_run hl w).1, hc]
  · simp at he

theorem snr_loadN (hS : Sim g H w) {t : TypeId} {n : Nat} {a : Operand} {args : List AV} {v : AV} (hl : lay P t = some (n, true))
    (hv : VRels g args [ρ a]) (he : rLoadN n H args = some v) : AnsW P g w v (do pure (.value (← Go.Instr.loadAt t (ρ a)))) := by
  unfold rLoadN at he
  split at he
  · rename_i id o
    cases hv with | cons h1 tl =>
    generalize ρ a = A at *
    cases h1 with | ptr hg =>
    rename_i B O S
    cases hh : H.loadN id o n with
    | none => rw [hh] at he; simp at he
    | some l =>
      rw [hh] at he
      simp only [Option.some.injEq] at he
      subst he
      obtain ⟨B', O', S', Vs, hg', hr, hlen, hc⟩ := loadN_run (P := P) hS hh
      rw [hg] at hg'
      simp only [Option.some.injEq, Prod.mk.injEq] at hg'
      obtain ⟨rfl, rfl, rfl⟩ := hg'
      refine .of ⟨.agg Vs.toArray, .agg hr, ?_⟩
      simp [Go.Instr.loadAt, Go.Instr.sureAddr, loadVar, (lay_run hl w).1, (lay_run hl w).2, hc]
  · simp at he

theorem ba_beq (S T : ByteArray) : (S == T) = true ↔ S = T := by
  cases S with | mk s =>
  cases T with | mk t =>
  rw [ByteArray.mk.injEq]
  have : ((⟨s⟩ : ByteArray) == ⟨t⟩) = (s == t) := rfl
  rw [this]
  exact beq_iff_eq

theorem ERels.length {es : List (AV × AV × Nat)} {ms : List MapEntry} (h : ERels g es ms) : ms.length = es.length := by
  induction h with
  | nil => rfl
  | cons _ _ _ ih => simp [ih]

theorem Sim.mapAt (h : Sim g H w) {id : K} {es : List (AV × AV × Nat)} {c : Nat} (e : H.get id = .map es c) :
    ∃ B S ms, g id = some (B, 0, S) ∧ w.heap[B]? = some (.map ms c) ∧ ERels g es ms.toList := by
  obtain ⟨B, O, S, hg, hb⟩ := h.blk id (by rw [e]; rfl)
  rw [e] at hb
  obtain ⟨rfl, ms, h1, h2⟩ := hb
  exact ⟨B, S, ms, hg, h1, h2⟩

theorem snr_lenMap (hS : Sim g H w) {o : Oper} {as : Array Operand} {ts : Array TypeId} {x : Operand} {t k e : TypeId} {args : List AV} {v : AV}
    (ho : o.op = .call ⟨.builtin .len, as, ts⟩) (hargs : as.toList = [x]) (hts : ts.toList = [t]) (hu : und P t = .map k e)
    (hv : VRels g args [ρ x]) (he : rLenMap H args = some v) : AnsW P g w v (execOp ρ o) := by
  have e1 : as = #[x] := by rw [← Array.toArray_toList (xs := as), hargs]
  have e2 : ts = #[t] := by rw [← Array.toArray_toList (xs := ts), hts]
  refine (AnsW.of (s := Go.Builtin.len_ #[t] o.type #[ρ x]) ?_).eq (by rw [exec_builtin ho, e1, e2]; simp [Go.builtin])
  unfold rLenMap at he
  split at he
  · simp only [Option.some.injEq] at he
    subst he
    cases hv with | cons h1 tl =>
    generalize ρ x = X at *
    cases h1
    refine ⟨_, .int _ _, ?_⟩
    simp [Go.Builtin.len_, und_run hu (by simp) w, goInt]
  · rename_i id
    split at he
    · rename_i es c hget
      simp only [Option.some.injEq] at he
      subst he
      cases hv with | cons h1 tl =>
      generalize ρ x = X at *
      cases h1 with | map hg =>
      rename_i B S
      obtain ⟨B', S', ms, hg', hh, hr⟩ := hS.mapAt hget
      rw [hg] at hg'
      simp only [Option.some.injEq, Prod.mk.injEq, true_and] at hg'
      obtain ⟨rfl, rfl⟩ := hg'
      refine ⟨_, .int _ _, ?_⟩
      have hlen := hr.length
      rw [Array.length_toList] at hlen
      simp [Go.Builtin.len_, und_run hu (by simp) w, getObj, Sem.run, hh, goInt, hlen]
    · simp at he
  · simp at he

theorem run_checkKey {k : TypeId} (hk : und P k = .string) (b : Bool) (d : Nat) (S : ByteArray) (w : World) :
    (Go.Instr.checkKey b (d + 1) k (.string S)).run P w = .ok () w := by
  simp [Go.Instr.checkKey, und_run hk (by simp) w]

theorem findE_sound {n v : Nat} {S : ByteArray} (hs : SRel n v S) : ∀ (es : List (AV × AV × Nat)) (ms : List MapEntry) (r : Option AV) (i : Nat), ERels g es ms → findE n v es = some r →
    match r with
    | some x => ∃ j X, Go.Instr.findNow .string (.string S) ms i = some (some (j, X)) ∧ VRel g x X
    | none => Go.Instr.findNow .string (.string S) ms i = some none := by
  intro es
  induction es with
  | nil =>
    intro ms r i hr h
    cases hr
    simp only [findE, Option.some.injEq] at h
    subst h
    rfl
  | cons a es ih =>
    intro ms r i hr h
    cases hr with | cons hk hx ht =>
    rename_i k x c K' X ms'
    cases k <;> simp only [findE] at h <;> try (simp at h; done)
    rename_i m u
    cases hk with | str hk =>
    rename_i T
    have eqS : (S == T) = (Nat.beq n m && Nat.beq v u) := by
      rw [Bool.eq_iff_iff]
      simp only [ba_beq, Bool.and_eq_true, Nat.beq_eq]
      exact SRel.ext hs hk
    cases hb : (Nat.beq n m && Nat.beq v u) with
    | true =>
      rw [hb] at h
      simp only [cond_true, Option.some.injEq] at h
      subst h
      refine ⟨i, X, ?_, hx⟩
      simp [Go.Instr.findNow, Go.Instr.sameNow, eqS, hb]
    | false =>
      rw [hb] at h
      simp only [cond_false] at h
      have hi := ih ms' r (i + 1) ht h
      have e : Go.Instr.findNow .string (.string S) (⟨.string T, X, c⟩ :: ms') i = Go.Instr.findNow .string (.string S) ms' (i + 1) := by
        simp [Go.Instr.findNow, Go.Instr.sameNow, eqS, hb]
      rw [e]
      exact hi

theorem run_findKey {k : TypeId} (hk : und P k = .string) {S : ByteArray} {ms : List MapEntry} {r : Option (Nat × Value)} (h : Go.Instr.findNow .string (.string S) ms 0 = some r) (w : World) :
    (Go.Instr.findKey k (.string S) ms).run P w = .ok r w := by
  simp [Go.Instr.findKey, und_run hk (by simp) w, h]

theorem snr_lookup (hS : Sim g H w) {t k e : TypeId} {z : AV} {ok : Bool} {m i : Operand} {args : List AV} {v : AV} (hu : und P t = .map k e) (hk : und P k = .string) (hz : zeroA P e = some z)
    (hv : VRels g args [ρ m, ρ i]) (he : rLookup z ok H args = some v) : AnsW P g w v (do pure (.value (← Go.Instr.lookup t (ρ m) (ρ i) ok))) := by
  obtain ⟨Z, hZ, hZw⟩ := zeroA_run hz g
  unfold rLookup at he
  split at he
  · rename_i id n u
    cases hv with | cons h1 tl => cases tl with | cons h2 tl =>
    generalize ρ m = M at *
    generalize ρ i = I at *
    cases h1 with | map hg =>
    rename_i B S0
    cases h2 with | str h2 =>
    rename_i S
    split at he
    · rename_i es c hget
      obtain ⟨B', S0', ms, hg', hh, hr⟩ := hS.mapAt hget
      rw [hg] at hg'
      simp only [Option.some.injEq, Prod.mk.injEq, true_and] at hg'
      obtain ⟨rfl, rfl⟩ := hg'
      have hgo : (getObj B).run P w = .ok (.map ms c) w := by simp [getObj, Sem.run, hh]
      split at he
      · rename_i x hf
        simp only [Option.some.injEq] at he
        subst he
        obtain ⟨j, X, hfn, hxr⟩ := findE_sound h2 es ms.toList (some x) 0 hr hf
        have key : (Go.Instr.lookup t (.map (some B)) (.string S) ok).run P w = .ok (if ok then .tuple #[X, .bool true] else X) w := by
          simp [Go.Instr.lookup, und_run hu (by simp) w, hgo, run_checkKey hk _ 9999, run_findKey hk hfn]
        cases ok
        · exact .of ⟨X, hxr, by rw [key]; rfl⟩
        · exact .of ⟨_, .tuple (.cons hxr (.cons (.bool true) .nil)), by rw [key]; rfl⟩
      · rename_i hf
        simp only [Option.some.injEq] at he
        subst he
        have hfn := findE_sound (g := g) h2 es ms.toList none 0 hr hf
        have key : (Go.Instr.lookup t (.map (some B)) (.string S) ok).run P w = .ok (if ok then .tuple #[Z, .bool false] else Z) w := by
          simp [Go.Instr.lookup, und_run hu (by simp) w, hgo, run_checkKey hk _ 9999, run_findKey hk hfn, hZw w]
        cases ok
        · exact .of ⟨Z, hZ, by rw [key]; rfl⟩
        · exact .of ⟨_, .tuple (.cons hZ (.cons (.bool false) .nil)), by rw [key]; rfl⟩
      · simp at he
    · simp at he
  · simp at he

theorem packA_sound : ∀ (l : List AV) (Vs : List Value) (m : Nat), VRels g l Vs → packA l = some m →
    ∃ bs : List UInt8, bs.length = l.length ∧ m = pack bs ∧ Vs = bs.map fun b => Value.int .u8 (b.toNat : Int)
  | [], Vs, m, hv, h => by
    cases hv
    simp only [packA, Option.some.injEq] at h
    exact ⟨[], rfl, h.symm, rfl⟩
  | a :: l, Vs, m, hv, h => by
    cases hv with | cons h1 tl =>
    unfold packA at h
    split at h
    · simp_all
    · rename_i b r heq
      simp only [List.cons.injEq] at heq
      obtain ⟨rfl, rfl⟩ := heq
      cases h1
      split at h
      · rename_i m' hm'
        obtain ⟨bs, hl, hp, hV⟩ := packA_sound l _ m' tl hm'
        cases hb : Nat.blt b 256 with
        | false => rw [hb] at h; simp at h
        | true =>
          rw [hb] at h
          simp only [cond_true, Option.some.injEq] at h
          have hlt : b < 256 := by simpa using hb
          have hbt : (UInt8.ofNat b).toNat = b := by rw [UInt8.toNat_ofNat']; omega
          refine ⟨UInt8.ofNat b :: bs, by simp [hl], ?_, ?_⟩
          · simp only [pack, hbt, ← hp]
            exact h.symm
          · simp only [List.map_cons, hbt, hV]
            rfl
      · simp at h
    · simp at h

theorem foldl_push : ∀ (bs : List UInt8) (s : ByteArray), ((bs.map fun b => (b.toNat : Int)).foldl (fun r n => r.push (UInt8.ofNat n.toNat)) s).data.toList = s.data.toList ++ bs
  | [], s => by simp
  | b :: bs, s => by
    simp only [List.map_cons, List.foldl_cons]
    rw [foldl_push bs]
    have : (s.push (UInt8.ofNat ((b.toNat : Int)).toNat)).data.toList = s.data.toList ++ [b] := by
      simp [ByteArray.push]
    rw [this]
    simp

theorem snr_bytesStr (hS : Sim g H w) {s d e : TypeId} {x : Operand} {args : List AV} {v : AV} (hs : und P s = .slice e) (hd : und P d = .string) (hb : und P e = .int .u8)
    (hv : VRels g args [ρ x]) (he : rBytesStr H args = some v) : AnsW P g w v (do pure (.value (← Go.convert s d (ρ x)))) := by
  have conv : ∀ a l c, (Go.convert s d (.slice a l c)).run P w = (Go.Conv.bytesToString (.slice a l c)).run P w := by
    intro a l c
    simp [Go.convert, und_run hs (by simp) w, und_run hd (by simp) w, und_run hb (by simp) w]
  unfold rBytesStr at he
  split at he
  · simp only [Option.some.injEq] at he
    subst he
    cases hv with | cons h1 tl =>
    generalize ρ x = X at *
    cases h1
    refine .of ⟨.string .empty, .str ⟨rfl, by decide⟩, ?_⟩
    rw [conv]
    rfl
  · rename_i id o es len c ex
    split at he
    · rename_i l hl
      split at he
      · rename_i m hm
        simp only [Option.some.injEq] at he
        subst he
        cases hv with | cons h1 tl =>
        generalize ρ x = X at *
        cases h1 with | slice hle hc hx ha =>
        rename_i A C
        obtain ⟨B, O, S, Vs, hg, hr, hlen, hrun⟩ := loadN_run (P := P) hS hl
        obtain ⟨bs, hbl, hp, hV⟩ := packA_sound l Vs m hr hm
        have hVs : Vs = (bs.map fun b => (b.toNat : Int)).map (Value.int .u8) := by rw [hV, List.map_map]; rfl
        have hrun' : (loadCells A len).run P w = .ok ((bs.map fun b => (b.toNat : Int)).map (Value.int .u8)).toArray w := by
          rcases ha with ha | ⟨B', O', S', hg', rfl, _⟩
          · have h0 : len = 0 := by omega
            subst h0
            have : bs = [] := by have := hbl; rw [hlen] at this; simpa using this
            subst this
            rfl
          · rw [hg] at hg'
            simp only [Option.some.injEq, Prod.mk.injEq] at hg'
            obtain ⟨rfl, rfl, rfl⟩ := hg'
            rw [hrun, hVs]
        refine .of ⟨_, ?_, by rw [conv]; exact run_bytesToString w A len C _ hrun'⟩
        refine .str ⟨?_, ?_⟩
        · rw [foldl_push, hp, ← hlen, ← hbl, unp_pack]
          rfl
        · rw [hp, ← hlen, ← hbl]
          exact pack_lt bs
      · simp at he
    · simp at he
  · simp at he

end
end
end Go.Ax

/- Equality of what refers to memory. No condition. -/
set_option linter.unusedVariables false
set_option linter.unusedSimpArgs false
namespace Go.Ax
noncomputable section
section
variable {P : Program} {g : G} {ρ : Operand → Value} {H : AH} {w : World}

theorem shape_of_heap {B : Nat} {cs : Array Value} {T : TypeId} {fz : Nat × Nat} (h : w.heap[B]? = some (.cells cs T fz)) : w.shape? B = some (T, cs.size) := by
  obtain ⟨lo, hi⟩ := fz
  simp [World.shape?, h]

theorem run_viewAt {B : Nat} {cs : Array Value} {T : TypeId} {fz : Nat × Nat} (h : w.heap[B]? = some (.cells cs T fz)) : (viewAt B).run P w = .ok none w := by
  simp [viewAt, shape_of_heap h]

theorem run_stringish {B o : Nat} {cs : Array Value} {T : TypeId} {fz : Nat × Nat} (h : w.heap[B]? = some (.cells cs T fz)) :
    ∃ b, (stringish ⟨B, o, none⟩).run P w = .ok b w ∧ (fz = (0, 0) → b = false) := by
  simp only [stringish, Sem.run_bind, run_frozen, frozen_of_heap h, Result.andThen_ok]
  cases hb : (decide (fz.1 ≤ o) && decide (o < fz.2)) with
  | true =>
    refine ⟨true, by simp, fun e => ?_⟩
    rw [e] at hb
    simp at hb
  | false =>
    simp only [Bool.false_eq_true, if_false, Sem.run_bind, run_shape, shape_of_heap h, Result.andThen_ok, run_frozen, frozen_of_heap h]
    refine ⟨_, rfl, fun e => ?_⟩
    rw [e]
    simp

theorem run_mayBe {a b : Addr} {sa sb : Bool} {Ta Tb : TypeId} {na nb : Nat} (ha : (stringish a).run P w = .ok sa w) (hb : (stringish b).run P w = .ok sb w)
    (sha : w.shape? a.block = some (Ta, na)) (shb : w.shape? b.block = some (Tb, nb)) (hor : (sa = false ∧ nb ≠ 0) ∨ (sb = false ∧ na ≠ 0)) :
    (mayBeOne a b).run P w = .ok false w := by
  cases na with
  | zero =>
    rcases hor with ⟨h1, h2⟩ | ⟨h1, h2⟩
    · obtain ⟨nb, rfl⟩ := Nat.exists_eq_succ_of_ne_zero h2
      subst h1
      cases sb <;> simp [mayBeOne, ha, hb, sha, shb]
    · exact absurd rfl h2
  | succ na =>
    cases nb with
    | zero =>
      rcases hor with ⟨h1, h2⟩ | ⟨h1, h2⟩
      · exact absurd rfl h2
      · subst h1
        cases sa <;> simp [mayBeOne, ha, hb, sha, shb]
    | succ nb =>
      rcases hor with ⟨h1, h2⟩ | ⟨h1, h2⟩ <;> subst h1
      · cases sb <;> simp [mayBeOne, ha, hb, sha, shb]
      · cases sa <;> simp [mayBeOne, ha, hb, sha, shb]

theorem run_sameAddr_block (B o p : Nat) : (sameAddr ⟨B, o, none⟩ ⟨B, p, none⟩).run P w = .ok (Nat.beq o p) w := by
  simp only [sameAddr, beq_self_eq_true, if_true]
  have : ((⟨B, o, none⟩ : Addr) == ⟨B, p, none⟩) = Nat.beq o p := by
    rw [Bool.eq_iff_iff]
    simp
  rw [this]
  rfl

theorem run_sameAddr_diff {B B' o p : Nat} {ca cb : Array Value} {Ta Tb : TypeId} {fa fb : Nat × Nat} (hne : B ≠ B') (ha : w.heap[B]? = some (.cells ca Ta fa)) (hb : w.heap[B']? = some (.cells cb Tb fb))
    (hor : (fa = (0, 0) ∧ cb.size ≠ 0) ∨ (fb = (0, 0) ∧ ca.size ≠ 0)) : (sameAddr ⟨B, o, none⟩ ⟨B', p, none⟩).run P w = .ok false w := by
  have hbb : (B == B') = false := by simpa using hne
  obtain ⟨sa, hsa, hsa0⟩ := run_stringish (P := P) (o := o) ha
  obtain ⟨sb, hsb, hsb0⟩ := run_stringish (P := P) (o := p) hb
  have hf : ((decide (fa.1 ≤ o) && decide (o < fa.2)) && (decide (fb.1 ≤ p) && decide (p < fb.2))) = false := by
    rcases hor with ⟨e, _⟩ | ⟨e, _⟩ <;> rw [e] <;> simp
  have hm : (mayBeOne ⟨B, o, none⟩ ⟨B', p, none⟩).run P w = .ok false w :=
    run_mayBe hsa hsb (shape_of_heap ha) (shape_of_heap hb) (hor.imp (fun ⟨e, e2⟩ => ⟨hsa0 e, e2⟩) (fun ⟨e, e2⟩ => ⟨hsb0 e, e2⟩))
  simp only [sameAddr, hbb, Bool.false_eq_true, if_false, Sem.run_bind, run_frozen, frozen_of_heap ha, frozen_of_heap hb, Result.andThen_ok, hf,
    noView, run_viewAt ha, run_viewAt hb, Option.isSome_none, hm, Sem.run_pure]

theorem Sim.ro (hS : Sim g H w) {id : K} {o : Nat} (h : H.roCells id o = true) : ∃ B O cs T, g id = Option.some (B, O, cs.size) ∧ w.heap[B]? = some (.cells cs T (0, 0)) ∧ cs.size ≠ 0 ∧ o < (H.get id).size := by
  unfold AH.roCells at h
  split at h
  · rename_i sz c rw hget
    simp only [Bool.and_eq_true] at h
    obtain ⟨B, O, cs, T, fz, hg, hh, hc⟩ := hS.cellsAt hget
    have hfz := hc.plain (by simpa using h.1)
    have h0 : o < sz := by simpa using h.2
    have := hc.fits
    subst hfz
    exact ⟨B, O, cs, T, hg, hh, by omega, by rw [hget]; exact h0⟩
  · simp at h

theorem Sim.some (hS : Sim g H w) {id : K} {o : Nat} (h : H.someCells id o = true) : ∃ B O cs T fz, g id = Option.some (B, O, cs.size) ∧ w.heap[B]? = some (.cells cs T fz) ∧ cs.size ≠ 0 ∧ (H.get id).live = true ∧ o < (H.get id).size := by
  unfold AH.someCells at h
  split at h
  · rename_i sz c rw hget
    obtain ⟨B, O, cs, T, fz, hg, hh, hc⟩ := hS.cellsAt hget
    have h0 : o < sz := by simpa using h
    have := hc.fits
    exact ⟨B, O, cs, T, fz, hg, hh, by omega, by rw [hget]; rfl, by rw [hget]; exact h0⟩
  · simp at h

theorem live_of_ro {id : K} {o : Nat} (h : H.roCells id o = true) : (H.get id).live = true := by
  unfold AH.roCells at h
  split at h
  · rename_i hget; rw [hget]; rfl
  · simp at h

/-- What a pointer's type must be. -/
def ptrOk (P : Program) (t : TypeId) : Bool := match und P t with
  | .pointer e => match P.info? e with | some j => !(Nat.beq j.size 0) | none => false
  | _ => false

theorem eqPtr_run (hS : Sim g H w) {t : TypeId} (ht : ptrOk P t = true) {x y : AV} {X Y : Value} (hx : VRel g x X) (hy : VRel g y Y) {b : Bool} (h : eqPtrA H x y = some b) (d : Nat) :
    (Go.Op.equalIn (d + 1) t X Y).run P w = .ok b w := by
  unfold ptrOk at ht
  split at ht
  · rename_i e hu
    split at ht
    · rename_i j hj
      have hsz : j.size ≠ 0 := by intro h; rw [h] at ht; simp at ht
      have hur := und_run hu (by simp) w
      unfold eqPtrA at h
      split at h
      · simp only [Option.some.injEq] at h; subst h; cases hx; cases hy; simp [Go.Op.equalIn, hur]
      · simp only [Option.some.injEq] at h; subst h; cases hx; cases hy; simp [Go.Op.equalIn, hur]
      · simp only [Option.some.injEq] at h; subst h; cases hx; cases hy; simp [Go.Op.equalIn, hur]
      · rename_i a o b' p
        cases hx with | ptr hga =>
        rename_i B O S
        cases hy with | ptr hgb =>
        rename_i B' O' S'
        cases hk : K.beq a b' with
        | true =>
          rw [hk] at h
          have := K.beq_eq hk
          subst this
          rw [hga] at hgb
          simp only [Option.some.injEq, Prod.mk.injEq] at hgb
          obtain ⟨rfl, rfl, rfl⟩ := hgb
          simp only [cond_true, Option.some.injEq] at h
          subst h
          have e2 : Nat.beq (O + o) (O + p) = Nat.beq o p := by
            rw [Bool.eq_iff_iff]; simp
          simp [Go.Op.equalIn, hur, run_sizeOf hj, hsz, run_sameAddr_block, e2]
        | false =>
          rw [hk] at h
          simp only [cond_false] at h
          cases hc : ((H.roCells a o && H.someCells b' p) || (H.roCells b' p && H.someCells a o)) with
          | false => rw [hc] at h; simp at h
          | true =>
            rw [hc] at h
            simp only [cond_true, Option.some.injEq] at h
            subst h
            have hne : a ≠ b' := fun e => by rw [e, K.beq_refl] at hk; simp at hk
            simp only [Bool.or_eq_true, Bool.and_eq_true] at hc
            rcases hc with ⟨h1, h2⟩ | ⟨h1, h2⟩
            · obtain ⟨B1, O1, c1, T1, hg1, hh1, hn1, hs1⟩ := hS.ro h1
              obtain ⟨B2, O2, c2, T2, f2, hg2, hh2, hn2, hl2, hs2⟩ := hS.some h2
              rw [hga] at hg1; rw [hgb] at hg2
              simp only [Option.some.injEq, Prod.mk.injEq] at hg1 hg2
              obtain ⟨rfl, rfl, rfl⟩ := hg1
              obtain ⟨rfl, rfl, rfl⟩ := hg2
              by_cases hB : B = B'
              · subst hB
                have hap := ((hS.inj a b' B _ _ (live_of_ro h1) hl2 hga hgb).resolve_left hne).2.2 o p hs1 hs2
                have e2 : Nat.beq (O + o) (O' + p) = false := by
                  cases hb : Nat.beq (O + o) (O' + p) with
                  | false => rfl
                  | true => exact absurd (Nat.eq_of_beq_eq_true hb) hap
                simp [Go.Op.equalIn, hur, run_sizeOf hj, hsz, run_sameAddr_block, e2]
              simp [Go.Op.equalIn, hur, run_sizeOf hj, hsz, run_sameAddr_diff hB hh1 hh2 (.inl ⟨rfl, hn2⟩)]
            · obtain ⟨B1, O1, c1, T1, hg1, hh1, hn1, hs1⟩ := hS.ro h1
              obtain ⟨B2, O2, c2, T2, f2, hg2, hh2, hn2, hl2, hs2⟩ := hS.some h2
              rw [hgb] at hg1; rw [hga] at hg2
              simp only [Option.some.injEq, Prod.mk.injEq] at hg1 hg2
              obtain ⟨rfl, rfl, rfl⟩ := hg1
              obtain ⟨rfl, rfl, rfl⟩ := hg2
              by_cases hB : B = B'
              · subst hB
                have hap := ((hS.inj a b' B _ _ hl2 (live_of_ro h1) hga hgb).resolve_left hne).2.2 o p hs2 hs1
                have e2 : Nat.beq (O + o) (O' + p) = false := by
                  cases hb : Nat.beq (O + o) (O' + p) with
                  | false => rfl
                  | true => exact absurd (Nat.eq_of_beq_eq_true hb) hap
                simp [Go.Op.equalIn, hur, run_sizeOf hj, hsz, run_sameAddr_block, e2]
              simp [Go.Op.equalIn, hur, run_sizeOf hj, hsz, run_sameAddr_diff hB hh2 hh1 (.inr ⟨rfl, hn2⟩)]
      · simp at h
    · simp at ht
  · simp at ht

/-- The types whose values, in an interface, are pointers that may be compared. -/
def ifOk (P : Program) (t : TypeId) : Bool := ptrOk P t && (match P.info? t with | some i => i.comparable | none => false)

theorem memN_all {t : Nat} : ∀ {l : List Nat}, memN t l = true → t ∈ l
  | [], h => by simp [memN] at h
  | u :: r, h => by
    simp only [memN, Bool.or_eq_true] at h
    rcases h with h | h
    · exact List.mem_cons.2 (.inl (Nat.eq_of_beq_eq_true h))
    · exact List.mem_cons_of_mem _ (memN_all h)

theorem equalIn_iface_same {t u : TypeId} {ms : Array (String × TypeId)} {i : TypeInfo} {V V' : Value} (ht : und P t = .interface ms) (hi : P.info? u = Option.some i) (hc : i.comparable = true) (d : Nat) :
    (Go.Op.equalIn (d + 1) t (.iface u V) (.iface u V')).run P w = (Go.Op.equalIn d u V V').run P w := by
  simp only [Go.Op.equalIn, Sem.run_bind, und_run ht (by simp) w, Result.andThen_ok, ne_eq, not_true_eq_false, if_false, run_typeInfo hi, hc, Bool.not_true, Bool.false_eq_true]

theorem eqIface_run (hS : Sim g H w) {t : TypeId} {ms : Array (String × TypeId)} (ht : und P t = .interface ms) {pts : List Nat} (hp : ∀ u ∈ pts, ifOk P u = true) {guard : Bool} {x y : AV} {X Y : Value}
    (hx : VRel g x X) (hy : VRel g y Y) {b : Bool} (h : eqIfaceA H guard pts x y = some b) (d : Nat) :
    (Go.Op.equalIn (d + 2) t X Y).run P w = .ok b w := by
  have hur := und_run ht (by simp) w
  unfold eqIfaceA at h
  split at h
  · cases guard with
    | false => simp at h
    | true =>
      simp only [cond_true, Option.some.injEq] at h; subst h; cases hx; cases hy; simp [Go.Op.equalIn, hur]
  · simp only [Option.some.injEq] at h; subst h; cases hx; cases hy; simp [Go.Op.equalIn, hur]
  · simp only [Option.some.injEq] at h; subst h; cases hx; cases hy; simp [Go.Op.equalIn, hur]
  · rename_i u v u' v'
    cases hx with | iface hx =>
    rename_i V
    cases hy with | iface hy =>
    rename_i V'
    cases hb : Nat.beq u u' with
    | false =>
      rw [hb] at h
      simp only [cond_false, Option.some.injEq] at h
      subst h
      have hne : u ≠ u' := fun e => by rw [e, Nat.beq_refl] at hb; simp at hb
      simp [Go.Op.equalIn, hur, hne]
    | true =>
      rw [hb] at h
      have := Nat.eq_of_beq_eq_true hb
      subst this
      simp only [cond_true] at h
      cases hm : memN u pts with
      | false => rw [hm] at h; simp at h
      | true =>
        rw [hm] at h
        simp only [cond_true] at h
        have ho := hp u (memN_all hm)
        simp only [ifOk, Bool.and_eq_true] at ho
        obtain ⟨hpt, hcmp⟩ := ho
        split at hcmp
        · rename_i i hi
          rw [equalIn_iface_same ht hi hcmp (d + 1)]
          exact eqPtr_run hS hpt hx hy h d
        · simp at hcmp
  · simp at h

def nkOk (P : Program) (t : TypeId) : NK → Bool
  | .sl => match und P t with | .slice _ => true | _ => false
  | .mp => match und P t with | .map _ _ => true | _ => false
  | .fn => match und P t with | .func _ _ _ => true | _ => false

theorem eqNil_run {t : TypeId} {k : NK} {x y : AV} {X Y : Value} (ht : nkOk P t k = true) (hx : VRel g x X) (hy : VRel g y Y) {b : Bool} (h : eqNilA k x y = some b) (d : Nat) :
    (Go.Op.equalIn (d + 1) t X Y).run P w = .ok b w := by
  cases k
  · simp only [nkOk] at ht
    split at ht
    · rename_i e hu
      have hur := und_run hu (by simp) w
      cases x <;> cases y <;> simp only [eqNilA, Option.some.injEq, reduceCtorEq] at h <;> subst h <;> cases hx <;> cases hy <;> simp [Go.Op.equalIn, hur]
    · simp at ht
  · simp only [nkOk] at ht
    split at ht
    · rename_i e f hu
      have hur := und_run hu (by simp) w
      cases x <;> cases y <;> simp only [eqNilA, Option.some.injEq, reduceCtorEq] at h <;> subst h <;> cases hx <;> cases hy <;> simp [Go.Op.equalIn, hur]
    · simp at ht
  · simp only [nkOk] at ht
    split at ht
    · rename_i e f c hu
      have hur := und_run hu (by simp) w
      cases x <;> cases y <;> simp only [eqNilA, Option.some.injEq, reduceCtorEq] at h <;> subst h <;> cases hx <;> cases hy <;> simp [Go.Op.equalIn, hur]
    · simp at ht

/-- The model's '==' and '!=' on what refers to memory. -/
theorem eq_of_equalIn {o : Oper} {neg : Bool} {t : TypeId} {x y : Operand} {yt : TypeId} {b : Bool} (ho : o.op = .binOp (cond neg .neq .eql) t x y yt) (w : World)
    (hg : (eqGuard (cond neg .neq .eql) t x y (ρ x) (ρ y)).run P w = .ok () w)
    (hne : ∀ op : BinOp, (op = .eql ∨ op = .neq) → Go.binOp op t (ρ x) (ρ y) = (if op = .eql then (do Pure.pure (.bool (← Op.equal t (ρ x) (ρ y)))) else (do Pure.pure (.bool (!(← Op.equal t (ρ x) (ρ y)))))))
    (he : (Op.equal t (ρ x) (ρ y)).run P w = .ok b w) : AnsW P g w (.bool (xor b neg)) (execOp ρ o) := by
  refine ⟨_, .bool _, ?_⟩
  simp only [execOp, ho, Sem.run_bind, hg, Result.andThen_ok]
  cases neg
  · rw [cond_false, hne .eql (.inl rfl)]
    simp [he]
  · rw [cond_true, hne .neq (.inr rfl)]
    simp [he]


/-! ### Structs and arrays of whole numbers -/

mutual
/-- The kinds of a type's cells, where it is whole numbers throughout. -/
def intsT (P : Program) : Nat → TypeId → Option (List IntKind)
  | 0, _ => none
  | d + 1, t => match P.underlying t with
    | some (.int q) => some [q]
    | some (.array n e) => match intsT P d e with
      | some ks => cond (Nat.beq ks.length (P.cellsOf e) && Nat.beq (P.cellsOf t) (n * ks.length)) (some (List.replicate n ks).flatten) none
      | none => none
    | some (.struct fs) => match fieldsT P d 0 fs.toList with
      | some ks => cond (Nat.beq ks.length (P.cellsOf t)) (some ks) none
      | none => none
    | _ => none
def fieldsT (P : Program) : Nat → Nat → List Field → Option (List IntKind)
  | _, _, [] => some []
  | 0, _, _ :: _ => none
  | d + 1, off, f :: r => cond (f.name != "_" && Nat.beq f.offset off)
      (match intsT P d f.type with
        | some ks => cond (Nat.beq ks.length (P.cellsOf f.type)) (match fieldsT P d (off + ks.length) r with | some l => some (ks ++ l) | none => none) none
        | none => none) none
end

def litI (p : IntKind × Int) : Lit := .int p.1 p.2
def valI (p : IntKind × Int) : Value := .int p.1 p.2

theorem drop_take_mid {α β : Type} (f : α → β) (pre mid suf : List α) : (((pre ++ mid ++ suf).map f).drop pre.length).take mid.length = mid.map f := by
  simp [List.map_append]

mutual
theorem intsT_lits : ∀ (d : Nat) (t : TypeId) (ks : List IntKind) (L : List (IntKind × Int)), intsT P d t = some ks → L.map (·.1) = ks → (∀ p ∈ L, (litI p).wf = true) →
    ∀ D, d ≤ D → P.keyLits D t (L.map valI) = some (L.map litI)
  | 0, _, _, _, h, _, _, _, _ => by simp [intsT] at h
  | d + 1, t, ks, L, h, hk, hw, D, hD => by
    obtain ⟨D, rfl⟩ : ∃ D', D = D' + 1 := ⟨D - 1, by omega⟩
    unfold intsT at h
    split at h
    · rename_i q hu
      simp only [Option.some.injEq] at h
      subst h
      match L, hk with
      | [p], hk =>
        simp only [List.map_cons, List.map_nil, List.cons.injEq, and_true] at hk
        have hp := hw p (List.mem_cons_self ..)
        have e : P.keyLits (D + 1) t [Value.int p.1 p.2] = some [.int p.1 p.2] := by
          unfold Program.keyLits
          rw [hu]
          simp only
          rw [if_pos ⟨hk, by rw [← hk]; exact hp⟩, hk]
        exact e
    · rename_i n e hu
      split at h
      · rename_i ks' he
        cases hb : (Nat.beq ks'.length (P.cellsOf e) && Nat.beq (P.cellsOf t) (n * ks'.length)) with
        | false => rw [hb] at h; simp at h
        | true =>
          rw [hb] at h
          simp only [cond_true, Option.some.injEq] at h
          simp only [Bool.and_eq_true, Nat.beq_eq] at hb
          obtain ⟨hb1, hb2⟩ := hb
          have hlen : L.length = n * ks'.length := by
            have := congrArg List.length hk
            rw [List.length_map, ← h] at this
            rw [this]; simp
          have hitems : ∀ (m i : Nat), i + m = n → ∃ as, ((List.range' i m).mapM fun j => P.keyLits D e (((L.map valI).drop (j * P.cellsOf e)).take (P.cellsOf e))) = some as ∧ as.flatten = (L.drop (i * ks'.length)).map litI := by
            intro m
            induction m with
            | zero =>
              intro i hi
              refine ⟨[], rfl, ?_⟩
              rw [List.drop_of_length_le (by rw [hlen]; have : i = n := by omega
                                             rw [this]; exact Nat.le_refl _)]
              rfl
            | succ m ih =>
              intro i hi
              obtain ⟨as, h1, h2⟩ := ih (i + 1) (by omega)
              have hle : (i + 1) * ks'.length ≤ L.length := by rw [hlen]; exact Nat.mul_le_mul_right _ (by omega)
              have hmul : (i + 1) * ks'.length = i * ks'.length + ks'.length := by rw [Nat.add_mul, Nat.one_mul]
              have hmidlen : ((L.drop (i * ks'.length)).take ks'.length).length = ks'.length := by
                rw [List.length_take, List.length_drop]; omega
              have hmid : ((L.drop (i * ks'.length)).take ks'.length).map (·.1) = ks' := by
                rw [List.map_take, List.map_drop, hk, ← h]
                have : (List.replicate n ks').flatten.drop (i * ks'.length) = (List.replicate (n - i) ks').flatten := by
                  have en : n = i + (n - i) := by omega
                  conv => lhs; rw [en, ← List.replicate_append_replicate, List.flatten_append]
                  rw [List.drop_left' (by simp)]
                rw [this]
                have en : n - i = (n - i - 1) + 1 := by omega
                rw [en, List.replicate_succ, List.flatten_cons, List.take_left' rfl]
              have hh := intsT_lits d e ks' _ he hmid (fun p hp => hw p (List.mem_of_mem_drop (List.mem_of_mem_take hp))) D (by omega)
              refine ⟨((L.drop (i * ks'.length)).take ks'.length).map litI :: as, ?_, ?_⟩
              · rw [List.range'_succ, List.mapM_cons, ← hb1]
                have e1 : ((L.map valI).drop (i * ks'.length)).take ks'.length = ((L.drop (i * ks'.length)).take ks'.length).map valI := by
                  rw [List.map_take, List.map_drop]
                rw [e1, hh]
                rw [← hb1] at h1
                simp only [Option.bind_eq_bind, Option.bind_some, h1]
                rfl
              · rw [List.flatten_cons, h2, ← List.map_append, hmul, ← List.drop_drop, List.take_append_drop]
          obtain ⟨as, h1, h2⟩ := hitems n 0 (by omega)
          have e : P.keyLits (D + 1) t (L.map valI) = some (L.map litI) := by
            unfold Program.keyLits
            rw [hu]
            have hl : (L.map valI).length = P.cellsOf t := by rw [List.length_map, hlen, hb2]
            have key : ∀ cs : List Value, cs = L.map valI → (if cs.length = P.cellsOf t then ((List.range n).mapM fun i => P.keyLits D e ((cs.drop (i * P.cellsOf e)).take (P.cellsOf e))).map List.flatten else none) = some (L.map litI) := by
              rintro cs rfl
              rw [if_pos hl, List.range_eq_range', h1]
              simp only [Option.map_some, h2, Nat.zero_mul, List.drop_zero]
            exact key _ rfl
          exact e
      · simp at h
    · rename_i fs hu
      split at h
      · rename_i ks' hf
        cases hb : Nat.beq ks'.length (P.cellsOf t) with
        | false => rw [hb] at h; simp at h
        | true =>
          rw [hb] at h
          simp only [cond_true, Option.some.injEq] at h
          subst h
          have hlen : (L.map valI).length = P.cellsOf t := by
            rw [List.length_map, ← Nat.eq_of_beq_eq_true hb, ← hk, List.length_map]
          obtain ⟨hn, as, h1, h2⟩ := fieldsT_lits d 0 fs.toList ks' [] L hf rfl hk hw D (by omega)
          have e : P.keyLits (D + 1) t (L.map valI) = some (L.map litI) := by
            unfold Program.keyLits
            rw [hu]
            have hall : fs.all (·.name != "_") = true := by
              rw [← Array.all_toList]
              exact List.all_eq_true.2 hn
            have key : ∀ cs : List Value, cs = L.map valI → (if cs.length = P.cellsOf t ∧ fs.all (·.name != "_") = true then (fs.toList.mapM fun f => P.keyLits D f.type ((cs.drop f.offset).take (P.cellsOf f.type))).map List.flatten else none) = some (L.map litI) := by
              rintro cs rfl
              rw [if_pos ⟨hlen, hall⟩]
              simp only [List.nil_append] at h1
              rw [h1]
              simp only [Option.map_some, h2]
            exact key _ rfl
          exact e
      · simp at h
    · simp at h
theorem fieldsT_lits : ∀ (d off : Nat) (fs : List Field) (ks : List IntKind) (pre L : List (IntKind × Int)), fieldsT P d off fs = some ks → pre.length = off → L.map (·.1) = ks → (∀ p ∈ L, (litI p).wf = true) →
    ∀ D, d ≤ D → (∀ f ∈ fs, (f.name != "_") = true) ∧ ∃ as, (fs.mapM fun f => P.keyLits D f.type ((((pre ++ L).map valI).drop f.offset).take (P.cellsOf f.type))) = some as ∧ as.flatten = L.map litI
  | d, off, [], ks, pre, L, h, hp, hk, hw, D, hD => by
    have hks : ks = [] := by cases d <;> simp [fieldsT] at h <;> exact h
    subst hks
    have : L = [] := by simpa using hk
    subst this
    exact ⟨fun f hf => by simp at hf, [], rfl, rfl⟩
  | 0, off, f :: r, ks, pre, L, h, hp, hk, hw, D, hD => by simp [fieldsT] at h
  | d + 1, off, f :: r, ks, pre, L, h, hp, hk, hw, D, hD => by
    simp only [fieldsT] at h
    cases hb : (f.name != "_" && Nat.beq f.offset off) with
    | false => rw [hb] at h; simp at h
    | true =>
      rw [hb] at h
      simp only [cond_true] at h
      simp only [Bool.and_eq_true, Nat.beq_eq] at hb
      obtain ⟨hb1, hb2⟩ := hb
      split at h
      · rename_i k1 h1
        cases hc : Nat.beq k1.length (P.cellsOf f.type) with
        | false => rw [hc] at h; simp at h
        | true =>
          rw [hc] at h
          simp only [cond_true] at h
          have hc' := Nat.eq_of_beq_eq_true hc
          split at h
          · rename_i k2 h2
            simp only [Option.some.injEq] at h
            subst h
            -- the cells of this field, and the rest
            have hlen : L.length = k1.length + k2.length := by
              have := congrArg List.length hk
              rw [List.length_map, List.length_append] at this
              exact this
            have eL : L = L.take k1.length ++ L.drop k1.length := (List.take_append_drop _ _).symm
            have hk1 : (L.take k1.length).map (·.1) = k1 := by rw [List.map_take, hk, List.take_left' rfl]
            have hk2 : (L.drop k1.length).map (·.1) = k2 := by rw [List.map_drop, hk, List.drop_left' rfl]
            have hl1 : (L.take k1.length).length = k1.length := by rw [List.length_take]; omega
            have g1 := intsT_lits d f.type k1 (L.take k1.length) h1 hk1 (fun p hp => hw p (List.mem_of_mem_take hp)) D (by omega)
            obtain ⟨hn, as, g2, g3⟩ := fieldsT_lits d (off + k1.length) r k2 (pre ++ L.take k1.length) (L.drop k1.length) h2 (by rw [List.length_append, hp, hl1]) hk2 (fun p hp => hw p (List.mem_of_mem_drop hp)) D (by omega)
            rw [List.append_assoc, ← eL] at g2
            refine ⟨fun x hx => ?_, (L.take k1.length).map litI :: as, ?_, ?_⟩
            · rcases List.mem_cons.1 hx with rfl | hx
              · exact hb1
              · exact hn x hx
            · rw [List.mapM_cons]
              have e1 : (((pre ++ L).map valI).drop f.offset).take (P.cellsOf f.type) = (L.take k1.length).map valI := by
                have := drop_take_mid valI pre (L.take k1.length) (L.drop k1.length)
                rw [hl1, hp, List.append_assoc, ← eL] at this
                rw [hb2, ← hc']
                exact this
              rw [e1, g1, g2]
              rfl
            · rw [List.flatten_cons, g3, ← List.map_append, ← eL]
          · simp at h
      · simp at h
end

theorem eqInts_eq : ∀ (a b : List Int), eqInts a b = true ↔ a = b
  | [], [] => by simp [eqInts]
  | [], _ :: _ => by simp [eqInts]
  | _ :: _, [] => by simp [eqInts]
  | a :: r, b :: s => by
    simp only [eqInts, Bool.and_eq_true, eqB_eq, beq_iff_eq, eqInts_eq r s, List.cons.injEq]

theorem asInts_rel : ∀ (ks : List IntKind) (l : List AV) (x : List Int) (Vs : List Value), asInts ks l = some x → VRels g l Vs →
    Vs = (ks.zip x).map valI ∧ (ks.zip x).map (·.1) = ks ∧ x.length = ks.length ∧ ∀ p ∈ ks.zip x, (litI p).wf = true
  | [], [], x, Vs, h, hv => by
    simp only [asInts, Option.some.injEq] at h
    subst h
    cases hv
    exact ⟨rfl, rfl, rfl, fun p hp => by simp at hp⟩
  | [], _ :: _, x, Vs, h, hv => by simp [asInts] at h
  | k :: ks, [], x, Vs, h, hv => by simp [asInts] at h
  | k :: ks, v :: r, x, Vs, h, hv => by
    cases v <;> simp only [asInts, reduceCtorEq] at h
    rename_i k' n
    cases hb : (decide (k = k') && eqB (k.wrap n) n) with
    | false => rw [hb] at h; simp at h
    | true =>
      rw [hb] at h
      simp only [cond_true] at h
      simp only [Bool.and_eq_true, decide_eq_true_eq, eqB_eq, beq_iff_eq] at hb
      obtain ⟨rfl, hwr⟩ := hb
      cases hr : asInts ks r with
      | none => rw [hr] at h; simp at h
      | some l =>
        rw [hr] at h
        simp only [Option.some.injEq] at h
        subst h
        cases hv with
        | cons h1 t =>
          cases h1
          obtain ⟨e1, e2, e3, e4⟩ := asInts_rel ks r l _ hr t
          refine ⟨by simp only [List.zip_cons_cons, List.map_cons, e1]; rfl, by simp only [List.zip_cons_cons, List.map_cons, e2], by simp [e3], ?_⟩
          intro p hp
          simp only [List.zip_cons_cons] at hp
          rcases List.mem_cons.1 hp with rfl | hp
          · have hwi := wrap_within k n
            rw [hwr] at hwi
            simp only [litI, Lit.wf, Bool.and_eq_true, decide_eq_true_eq]
            exact hwi
          · exact e4 p hp

/-- What is asked of a type at compiling. -/
def aggOk (P : Program) (t : TypeId) (ks : List IntKind) : Bool :=
  decide (intsT P 20 t = some ks) && P.keyTypeAt 20 t && !(P.eqGuardType P.depth t) && Nat.beq ks.length (P.cellsOf t) &&
  (match P.underlying t with | some (.struct _) => true | some (.array _ _) => true | _ => false)

theorem eqAgg_run {t : TypeId} {ks : List IntKind} (hok : aggOk P t ks = true) {a b : List AV} {A B : Array Value} (ha : VRels g a A.toList) (hb : VRels g b B.toList) {x y : List Int}
    (hx : asInts ks a = some x) (hy : asInts ks b = some y) : (Op.equal t (.agg A) (.agg B)).run P w = .ok (eqInts x y) w := by
  simp only [aggOk, Bool.and_eq_true, decide_eq_true_eq, Nat.beq_eq, Bool.not_eq_true'] at hok
  obtain ⟨⟨⟨⟨h1, h2⟩, h3⟩, h4⟩, h5⟩ := hok
  obtain ⟨e1, e2, e3, e4⟩ := asInts_rel ks a x _ hx ha
  obtain ⟨f1, f2, f3, f4⟩ := asInts_rel ks b y _ hy hb
  have sz : ∀ (C : Array Value) (z : List Int), C.toList = (ks.zip z).map valI → z.length = ks.length → (Value.agg C).formed P t = true := by
    intro C z hC hz
    have hs : C.size = P.cellsOf t := by rw [← Array.length_toList, hC, List.length_map, List.length_zip, hz, Nat.min_self, h4]
    unfold Value.formed
    revert h5
    cases P.underlying t with
    | none => simp
    | some d => cases d <;> simp [hs]
  have kx := intsT_lits 20 t ks (ks.zip x) h1 e2 e4 20 (Nat.le_refl _)
  have ky := intsT_lits 20 t ks (ks.zip y) h1 f2 f4 20 (Nat.le_refl _)
  obtain ⟨r, hr, hiff⟩ := run_equalIn_deep 9980 20 t h2 w 20 20 (.agg A) (.agg B) _ _ (sz A x e1 e3) (sz B y f1 f3) (by show P.keyLits 20 t A.toList = _; rw [e1]; exact kx) (by show P.keyLits 20 t B.toList = _; rw [f1]; exact ky)
  have : r = eqInts x y := by
    rw [Bool.eq_iff_iff, hiff, eqInts_eq]
    constructor
    · intro h
      have h' := congrArg (List.map fun l => match l with | Lit.int _ n => n | _ => 0) h
      simp only [List.map_map] at h'
      have hz : ∀ z : List Int, z.length = ks.length → (ks.zip z).map ((fun l => match l with | Lit.int _ n => n | _ => 0) ∘ litI) = z := by
        intro z hz
        have : ((fun l => match l with | Lit.int _ n => n | _ => 0) ∘ litI) = fun p : IntKind × Int => p.2 := by funext p; rfl
        rw [this]
        exact List.map_snd_zip (by omega)
      rw [hz x e3, hz y f3] at h'
      exact h'
    · rintro rfl; rfl
  rw [← this]
  exact hr

end
end
end Go.Ax

/- Operations that read memory: all together. No condition. -/
set_option linter.unusedVariables false
set_option linter.unusedSimpArgs false
namespace Go.Ax
noncomputable section

def isConstO : Operand → Bool
  | .const _ => true
  | _ => false

/-- The types, below a number, of pointers that may stand in an interface and be compared. -/
def ptsOf (P : Program) : List Nat := (List.range P.types.size).filter (ifOk P)

def compEq (P : Program) (pts : List Nat) (neg : Bool) (t : TypeId) (x y : Operand) : Option (RK × List Operand) :=
  match und P t with
  | .pointer _ => cond (ptrOk P t) (some (.eqPtr neg, [x, y])) none
  | .interface _ => some (.eqIface neg (isConstO x || isConstO y) pts, [x, y])
  | .slice _ => some (.eqNil .sl neg, [x, y])
  | .map _ _ => some (.eqNil .mp neg, [x, y])
  | .func _ _ _ => some (.eqNil .fn neg, [x, y])
  | .struct _ => match intsT P 20 t with
    | some ks => cond (aggOk P t ks) (some (.eqAgg neg ks, [x, y])) none
    | none => none
  | .array _ _ => match intsT P 20 t with
    | some ks => cond (aggOk P t ks) (some (.eqAgg neg ks, [x, y])) none
    | none => none
  | _ => none

def compR (P : Program) (pts : List Nat) (o : Oper) : Option (RK × List Operand) :=
  match o.op with
  | .load t a => match lay P t with
    | some (n, true) => some (.loadN n, [a])
    | some (_, false) => some (.load1, [a])
    | none => none
  | .lookup t m i ok => match und P t with
    | .map k e => match und P k, zeroA P e with
      | .string, some z => some (.lookup z ok, [m, i])
      | _, _ => none
    | _ => none
  | .convert s d x => match und P s, und P d with
    | .slice e, .string => match und P e with
      | .int .u8 => some (.bytesStr, [x])
      | _ => none
    | _, _ => none
  | .call ⟨.builtin .len, args, ts⟩ => match args.toList, ts.toList with
    | [x], [t] => match und P t with
      | .map _ _ => some (.lenMap, [x])
      | _ => none
    | _, _ => none
  | .binOp .eql t x y _ => compEq P pts false t x y
  | .binOp .neq t x y _ => compEq P pts true t x y
  | _ => none

section
variable {P : Program} {g : G} {ρ : Operand → Value} {H : AH} {w : World}

def refA : AV → Bool
  | .ptr _ _ | .nilp | .slice _ _ _ _ _ _ | .nils | .map _ | .nilm | .func _ _ _ | .nilf | .iface _ _ | .nili => true
  | _ => false

theorem binOp_ref {t : TypeId} {x y : AV} {X Y : Value} (hx : VRel g x X) (hy : VRel g y Y) (rx : refA x = true) (ry : refA y = true) (op : BinOp) (h : op = .eql ∨ op = .neq) :
    Go.binOp op t X Y = (if op = .eql then (do Pure.pure (.bool (← Op.equal t X Y))) else (do Pure.pure (.bool (!(← Op.equal t X Y))))) := by
  rcases h with rfl | rfl
  · cases hx <;> simp [refA] at rx <;> cases hy <;> simp [refA] at ry <;> rfl
  · cases hx <;> simp [refA] at rx <;> cases hy <;> simp [refA] at ry <;> rfl

theorem guard_ref {op : BinOp} {t : TypeId} {x y : Operand} {a b : AV} (hx : VRel g a (ρ x)) (hy : VRel g b (ρ y)) (ra : refA a = true) (rb : refA b = true)
    (hn : a = .nili → b = .nili → (isConstO x || isConstO y) = true) : (eqGuard op t x y (ρ x) (ρ y)).run P w = .ok () w := by
  by_cases hop : op = .eql ∨ op = .neq
  · have hop' : (!(match op with | .eql | .neq => true | _ => false)) = false := by rcases hop with rfl | rfl <;> rfl
    by_cases hab : a = .nili ∧ b = .nili
    · obtain ⟨rfl, rfl⟩ := hab
      have hc := hn rfl rfl
      generalize hX : ρ x = X at *
      generalize hY : ρ y = Y at *
      cases hx; cases hy
      simp only [Bool.or_eq_true] at hc
      rcases hop with rfl | rfl <;> cases x <;> cases y <;> simp [isConstO] at hc <;> rfl
    · generalize hX : ρ x = X at *
      generalize hY : ρ y = Y at *
      rcases hop with rfl | rfl <;> cases hx <;> simp [refA] at ra <;> cases hy <;> simp [refA] at rb <;> first | rfl | (exact absurd ⟨rfl, rfl⟩ hab)
  · unfold eqGuard
    cases op <;> first | rfl | exact absurd (.inl rfl) hop | exact absurd (.inr rfl) hop

theorem eqPtrA_ref {x y : AV} {b : Bool} (h : eqPtrA H x y = some b) : refA x = true ∧ refA y = true ∧ ¬ (x = .nili) := by
  cases x <;> cases y <;> simp [eqPtrA] at h <;> simp [refA]

theorem eqIfaceA_ref {gd : Bool} {pts : List Nat} {x y : AV} {b : Bool} (h : eqIfaceA H gd pts x y = some b) : refA x = true ∧ refA y = true ∧ (x = .nili → y = .nili → gd = true) := by
  cases x <;> cases y <;> simp [eqIfaceA] at h <;> simp [refA]
  cases gd <;> simp_all

theorem eqNilA_ref {k : NK} {x y : AV} {b : Bool} (h : eqNilA k x y = some b) : refA x = true ∧ refA y = true ∧ ¬ (x = .nili) := by
  cases k <;> cases x <;> cases y <;> simp [eqNilA] at h <;> simp [refA]

theorem eqAgg_sound {o : Oper} {neg : Bool} {t : TypeId} {x y : Operand} {yt : TypeId} (ho : o.op = .binOp (cond neg .neq .eql) t x y yt) {ks : List IntKind} (hok : aggOk P t ks = true) {args : List AV} {v : AV}
    (hv : VRels g args ([x, y].map ρ)) (he : evalR H (.eqAgg neg ks) args = some v) : AnsW P g w v (execOp ρ o) := by
  have he' : rEqAgg neg ks args = some v := he
  unfold rEqAgg at he'
  split at he'
  · rename_i a b
    cases hv with | cons h1 tl => cases tl with | cons h2 tl => cases tl with | nil =>
    generalize hX : ρ x = X at h1
    generalize hY : ρ y = Y at h2
    cases h1 with
    | agg ha =>
      cases h2 with
      | agg hb =>
        split at he'
        · rename_i x1 y1 hx hy
          simp only [Option.some.injEq] at he'
          subst he'
          refine eq_of_equalIn ho w ?_ ?_ (by rw [hX, hY]; exact eqAgg_run hok ha hb hx hy)
          · have hg : P.eqGuardType P.depth t = false := by
              simp only [aggOk, Bool.and_eq_true, Bool.not_eq_true'] at hok
              exact hok.1.1.2
            rw [hX, hY]
            unfold eqGuard
            cases neg <;> simp [hg]
          · rw [hX, hY]
            rintro op (rfl | rfl) <;> rfl
        · simp at he'
  · simp at he'

theorem compEq_sound (hS : Sim g H w) {o : Oper} {pts : List Nat} (hp : ∀ u ∈ pts, ifOk P u = true) {neg : Bool} {t : TypeId} {x y : Operand} {yt : TypeId} (ho : o.op = .binOp (cond neg .neq .eql) t x y yt)
    {rk : RK} {xs : List Operand} (hc : compEq P pts neg t x y = some (rk, xs)) {args : List AV} {v : AV} (hv : VRels g args (xs.map ρ)) (he : evalR H rk args = some v) : AnsW P g w v (execOp ρ o) := by
  unfold compEq at hc
  have two : ∀ {r : Option AV}, xs = [x, y] → ∀ f : AV → AV → Option Bool, two2 neg f args = some v →
      ∃ a b r, args = [a, b] ∧ f a b = some r ∧ v = .bool (xor r neg) ∧ VRel g a (ρ x) ∧ VRel g b (ρ y) := by
    intro _ hx f hh
    subst hx
    cases hv with | cons h1 tl => cases tl with | cons h2 tl => cases tl with | nil =>
    rename_i a b
    simp only [two2] at hh
    cases hf : f a b with
    | none => rw [hf] at hh; simp [negB] at hh
    | some r =>
      rw [hf] at hh
      simp only [negB, Option.some.injEq] at hh
      exact ⟨a, b, r, rfl, hf, hh.symm, h1, h2⟩
  split at hc
  · rename_i e hu
    cases hq : ptrOk P t with
    | false => rw [hq] at hc; simp at hc
    | true =>
      rw [hq] at hc
      simp only [cond_true, Option.some.injEq, Prod.mk.injEq] at hc
      obtain ⟨rfl, rfl⟩ := hc
      have he' : two2 neg (eqPtrA H) args = some v := he
      obtain ⟨a, b, r, rfl, hf, rfl, h1, h2⟩ := two (r := none) rfl (eqPtrA H) he'
      obtain ⟨ra, rb, rn⟩ := eqPtrA_ref hf
      exact eq_of_equalIn ho w (guard_ref h1 h2 ra rb (fun e => absurd e rn)) (binOp_ref h1 h2 ra rb) (eqPtr_run hS hq h1 h2 hf 9999)
  · rename_i ms hu
    simp only [Option.some.injEq, Prod.mk.injEq] at hc
    obtain ⟨rfl, rfl⟩ := hc
    have he' : two2 neg (eqIfaceA H (isConstO x || isConstO y) pts) args = some v := he
    obtain ⟨a, b, r, rfl, hf, rfl, h1, h2⟩ := two (r := none) rfl (eqIfaceA H (isConstO x || isConstO y) pts) he'
    obtain ⟨ra, rb, rn⟩ := eqIfaceA_ref hf
    exact eq_of_equalIn ho w (guard_ref h1 h2 ra rb rn) (binOp_ref h1 h2 ra rb) (eqIface_run hS hu hp h1 h2 hf 9998)
  · rename_i e hu
    simp only [Option.some.injEq, Prod.mk.injEq] at hc
    obtain ⟨rfl, rfl⟩ := hc
    have he' : two2 neg (eqNilA .sl) args = some v := he
    obtain ⟨a, b, r, rfl, hf, rfl, h1, h2⟩ := two (r := none) rfl (eqNilA .sl) he'
    obtain ⟨ra, rb, rn⟩ := eqNilA_ref hf
    exact eq_of_equalIn ho w (guard_ref h1 h2 ra rb (fun e => absurd e rn)) (binOp_ref h1 h2 ra rb) (eqNil_run (by simp [nkOk, hu]) h1 h2 hf 9999)
  · rename_i k e hu
    simp only [Option.some.injEq, Prod.mk.injEq] at hc
    obtain ⟨rfl, rfl⟩ := hc
    have he' : two2 neg (eqNilA .mp) args = some v := he
    obtain ⟨a, b, r, rfl, hf, rfl, h1, h2⟩ := two (r := none) rfl (eqNilA .mp) he'
    obtain ⟨ra, rb, rn⟩ := eqNilA_ref hf
    exact eq_of_equalIn ho w (guard_ref h1 h2 ra rb (fun e => absurd e rn)) (binOp_ref h1 h2 ra rb) (eqNil_run (by simp [nkOk, hu]) h1 h2 hf 9999)
  · rename_i a b c hu
    simp only [Option.some.injEq, Prod.mk.injEq] at hc
    obtain ⟨rfl, rfl⟩ := hc
    have he' : two2 neg (eqNilA .fn) args = some v := he
    obtain ⟨a, b, r, rfl, hf, rfl, h1, h2⟩ := two (r := none) rfl (eqNilA .fn) he'
    obtain ⟨ra, rb, rn⟩ := eqNilA_ref hf
    exact eq_of_equalIn ho w (guard_ref h1 h2 ra rb (fun e => absurd e rn)) (binOp_ref h1 h2 ra rb) (eqNil_run (by simp [nkOk, hu]) h1 h2 hf 9999)
  · split at hc
    · rename_i ks _
      cases hok : aggOk P t ks with
      | false => rw [hok] at hc; simp at hc
      | true =>
        rw [hok] at hc
        simp only [cond_true, Option.some.injEq, Prod.mk.injEq] at hc
        obtain ⟨rfl, rfl⟩ := hc
        exact eqAgg_sound ho hok hv he
    · simp at hc
  · split at hc
    · rename_i ks _
      cases hok : aggOk P t ks with
      | false => rw [hok] at hc; simp at hc
      | true =>
        rw [hok] at hc
        simp only [cond_true, Option.some.injEq, Prod.mk.injEq] at hc
        obtain ⟨rfl, rfl⟩ := hc
        exact eqAgg_sound ho hok hv he
    · simp at hc
  · simp at hc

theorem compR_sound (hS : Sim g H w) {o : Oper} {pts : List Nat} (hp : ∀ u ∈ pts, ifOk P u = true) {rk : RK} {xs : List Operand} (hc : compR P pts o = some (rk, xs)) {args : List AV} {v : AV}
    (hv : VRels g args (xs.map ρ)) (he : evalR H rk args = some v) : AnsW P g w v (execOp ρ o) := by
  unfold compR at hc
  split at hc
  · rename_i t a ho
    split at hc
    · rename_i n hl
      simp only [Option.some.injEq, Prod.mk.injEq] at hc
      obtain ⟨rfl, rfl⟩ := hc
      exact (snr_loadN hS hl hv he).eq (by simp only [execOp, ho])
    · rename_i n hl
      simp only [Option.some.injEq, Prod.mk.injEq] at hc
      obtain ⟨rfl, rfl⟩ := hc
      exact (snr_load1 hS hl hv he).eq (by simp only [execOp, ho])
    · simp at hc
  · rename_i t m i ok ho
    split at hc
    · rename_i k e hu
      split at hc
      · rename_i z hk hz
        simp only [Option.some.injEq, Prod.mk.injEq] at hc
        obtain ⟨rfl, rfl⟩ := hc
        exact (snr_lookup hS hu hk hz hv he).eq (by simp only [execOp, ho])
      · simp at hc
    · simp at hc
  · rename_i s d x ho
    split at hc
    · rename_i e hs hd
      split at hc
      · rename_i hb
        simp only [Option.some.injEq, Prod.mk.injEq] at hc
        obtain ⟨rfl, rfl⟩ := hc
        exact (snr_bytesStr hS hs hd hb hv he).eq (by simp only [execOp, ho])
      · simp at hc
    · simp at hc
  · rename_i as ts ho
    split at hc
    · rename_i x t h1 h2
      split at hc
      · rename_i k e hu
        simp only [Option.some.injEq, Prod.mk.injEq] at hc
        obtain ⟨rfl, rfl⟩ := hc
        exact snr_lenMap hS ho h1 h2 hu hv he
      · simp at hc
    · simp at hc
  · rename_i t x y yt ho
    exact compEq_sound hS hp (neg := false) ho hc hv he
  · rename_i t x y yt ho
    exact compEq_sound hS hp (neg := true) ho hc hv he
  · simp at hc

end
end
end Go.Ax


/- Operations that make memory. No condition. -/
import Derived.Test.YthbfgbfgkkhoiaaGreatDoorAx2
set_option linter.unusedVariables false
set_option linter.unusedSimpArgs false
namespace Go.Ax
noncomputable section

/-- A block's cells out of a list. -/
def mkCells (l : List AV) : ABlk := .cells l.length (Tr.setFrom 0 l .lf) true

def repA (z : List AV) : Nat → List AV
  | 0 => []
  | c + 1 => z ++ repA z c

def unpA : Nat → Nat → List AV
  | 0, _ => []
  | n + 1, v => .int .u8 (.ofNat (Nat.mod v 256)) :: unpA n (Nat.div v 256)

inductive AK where
  | alloc (cells : List AV)
  | box
  | buildSlice (esz len : Nat) (zero : List AV) (places : List (Nat × Nat))
  | makeSlice (esz bytes : Nat) (zero : List AV)
  | makeMap
  | strBytes
  deriving Inhabited

def aBox (id : K) : List AV → Option (ABlk × AV)
  | [v] => some (mkCells v.cells, .ptr id 0)
  | _ => none
def aBuildSlice (esz len : Nat) (zero : List AV) (places : List (Nat × Nat)) (id : K) (l : List AV) : Option (ABlk × AV) :=
  match fillA places l zero with
  | some cs => some (mkCells cs, .slice id 0 esz len len true)
  | none => none
def aMakeSlice (esz bytes : Nat) (zero : List AV) (id : K) : List AV → Option (ABlk × AV)
  | [.int _ (.ofNat l), .int _ (.ofNat c)] =>
    cond (Nat.ble l c && Nat.ble c 140737488355328 && Nat.ble (Nat.mul bytes c) 281474976710656) (some (mkCells (repA zero c), .slice id 0 esz l c true)) none
  | _ => none
def aMakeMap (id : K) : List AV → Option (ABlk × AV)
  | [] => some (.map [] 0, .map id)
  | [.int _ _] => some (.map [] 0, .map id)
  | _ => none
def aStrBytes (id : K) : List AV → Option (ABlk × AV)
  | [.str n v] => some (mkCells (unpA n v), .slice id 0 1 n n false)
  | _ => none
def aAlloc (cells : List AV) (id : K) : List AV → Option (ABlk × AV)
  | [] => some (mkCells cells, .ptr id 0)
  | _ => none

def evalA (id : K) : AK → List AV → Option (ABlk × AV)
  | .alloc cells => aAlloc cells id
  | .box => aBox id
  | .buildSlice esz len zero places => aBuildSlice esz len zero places id
  | .makeSlice esz bytes zero => aMakeSlice esz bytes zero id
  | .makeMap => aMakeMap id
  | .strBytes => aStrBytes id

/-- A heap with one block more (or another one under its id). -/
def AH.put (H : AH) (id : K) (b : ABlk) (nx : K) : AH := ⟨H.h.set id b, nx⟩

theorem AH.get_put (H : AH) (id : K) (b : ABlk) (nx : K) (j : K) : (H.put id b nx).get j = if id = j then b else H.get j := by
  unfold AH.put AH.get
  simp only [Tr.get_set]
  by_cases h : id = j <;> simp [h]

def G.put (g : G) (id : K) (x : Nat × Nat × Nat) : G := fun k => if k = id then some x else g k

theorem G.put_same (g : G) (id : K) (x : Nat × Nat × Nat) : g.put id x id = some x := by simp [G.put]
theorem G.put_ne (g : G) {id k : K} (x : Nat × Nat × Nat) (h : k ≠ id) : g.put id x k = g k := by simp [G.put, h]
theorem G.le_put {g : G} {id : K} (x : Nat × Nat × Nat) (h : g id = none) : g.le (g.put id x) := by
  intro k y e
  by_cases hk : k = id
  · subst hk; rw [h] at e; simp at e
  · rw [G.put_ne g x hk]; exact e

/-- A new block: the step. -/
theorem alloc_step {g : G} {H : AH} {w w' : World} (hS : Sim g H w) {id nx' : K} {blk : ABlk} {o : Obj} {S : Nat} (hg : g id = none) (hdead : (H.get id).live = false) (hnx : id.toNat < nx'.toNat) (hle : H.nx.toNat ≤ nx'.toNat)
    (hh : w'.heap = w.heap.push o) (ho : w'.os = w.os) (ht : w'.tape = w.tape) (hu : w'.output = w.output)
    (hb : BRel (g.put id (w.heap.size, 0, S)) w' w.heap.size 0 S blk) :
    Step0 g H w (g.put id (w.heap.size, 0, S)) (H.put id blk nx') w' := by
  have hlg := G.le_put (w.heap.size, 0, S) hg
  have hold : ∀ B, B < w.heap.size → w'.heap[B]? = w.heap[B]? := by
    intro B hB
    rw [hh, Array.getElem?_push, if_neg (by omega)]
  have hsz : w'.heap.size = w.heap.size + 1 := by rw [hh]; simp
  refine ⟨⟨?_, ?_, ?_, ?_⟩, hlg, hle, ?_, fun B hB _ => hold B hB, by omega, ho, ht, hu⟩
  · intro k hl
    rw [AH.get_put] at hl ⊢
    by_cases hk : id = k
    · subst hk
      rw [if_pos rfl]
      exact ⟨_, _, _, G.put_same _ _ _, hb⟩
    · rw [if_neg hk] at hl ⊢
      obtain ⟨B, O, S', h1, h2⟩ := hS.blk k hl
      exact ⟨B, O, S', hlg _ _ h1, (h2.of_block (hold B (hS.size k B _ h1))).mono hlg⟩
  · intro k k' B x x' hl hl' e e'
    rw [AH.get_put] at hl hl'
    by_cases hk : id = k
    · by_cases hk' : id = k'
      · exact .inl (by rw [← hk, ← hk'])
      · subst hk
        rw [if_neg hk'] at hl'
        rw [G.put_same] at e
        rw [G.put_ne g _ (fun h => hk' h.symm)] at e'
        simp only [Option.some.injEq, Prod.mk.injEq] at e
        have := hS.size k' B x' e'
        omega
    · by_cases hk' : id = k'
      · subst hk'
        rw [if_neg hk] at hl
        rw [G.put_same] at e'
        rw [G.put_ne g _ (fun h => hk h.symm)] at e
        simp only [Option.some.injEq, Prod.mk.injEq] at e'
        have := hS.size k B x e
        omega
      · rw [if_neg hk] at hl
        rw [if_neg hk'] at hl'
        rw [G.put_ne g _ (fun h => hk h.symm)] at e
        rw [G.put_ne g _ (fun h => hk' h.symm)] at e'
        rw [AH.get_put, if_neg hk, AH.get_put, if_neg hk']
        exact hS.inj k k' B x x' hl hl' e e'
  · intro k B x e
    by_cases hk : k = id
    · subst hk
      rw [G.put_same] at e
      simp only [Option.some.injEq, Prod.mk.injEq] at e
      omega
    · rw [G.put_ne g _ hk] at e
      have := hS.size k B x e
      omega
  · intro k x e
    by_cases hk : k = id
    · subst hk; exact hnx
    · rw [G.put_ne g _ hk] at e
      exact Nat.lt_of_lt_of_le (hS.fresh k x e) hle
  · intro k B x hl e
    rw [AH.get_put] at hl ⊢
    by_cases hk : id = k
    · subst hk
      rw [G.put_same] at e
      simp only [Option.some.injEq, Prod.mk.injEq] at e
      exact .inl (by omega)
    · rw [if_neg hk] at hl ⊢
      rw [G.put_ne g _ (fun h => hk h.symm)] at e
      exact .inr (.inr ⟨hl, rfl, e⟩)

theorem Tr.get_mk (l : List AV) (i : Nat) (h : i < l.length) : (Tr.setFrom 0 l .lf).get (K.of i) = l[i]? := by
  rw [Tr.get_setFrom, if_pos (by omega)]
  rfl

theorem mkCells_rel {g : G} {w : World} {B : Nat} {l : List AV} {C : Array Value} {T : TypeId} {fz : Nat × Nat} (hr : ∀ i, i < l.length → ∃ v V, l[i]? = some v ∧ C[i]? = some V ∧ VRel g v V) (hl : l.length ≤ C.size)
    (hh : w.heap[B]? = some (.cells C T fz)) (hf : ∀ o, o < C.size → ¬ (fz.1 ≤ o ∧ o < fz.2)) : BRel g w B 0 C.size (mkCells l) := by
  refine ⟨C, T, fz, hh, ⟨by omega, ?_, fun o _ h => hf o h, fun h => by simp at h⟩, rfl⟩
  intro i hi
  obtain ⟨v, V, h1, h2, h3⟩ := hr i hi
  exact ⟨v, V, by rw [Tr.get_mk l i hi, h1], by rw [Nat.zero_add]; exact h2, h3⟩

theorem VRels.at {g : G} {l : List AV} {Vs : List Value} (h : VRels g l Vs) (i : Nat) (hi : i < l.length) : ∃ v V, l[i]? = some v ∧ Vs[i]? = some V ∧ VRel g v V := by
  obtain ⟨X, h1, h2⟩ := h.get i l[i] (List.getElem?_eq_getElem hi)
  exact ⟨_, X, List.getElem?_eq_getElem hi, h1, h2⟩

theorem repA_length (z : List AV) : ∀ c, (repA z c).length = c * z.length
  | 0 => by simp [repA]
  | c + 1 => by simp only [repA, List.length_append, repA_length z c, Nat.add_mul, Nat.one_mul]; omega

theorem repA_get (z : List AV) : ∀ (c i : Nat), i < c * z.length → (repA z c)[i]? = z[i % z.length]?
  | 0, i, h => by simp at h
  | c + 1, i, h => by
    simp only [repA]
    by_cases hi : i < z.length
    · rw [List.getElem?_append_left hi, Nat.mod_eq_of_lt hi]
    · rw [List.getElem?_append_right (by omega), repA_get z c _ (by rw [Nat.add_mul, Nat.one_mul] at h; omega)]
      congr 1
      rw [Nat.mod_eq_sub_mod (a := i) (by omega)]

/-- Zero cells, as the model lays them. -/
theorem zeros_rel {g : G} {z : List AV} {Z : Array Value} (hz : VRels g z Z.toList) (c n : Nat) (hn : n = c * z.length) :
    ∀ i, i < (repA z c).length → ∃ v V, (repA z c)[i]? = some v ∧ ((Array.range n).map fun i => Z[i % Z.size]!)[i]? = some V ∧ VRel g v V := by
  intro i hi
  rw [repA_length] at hi
  rw [repA_get z c i hi]
  have hzl := hz.length
  rw [Array.length_toList] at hzl
  have hz0 : 0 < z.length := by
    rcases Nat.eq_zero_or_pos z.length with h | h
    · rw [h, Nat.mul_zero] at hi; omega
    · exact h
  have hm : i % z.length < z.length := Nat.mod_lt _ hz0
  obtain ⟨v, V, h1, h2, h3⟩ := hz.at (i % z.length) hm
  refine ⟨v, V, h1, ?_, h3⟩
  rw [Array.getElem?_toList] at h2
  rw [Array.getElem?_map, Array.getElem?_range, if_pos (by omega)]
  simp only [Option.map_some]
  rw [hzl, Array.getElem!_eq_getD, Array.getD_eq_getD_getElem?, h2]
  rfl

theorem unpA_rel (g : G) : ∀ (n v : Nat), VRels g (unpA n v) ((unp n v).map fun b => Value.int .u8 (b.toNat : Int))
  | 0, _ => .nil
  | n + 1, v => by
    simp only [unpA, unp, List.map_cons]
    refine .cons ?_ (unpA_rel g n (v / 256))
    have : (UInt8.ofNat (v % 256)).toNat = v % 256 := by rw [UInt8.toNat_ofNat']; omega
    rw [this]
    exact .int _ _

theorem unpA_length : ∀ n v, (unpA n v).length = n
  | 0, _ => rfl
  | n + 1, v => by simp [unpA, unpA_length n]

/-! ### Compiling -/

def compA (P : Program) (o : Oper) : Option (AK × List Operand) :=
  match o.op with
  | .alloc t => match zeroA P t with | some z => some (.alloc z.cells, []) | none => none
  | .box t x => some (.box, [x])
  | .buildSlice t n ps => match und P t with
    | .slice e => match P.info? e, zeroA P e with
      | some j, some z => cond (Nat.beq z.cells.length j.size && Nat.ble (Nat.mul n j.size) 16777216) (some (.buildSlice j.size n (repA z.cells n) (ps.toList.map fun p => (Nat.mul p.1 j.size, j.size)), ps.toList.map (·.2))) none
      | _, _ => none
    | _ => none
  | .makeSlice t l c => match und P t with
    | .slice e => match P.info? e, zeroA P e with
      | some j, some z => cond (Nat.beq z.cells.length j.size) (some (.makeSlice j.size j.bytes z.cells, [l, c])) none
      | _, _ => none
    | _ => none
  | .makeMap t r => match und P t with
    | .map _ _ => some (.makeMap, r.toList)
    | _ => none
  | .convert s d x => match und P s, und P d with
    | .string, .slice e => match und P e with
      | .int .u8 => some (.strBytes, [x])
      | _ => none
    | _, _ => none
  | _ => none

/-- A new block under the next id: a step. -/
theorem Step0.toStep {g : G} {H H' : AH} {w w' : World} {x : Nat × Nat × Nat} (h : Step0 g H w (g.put H.nx x) H' w') : Step g H w (g.put H.nx x) H' w' :=
  ⟨h.sim, h.le, h.nx, h.own, h.frame, h.size, h.os, h.tape, h.output, fun j hj hn => by
    rw [G.put_ne g _ (fun e => by subst e; omega)]; exact hn⟩

theorem Step0.toStep' {g : G} {H H' : AH} {w w' : World} {id : K} {x : Nat × Nat × Nat} (h : Step0 g H w (g.put id x) H' w') (hid : H.nx.toNat ≤ id.toNat) : Step g H w (g.put id x) H' w' :=
  ⟨h.sim, h.le, h.nx, h.own, h.frame, h.size, h.os, h.tape, h.output, fun j hj hn => by
    rw [G.put_ne g _ (fun e => by subst e; omega)]; exact hn⟩

/-- It answers, and steps. -/
def AnsS (P : Program) (id : K) (g : G) (H : AH) (w : World) (v : AV) (H' : AH) (s : Sem Next) : Prop :=
  ∃ x V w', Step0 g H w (g.put id x) H' w' ∧ VRel (g.put id x) v V ∧ s.run P w = .ok (.value V) w'

theorem AnsS.eq {P : Program} {id : K} {g : G} {H H' : AH} {w : World} {v : AV} {s s' : Sem Next} (h : AnsS P id g H w v H' s') (e : s = s') : AnsS P id g H w v H' s := e ▸ h

theorem AnsS.of {P : Program} {id : K} {g : G} {H H' : AH} {w : World} {v : AV} {s : Sem Value} (h : ∃ x V w', Step0 g H w (g.put id x) H' w' ∧ VRel (g.put id x) v V ∧ s.run P w = .ok V w') :
    AnsS P id g H w v H' (do pure (.value (← s))) := by
  obtain ⟨g', V, w', h1, h2, h3⟩ := h
  exact ⟨g', V, w', h1, h2, by simp [h3]⟩

section
variable {P : Program} {g : G} {ρ : Operand → Value} {H : AH} {w : World}

/-- A new row of cells. -/
theorem row_step (hS : Sim g H w) {id nx' : K} {l : List AV} {C : Array Value} {T : TypeId} (hg : g id = none) (hdead : (H.get id).live = false) (hnx : id.toNat < nx'.toNat) (hle : H.nx.toNat ≤ nx'.toNat)
    (hr : ∀ i, i < l.length → ∃ v V, l[i]? = some v ∧ C[i]? = some V ∧ VRel g v V) (hl : l.length ≤ C.size) :
    Step0 g H w (g.put id (w.heap.size, 0, C.size)) (H.put id (mkCells l) nx') { w with heap := w.heap.push (.cells C T) } := by
  refine alloc_step hS hg hdead hnx hle (o := .cells C T) rfl rfl rfl rfl ?_
  refine mkCells_rel (T := T) (fz := (0, 0)) ?_ hl (by simp) (fun o _ h => by omega)
  intro i hi
  obtain ⟨v, V, h1, h2, h3⟩ := hr i hi
  exact ⟨v, V, h1, h2, h3.mono (G.le_put _ hg)⟩

theorem sna_alloc (hS : Sim g H w) {id nx' : K} (hg : g id = none) (hdead : (H.get id).live = false) (hnx : id.toNat < nx'.toNat) (hle : H.nx.toNat ≤ nx'.toNat)
    {t : TypeId} {z : AV} (hz : zeroA P t = some z) {args : List AV} {blk : ABlk} {v : AV} (he : aAlloc z.cells id args = some (blk, v)) :
    AnsS P id g H w v (H.put id blk nx') (do pure (.value (← Go.Instr.alloc t true (.tuple #[])))) := by
  obtain ⟨Z, hZ, hZw⟩ := zeroA_run hz g
  unfold aAlloc at he
  split at he
  · simp only [Option.some.injEq, Prod.mk.injEq] at he
    obtain ⟨rfl, rfl⟩ := he
    have hc := hZ.cells
    have hlen := hc.length
    rw [Array.length_toList] at hlen
    refine .of ⟨_, _, _, row_step hS (C := Z.cells) (T := t) hg hdead hnx hle (fun i hi => by
      obtain ⟨v, V, h1, h2, h3⟩ := hc.at i hi
      rw [Array.getElem?_toList] at h2
      exact ⟨v, V, h1, h2, h3⟩) (by omega), .ptr (G.put_same _ _ _), ?_⟩
    simp [Go.Instr.alloc, hZw w, newVar, newRow]
  · simp at he

theorem sna_box (hS : Sim g H w) {id nx' : K} (hg : g id = none) (hdead : (H.get id).live = false) (hnx : id.toNat < nx'.toNat) (hle : H.nx.toNat ≤ nx'.toNat)
    {t : TypeId} {x : Operand} {args : List AV} (hv : VRels g args [ρ x]) {blk : ABlk} {v : AV} (he : aBox id args = some (blk, v)) :
    AnsS P id g H w v (H.put id blk nx') (do pure (.value (← Go.Instr.box t (ρ x)))) := by
  unfold aBox at he
  split at he
  · simp only [Option.some.injEq, Prod.mk.injEq] at he
    obtain ⟨rfl, rfl⟩ := he
    cases hv with | cons h1 tl =>
    have hc := h1.cells
    have hlen := hc.length
    rw [Array.length_toList] at hlen
    refine .of ⟨_, _, _, row_step hS (C := (ρ x).cells) (T := t) hg hdead hnx hle (fun i hi => by
      obtain ⟨v, V, h1, h2, h3⟩ := hc.at i hi
      rw [Array.getElem?_toList] at h2
      exact ⟨v, V, h1, h2, h3⟩) (by omega), .ptr (G.put_same _ _ _), ?_⟩
    simp [Go.Instr.box, newVar, newRow]
  · simp at he

theorem sna_buildSlice (hS : Sim g H w) {id nx' : K} (hg : g id = none) (hdead : (H.get id).live = false) (hnx : id.toNat < nx'.toNat) (hle : H.nx.toNat ≤ nx'.toNat)
    {t e : TypeId} {j : TypeInfo} {z : AV} {n : Nat} {ps : Array (Nat × Operand)} (ht : und P t = .slice e) (hj : P.info? e = some j) (hz : zeroA P e = some z) (hzl : z.cells.length = j.size) (hn : n * j.size ≤ 16777216)
    {args : List AV} (hv : VRels g args ((ps.toList.map (·.2)).map ρ)) {blk : ABlk} {v : AV} (he : aBuildSlice j.size n (repA z.cells n) (ps.toList.map fun p => (Nat.mul p.1 j.size, j.size)) id args = some (blk, v)) :
    AnsS P id g H w v (H.put id blk nx') (do pure (.value (← Go.Instr.buildSlice t n (ps.map fun (i, x) => (i, ρ x))))) := by
  obtain ⟨Z, hZ, hZw⟩ := zeroA_run hz g
  unfold aBuildSlice at he
  split at he
  · rename_i cs hf
    simp only [Option.some.injEq, Prod.mk.injEq] at he
    obtain ⟨rfl, rfl⟩ := he
    have hZc := hZ.cells
    have hrel := zeros_rel hZc n (n * j.size) (by rw [hzl])
    let C0 : Array Value := (Array.range (n * j.size)).map fun i => Z.cells[i % Z.cells.size]!
    have hC0 : VRels g (repA z.cells n) C0.toList := by
      refine VRels.of_get ?_ ?_
      · rw [Array.length_toList, repA_length, hzl]; simp [C0]
      · intro i x X hx hX
        have hi : i < (repA z.cells n).length := by
          rcases Nat.lt_or_ge i (repA z.cells n).length with h | h
          · exact h
          · rw [List.getElem?_eq_none h] at hx; simp at hx
        obtain ⟨v, V, h1, h2, h3⟩ := hrel i hi
        rw [hx] at h1
        rw [Array.getElem?_toList] at hX
        have h2' : C0[i]? = some V := h2
        rw [hX] at h2'
        obtain rfl := Option.some.inj h1
        obtain rfl := Option.some.inj h2'
        exact h3
    have hpl : (ps.toList.map (·.1)).map (fun i => some (i * j.size, j.size)) = (ps.toList.map fun p => (Nat.mul p.1 j.size, j.size)).map some := by
      rw [List.map_map, List.map_map]; rfl
    have elist : (ps.map fun (i, x) => (i, ρ x)).toList = (ps.toList.map (·.1)).zip ((ps.toList.map (·.2)).map ρ) := by
      rw [Array.toList_map]
      generalize ps.toList = l
      induction l with
      | nil => rfl
      | cons a l ih => simp [ih]
    obtain ⟨R, hR, hRr⟩ := fillA_sound (g := g) (ps.toList.map (·.1)) _ args ((ps.toList.map (·.2)).map ρ) (repA z.cells n) C0 cs hpl hv hC0 hf
    rw [← elist] at hR
    have hlen := hRr.length
    rw [Array.length_toList] at hlen
    have hstep := row_step hS (C := R) (T := e) hg hdead hnx hle (fun i hi => by
      obtain ⟨v, V, h1, h2, h3⟩ := hRr.at i hi
      rw [Array.getElem?_toList] at h2
      exact ⟨v, V, h1, h2, h3⟩) (by omega)
    refine .of ⟨_, .slice (some ⟨w.heap.size, 0, none⟩) n n, _, hstep, ?_, ?_⟩
    · refine .slice (Nat.le_refl _) (Nat.le_refl _) (fun _ => rfl) (.inr ⟨_, _, _, G.put_same _ _ _, rfl, fun h => by simp at h⟩)
    · have h24 : ¬ (n * j.size > 2 ^ 24) := by omega
      simp only [Go.Instr.buildSlice, Sem.run_bind, und_run ht (by simp) w, Result.andThen_ok, run_sizeOf hj, h24, if_false]
      by_cases h0 : n * j.size = 0
      · have hC : (Array.map (fun x => (#[] : Array Value)[x % (#[] : Array Value).size]!) (Array.range (n * j.size))) = C0 := by
          rw [h0]
          show _ = (Array.range (n * j.size)).map fun i => Z.cells[i % Z.cells.size]!
          rw [h0]
          simp
        rw [h0] at hC
        simp only [h0, if_true, Sem.run_bind, Sem.run_pure, Result.andThen_ok]
        rw [hC, hR]
        simp [newRow]
      · simp only [h0, if_false, Sem.run_bind, hZw w, Sem.run_pure, Result.andThen_ok]
        have hC : (Array.map (fun x => Z.cells[x % Z.cells.size]!) (Array.range (n * j.size))) = C0 := rfl
        rw [hC, hR]
        simp [newRow]
  · simp at he

theorem sna_makeSlice (hS : Sim g H w) {id nx' : K} (hg : g id = none) (hdead : (H.get id).live = false) (hnx : id.toNat < nx'.toNat) (hle : H.nx.toNat ≤ nx'.toNat)
    {t e : TypeId} {j : TypeInfo} {z : AV} {l c : Operand} (ht : und P t = .slice e) (hj : P.info? e = some j) (hz : zeroA P e = some z) (hzl : z.cells.length = j.size)
    {args : List AV} (hv : VRels g args [ρ l, ρ c]) {blk : ABlk} {v : AV} (he : aMakeSlice j.size j.bytes z.cells id args = some (blk, v)) :
    AnsS P id g H w v (H.put id blk nx') (do pure (.value (← Go.Instr.makeSlice t (ρ l) (ρ c)))) := by
  obtain ⟨Z, hZ, hZw⟩ := zeroA_run hz g
  unfold aMakeSlice at he
  split at he
  · rename_i k1 a k2 b
    cases hb : (Nat.ble a b && Nat.ble b 140737488355328 && Nat.ble (Nat.mul j.bytes b) 281474976710656) with
    | false => rw [hb] at he; simp at he
    | true =>
      rw [hb] at he
      simp only [cond_true, Option.some.injEq, Prod.mk.injEq] at he
      obtain ⟨rfl, rfl⟩ := he
      simp only [Bool.and_eq_true, Nat.ble_eq] at hb
      obtain ⟨⟨hab, hb2⟩, hb3⟩ := hb
      have hb3' : j.bytes * b ≤ 281474976710656 := hb3
      cases hv with | cons h1 tl => cases tl with | cons h2 tl =>
      generalize ρ l = L at *
      generalize ρ c = C at *
      cases h1; cases h2
      have hZc := hZ.cells
      have hrel := zeros_rel hZc b (b * j.size) (by rw [hzl])
      have hstep := row_step hS (C := (Array.range (b * j.size)).map fun i => Z.cells[i % Z.cells.size]!) (T := e) hg hdead hnx hle hrel (by rw [repA_length, hzl]; simp)
      refine .of ⟨_, .slice (some ⟨w.heap.size, 0, none⟩) a b, _, hstep, ?_, ?_⟩
      · refine .slice hab (Nat.le_refl _) (fun _ => rfl) (.inr ⟨_, _, _, G.put_same _ _ _, rfl, fun h => by simp at h⟩)
      · have wb : IntKind.i64.wrap (Int.ofNat b) = (b : Int) := wrap_in (k := .i64) (n := (b : Int)) (by simp only [IntKind.lim]; omega) (by simp only [IntKind.lim]; omega)
        have wa : IntKind.i64.wrap (Int.ofNat a) = (a : Int) := wrap_in (k := .i64) (n := (a : Int)) (by simp only [IntKind.lim]; omega) (by simp only [IntKind.lim]; omega)
        have hcond : ((decide ((b : Int) < 0) || decide ((j.bytes : Int) * (b : Int) > 2 ^ 48) || decide ((a : Int) < 0) || decide ((a : Int) > (b : Int))) = true) = False := by
          have h3 : (j.bytes : Int) * (b : Int) ≤ 281474976710656 := by
            have := Int.ofNat_le.2 hb3'
            rw [Int.natCast_mul] at this
            exact this
          simp only [Bool.or_eq_true, decide_eq_true_eq, eq_iff_iff, iff_false]
          omega
        simp only [Go.Instr.makeSlice, Sem.run_bind, und_run ht (by simp) w, Result.andThen_ok, asInt, asIntOf, Sem.run_pure, run_typeInfo hj, wa, wb]
        simp only [hcond, if_false, Sem.run_bind, run_askRoom, Result.andThen_ok, run_sizeOf hj, Int.toNat_natCast]
        by_cases h0 : b * j.size = 0
        · have hE : (Array.range (b * j.size)).map (fun i => Z.cells[i % Z.cells.size]!) = (Array.range 0).map (fun x => (#[] : Array Value)[x % (#[] : Array Value).size]!) := by
            rw [h0]
            apply Array.ext
            · simp
            · intro i h1 h2
              simp at h1
          rw [hE]
          simp only [h0, if_true, Sem.run_pure, Result.andThen_ok, Sem.run_bind, newRow, run_newObj]
        · simp only [h0, if_false, Sem.run_bind, hZw w, Sem.run_pure, Result.andThen_ok, newRow, run_newObj]
  · simp at he

theorem sna_makeMap (hS : Sim g H w) {id nx' : K} (hg : g id = none) (hdead : (H.get id).live = false) (hnx : id.toNat < nx'.toNat) (hle : H.nx.toNat ≤ nx'.toNat)
    {t k e : TypeId} {r : Option Operand} (ht : und P t = .map k e)
    {args : List AV} (hv : VRels g args (r.toList.map ρ)) {blk : ABlk} {v : AV} (he : aMakeMap id args = some (blk, v)) :
    AnsS P id g H w v (H.put id blk nx') (do pure (.value (← Go.Instr.makeMap t (r.map ρ)))) := by
  have hstep : Step0 g H w (g.put id (w.heap.size, 0, 0)) (H.put id (.map [] 0) nx') { w with heap := w.heap.push (.map #[] 0) } :=
    alloc_step hS hg hdead hnx hle (o := .map #[] 0) rfl rfl rfl rfl ⟨rfl, #[], by simp, .nil⟩
  unfold aMakeMap at he
  split at he
  · simp only [Option.some.injEq, Prod.mk.injEq] at he
    obtain ⟨rfl, rfl⟩ := he
    cases r with
    | some x => cases hv
    | none =>
      refine .of ⟨_, .map (some w.heap.size), _, hstep, .map (G.put_same _ _ _), ?_⟩
      simp [Go.Instr.makeMap]
  · simp only [Option.some.injEq, Prod.mk.injEq] at he
    obtain ⟨rfl, rfl⟩ := he
    cases r with
    | none => cases hv
    | some x =>
      simp only [Option.toList, List.map_cons, List.map_nil] at hv
      cases hv with | cons h1 tl =>
      generalize hX : ρ x = X at *
      cases h1
      refine .of ⟨_, .map (some w.heap.size), _, hstep, .map (G.put_same _ _ _), ?_⟩
      simp [Go.Instr.makeMap, und_run ht (by simp) w, asInt, asIntOf, hX]
  · simp at he

theorem sna_strBytes (hS : Sim g H w) {id nx' : K} (hg : g id = none) (hdead : (H.get id).live = false) (hnx : id.toNat < nx'.toNat) (hle : H.nx.toNat ≤ nx'.toNat)
    {s d e : TypeId} {x : Operand} (hs : und P s = .string) (hd : und P d = .slice e) (hb : und P e = .int .u8)
    {args : List AV} (hv : VRels g args [ρ x]) {blk : ABlk} {v : AV} (he : aStrBytes id args = some (blk, v)) :
    AnsS P id g H w v (H.put id blk nx') (do pure (.value (← Go.convert s d (ρ x)))) := by
  unfold aStrBytes at he
  split at he
  · rename_i n u
    simp only [Option.some.injEq, Prod.mk.injEq] at he
    obtain ⟨rfl, rfl⟩ := he
    cases hv with | cons h1 tl =>
    generalize ρ x = X at *
    cases h1 with | str h1 =>
    rename_i S
    have hsz := h1.size
    -- the capacity that is drawn
    let cap := (Question.appendCap S.size 0 e).cut (w.tape w.drawn (.appendCap S.size 0 e))
    have hcap : n ≤ cap := by
      show n ≤ S.size + _ % _
      omega
    let C : Array Value := (S.data.map fun b => Value.int .u8 (b.toNat : Int)) ++ Array.replicate (cap - S.size) (Value.int .u8 0)
    have hC : C.size = cap := by
      have : S.data.size = n := hsz
      simp only [C, Array.size_append, Array.size_map, Array.size_replicate]
      omega
    let w' : World := { w with drawn := w.drawn + 1, heap := w.heap.push (.cells C e (cap, cap + 1)) }
    have hu := unpA_rel (g.put id (w.heap.size, 0, C.size)) n u
    have hstep : Step0 g H w (g.put id (w.heap.size, 0, C.size)) (H.put id (mkCells (unpA n u)) nx') w' := by
      refine alloc_step hS hg hdead hnx hle (o := .cells C e (cap, cap + 1)) rfl rfl rfl rfl ?_
      refine mkCells_rel (T := e) (fz := (cap, cap + 1)) ?_ (by rw [unpA_length]; omega) (by simp [w']) (fun o ho h => by omega)
      intro i hi
      rw [unpA_length] at hi
      obtain ⟨v, V, h1', h2', h3'⟩ := hu.at i (by rw [unpA_length]; exact hi)
      refine ⟨v, V, h1', ?_, h3'⟩
      rw [← h1.eq] at h2'
      have : (S.data.map fun b => Value.int .u8 (b.toNat : Int))[i]? = some V := by
        rw [← h2', List.getElem?_map, Array.getElem?_map, Array.getElem?_toList]
      show ((S.data.map fun b => Value.int .u8 (b.toNat : Int)) ++ _)[i]? = some V
      rw [Array.getElem?_append_left (by have : S.data.size = n := hsz; simp; omega)]
      exact this
    refine .of ⟨_, .slice (some ⟨w.heap.size, 0, none⟩) n cap, w', hstep, ?_, ?_⟩
    · exact .slice (Nat.le_refl _) hcap (fun h => by simp at h) (.inr ⟨_, _, _, G.put_same _ _ _, rfl, fun _ => by rw [hC]; omega⟩)
    · have conv : (Go.convert s d (.string S)).run P w = (Go.Conv.stringToBytes e S).run P w := by
        simp [Go.convert, und_run hs (by simp) w, und_run hd (by simp) w, und_run hb (by simp) w]
      rw [conv]
      have hfr : ∀ (w0 : World), w0.heap = w.heap.push (.cells C e) → (w0.freeze ⟨w.heap.size, C.size, none⟩ 1) = { w0 with heap := w.heap.push (.cells C e (cap, cap + 1)) } := by
        intro w0 h0
        unfold World.freeze
        rw [if_neg (by decide), h0]
        congr 1
        apply Array.ext
        · simp
        · intro i h1 h2
          simp only [Array.getElem_modify, Array.getElem_push]
          by_cases hi : w.heap.size = i
          · subst hi
            simp [hC]
          · simp at h1
            have : i < w.heap.size := by omega
            simp [hi, this]
      have hq : (Question.appendCap S.size 0 e).forced = false := rfl
      simp only [Go.Conv.stringToBytes, Sem.run_bind, run_choose, hq, Bool.false_eq_true, if_false, Result.andThen_ok, newRow, run_newObj, Sem.run_pure, markStringish, run_shape]
      let w1 : World := { w with drawn := w.drawn + 1, heap := w.heap.push (.cells C e) }
      have hsh : w1.shape? w.heap.size = some (e, C.size) := shape_of_heap (w := w1) (fz := (0, 0)) (by simp [w1])
      change ((Sem.run P (match w1.shape? w.heap.size with
        | some (_, n) => freeze { block := w.heap.size, off := n } 1
        | x => Pure.pure ()) w1).andThen fun a w2 => Result.ok (Value.slice (some { block := w.heap.size, off := 0 }) S.size cap) w2) = _
      rw [hsh]
      simp only [run_freeze, hfr w1 rfl, Result.andThen_ok, hsz]
      rfl
  · simp at he

theorem compA_sound (hS : Sim g H w) {id nx' : K} (hg : g id = none) (hdead : (H.get id).live = false) (hnx : id.toNat < nx'.toNat) (hle : H.nx.toNat ≤ nx'.toNat)
    {o : Oper} {ak : AK} {xs : List Operand} (hc : compA P o = some (ak, xs)) {args : List AV} {blk : ABlk} {v : AV} (hv : VRels g args (xs.map ρ)) (he : evalA id ak args = some (blk, v)) :
    AnsS P id g H w v (H.put id blk nx') (execOp ρ o) := by
  unfold compA at hc
  split at hc
  · rename_i t ho
    split at hc
    · rename_i z hz
      simp only [Option.some.injEq, Prod.mk.injEq] at hc
      obtain ⟨rfl, rfl⟩ := hc
      exact (sna_alloc hS hg hdead hnx hle hz he).eq (by simp only [execOp, ho])
    · simp at hc
  · rename_i t x ho
    simp only [Option.some.injEq, Prod.mk.injEq] at hc
    obtain ⟨rfl, rfl⟩ := hc
    exact (sna_box (t := t) hS hg hdead hnx hle hv he).eq (by simp only [execOp, ho])
  · rename_i t n ps ho
    split at hc
    · rename_i e ht
      split at hc
      · rename_i j z hj hz
        cases hb : (Nat.beq z.cells.length j.size && Nat.ble (Nat.mul n j.size) 16777216) with
        | false => rw [hb] at hc; simp at hc
        | true =>
          rw [hb] at hc
          simp only [cond_true, Option.some.injEq, Prod.mk.injEq] at hc
          obtain ⟨rfl, rfl⟩ := hc
          simp only [Bool.and_eq_true, Nat.beq_eq, Nat.ble_eq] at hb
          exact (sna_buildSlice hS hg hdead hnx hle ht hj hz hb.1 hb.2 hv he).eq (by simp only [execOp, ho])
      · simp at hc
    · simp at hc
  · rename_i t l c ho
    split at hc
    · rename_i e ht
      split at hc
      · rename_i j z hj hz
        cases hb : (Nat.beq z.cells.length j.size) with
        | false => rw [hb] at hc; simp at hc
        | true =>
          rw [hb] at hc
          simp only [cond_true, Option.some.injEq, Prod.mk.injEq] at hc
          obtain ⟨rfl, rfl⟩ := hc
          exact (sna_makeSlice hS hg hdead hnx hle ht hj hz (Nat.eq_of_beq_eq_true hb) hv he).eq (by simp only [execOp, ho])
      · simp at hc
    · simp at hc
  · rename_i t r ho
    split at hc
    · rename_i k e ht
      simp only [Option.some.injEq, Prod.mk.injEq] at hc
      obtain ⟨rfl, rfl⟩ := hc
      exact (sna_makeMap hS hg hdead hnx hle ht hv he).eq (by simp only [execOp, ho])
    · simp at hc
  · rename_i s d x ho
    split at hc
    · rename_i e hs hd
      split at hc
      · rename_i hb
        simp only [Option.some.injEq, Prod.mk.injEq] at hc
        obtain ⟨rfl, rfl⟩ := hc
        exact (sna_strBytes hS hg hdead hnx hle hs hd hb hv he).eq (by simp only [execOp, ho])
      · simp at hc
    · simp at hc
  · simp at hc

end
end
end Go.Ax

/- Operations that write: stores, map insertions. No condition. -/
set_option linter.unusedVariables false
set_option linter.unusedSimpArgs false
namespace Go.Ax
noncomputable section

/-- A value of one cell. -/
def AV.one : AV → Bool
  | .agg _ | .tuple _ => false
  | _ => true

theorem VRel.one {g : G} {a : AV} {v : Value} (h : VRel g a v) (ha : a.one = true) : v.oneCell' = true := by
  cases h <;> first | rfl | (simp [AV.one] at ha)

def World.setBlk (w : World) (B : Nat) (o : Obj) : World := { w with heap := w.heap.setIfInBounds B o }

/-- One block under its id turned: the step. -/
theorem upd_step {g : G} {H : AH} {w w' : World} (hS : Sim g H w) {id : K} {blk : ABlk} {o : Obj} {B O S : Nat} (hg : g id = some (B, O, S)) (hrw : (H.get id).rw = true)
    (hh : w'.heap = w.heap.setIfInBounds B o) (ho : w'.os = w.os) (ht : w'.tape = w.tape) (hu : w'.output = w.output)
    (hb : BRel g w' B O S blk) : Step g H w g (H.put id blk H.nx) w' := by
  have hlive := ABlk.live_of_rw hrw
  have hB := hS.size id B _ hg
  have hold : ∀ b, b ≠ B → w'.heap[b]? = w.heap[b]? := by
    intro b hb
    rw [hh, Array.getElem?_setIfInBounds_ne (fun h => hb h.symm)]
  have hsz : w'.heap.size = w.heap.size := by rw [hh]; simp
  refine ⟨⟨?_, ?_, ?_, ?_⟩, .refl g, Nat.le_refl _, ?_, ?_, by omega, ho, ht, hu, fun _ _ h => h⟩
  · intro k hl
    rw [AH.get_put] at hl ⊢
    by_cases hk : id = k
    · subst hk
      rw [if_pos rfl]
      exact ⟨_, _, _, hg, hb⟩
    · rw [if_neg hk] at hl ⊢
      obtain ⟨b, o', s', h1, h2⟩ := hS.blk k hl
      refine ⟨b, o', s', h1, h2.of_block (hold b ?_)⟩
      intro e
      subst e
      exact hk (hS.inj_rw hl hrw h1 hg).symm
  · intro k k' b x x' hl hl' e e'
    have hk1 : (H.get k).live = true := by
      rw [AH.get_put] at hl
      by_cases hk : id = k
      · subst hk; exact hlive
      · rw [if_neg hk] at hl; exact hl
    have hk2 : (H.get k').live = true := by
      rw [AH.get_put] at hl'
      by_cases hk : id = k'
      · subst hk; exact hlive
      · rw [if_neg hk] at hl'; exact hl'
    rcases hS.inj k k' b x x' hk1 hk2 e e' with h | h
    · exact .inl h
    · right
      have n1 : id ≠ k := fun e => by have := h.1; rw [← e, hrw] at this; simp at this
      have n2 : id ≠ k' := fun e => by have := h.2.1; rw [← e, hrw] at this; simp at this
      rw [AH.get_put, if_neg n1, AH.get_put, if_neg n2]
      exact h
  · intro k b x e
    rw [hsz]
    exact hS.size k b x e
  · exact hS.fresh
  · intro k b x hl e
    rw [AH.get_put] at hl ⊢
    by_cases hk : id = k
    · subst hk
      exact .inr (.inl ⟨id, x, hrw, e⟩)
    · rw [if_neg hk] at hl ⊢
      exact .inr (.inr ⟨hl, rfl, e⟩)
  · intro b hb hn
    exact hold b (fun e => hn id _ hrw (e ▸ hg))

theorem setCell_eq {w : World} {B o : Nat} {cs : Array Value} {T : TypeId} {fz : Nat × Nat} (h : w.heap[B]? = some (.cells cs T fz)) (v : Value) :
    w.setCell ⟨B, o, none⟩ v = World.setBlk w B (.cells (cs.setIfInBounds o v) T fz) := by
  unfold World.setCell World.setBlk
  have hlt : B < w.heap.size := by
    rcases Nat.lt_or_ge B w.heap.size with h' | h'
    · exact h'
    · rw [Array.getElem?_eq_none h'] at h; simp at h
  congr 1
  apply Array.ext_getElem?
  intro i
  rw [Array.getElem?_modify, Array.getElem?_setIfInBounds]
  by_cases hi : B = i
  · subst hi
    rw [h]
    simp [hlt]
  · simp [hi]

theorem setBlk_get {w : World} {B : Nat} {o : Obj} (h : B < w.heap.size) : (World.setBlk w B o).heap[B]? = some o := by
  simp [World.setBlk, h]

theorem setBlk_set (w : World) (B : Nat) (o o' : Obj) : World.setBlk (World.setBlk w B o) B o' = World.setBlk w B o' := by
  unfold World.setBlk
  simp

/-- Stores in a row: what the model's loop leaves. -/
theorem storeCells_run {P : Program} {B o : Nat} {T : TypeId} {fz : Nat × Nat} : ∀ (vs : List Value) (i : Nat) (w : World) (cs : Array Value), w.heap[B]? = some (.cells cs T fz) →
    (∀ v ∈ vs, v.oneCell' = true) → o + i + vs.length ≤ cs.size → (∀ p, o + i ≤ p → p < o + i + vs.length → ¬ (fz.1 ≤ p ∧ p < fz.2)) →
    (storeCells ⟨B, o, none⟩ vs i).run P w = .ok () (World.setBlk w B (.cells ((vs.zipIdx i).foldl (fun cs (v, j) => cs.setIfInBounds (o + j) v) cs) T fz))
  | [], i, w, cs, h, _, _, _ => by
    simp only [storeCells, Sem.run_pure, List.zipIdx_nil, List.foldl_nil]
    congr 1
    unfold World.setBlk
    have hlt : B < w.heap.size := by
      rcases Nat.lt_or_ge B w.heap.size with h' | h'
      · exact h'
      · rw [Array.getElem?_eq_none h'] at h; simp at h
    have : w.heap.setIfInBounds B (.cells cs T fz) = w.heap := by
      apply Array.ext_getElem?
      intro k
      rw [Array.getElem?_setIfInBounds]
      by_cases hk : B = k
      · subst hk
        rw [h]
        simp [hlt]
      · simp [hk]
    rw [this]
  | v :: vs, i, w, cs, h, h1, hf, hz => by
    simp only [List.length_cons] at hf hz
    have hlt : B < w.heap.size := by
      rcases Nat.lt_or_ge B w.heap.size with h' | h'
      · exact h'
      · rw [Array.getElem?_eq_none h'] at h; simp at h
    have hc : w.cell? ⟨B, o + i, none⟩ = some (cs[o + i]'(by omega)) := by
      simp only [World.cell?, h]
      simp
    have hfr : w.frozen? ⟨B, o + i, none⟩ = false := by
      have := hz (o + i) (Nat.le_refl _) (by omega)
      obtain ⟨lo, hi⟩ := fz
      simp only [World.frozen?, h]
      simp only [] at this
      simp
      omega
    simp only [storeCells, Sem.run_bind, Addr.add_none]
    rw [run_store P w _ v .plain (h1 v (List.mem_cons_self ..))]
    simp only [hc, hfr, Bool.false_eq_true, if_false, Result.andThen_ok]
    rw [setCell_eq h]
    rw [storeCells_run vs (i + 1) _ (cs.setIfInBounds (o + i) v) (setBlk_get hlt) (fun u hu => h1 u (List.mem_cons_of_mem _ hu)) (by simp; omega) (fun p hp hp' => hz p (by omega) (by omega))]
    rw [setBlk_set]
    simp only [List.zipIdx_cons, List.foldl_cons]

/-- The cells that the stores leave: the list spliced in. -/
theorem stores_toList (vs : List Value) (o : Nat) (cs : Array Value) (h : o + vs.length ≤ cs.size) :
    ((vs.zipIdx 0).foldl (fun cs (v, j) => cs.setIfInBounds (o + j) v) cs).toList = cs.toList.take o ++ vs ++ cs.toList.drop (o + vs.length) := by
  have := splice_foldl vs 0 o cs (by omega)
  simpa using this

theorem stores_get (vs : List Value) (o : Nat) (cs : Array Value) (h : o + vs.length ≤ cs.size) (i : Nat) :
    ((vs.zipIdx 0).foldl (fun cs (v, j) => cs.setIfInBounds (o + j) v) cs)[i]? = if o ≤ i ∧ i < o + vs.length then vs[i - o]? else cs[i]? := by
  rw [← Array.getElem?_toList, stores_toList vs o cs h]
  have hl : (cs.toList.take o).length = o := by simp; omega
  by_cases h1 : i < o
  · rw [List.append_assoc, List.getElem?_append_left (by omega), List.getElem?_take_of_lt h1, if_neg (by omega), Array.getElem?_toList]
  · by_cases h2 : i < o + vs.length
    · rw [if_pos ⟨by omega, h2⟩, List.append_assoc, List.getElem?_append_right (by omega), hl, List.getElem?_append_left (by omega)]
    · rw [if_neg (by omega), List.getElem?_append_right (by simp; omega), List.getElem?_drop, Array.getElem?_toList]
      congr 1
      simp
      omega

theorem stores_size (vs : List Value) (o : Nat) (cs : Array Value) (h : o + vs.length ≤ cs.size) :
    ((vs.zipIdx 0).foldl (fun cs (v, j) => cs.setIfInBounds (o + j) v) cs).size = cs.size := by
  rw [← Array.length_toList, stores_toList vs o cs h]
  simp
  omega

/-- Abstract stores. -/
def allOne : List AV → Bool
  | [] => true
  | v :: r => v.one && allOne r

theorem allOne_mem : ∀ {l : List AV}, allOne l = true → ∀ v ∈ l, v.one = true
  | [], _, v, h => by simp at h
  | a :: r, e, v, h => by
    simp only [allOne, Bool.and_eq_true] at e
    rcases List.mem_cons.1 h with rfl | h
    · exact e.1
    · exact allOne_mem e.2 v h

def AH.storeN (H : AH) (id : K) (off : Nat) (vs : List AV) : Option AH :=
  match H.get id with
  | .cells sz c true => cond (Nat.ble (Nat.add off vs.length) sz && allOne vs) (some (H.put id (.cells sz (Tr.setFrom off vs c) true) H.nx)) none
  | _ => none

section
variable {P : Program} {g : G} {ρ : Operand → Value} {H H' : AH} {w : World}

theorem VRels.allOne {l : List AV} {Vs : List Value} (h : VRels g l Vs) (ho : Go.Ax.allOne l = true) : ∀ v ∈ Vs, v.oneCell' = true := by
  induction l generalizing Vs with
  | nil => cases h; intro v hv; simp at hv
  | cons a l ih =>
    cases h with | cons h1 t =>
    simp only [Go.Ax.allOne, Bool.and_eq_true] at ho
    intro v hv
    rcases List.mem_cons.1 hv with rfl | hv
    · exact h1.one ho.1
    · exact ih t ho.2 v hv

/-- The store of a list of cells: the model's run and the step. -/
theorem storeN_sound (hS : Sim g H w) {id : K} {off : Nat} {vs : List AV} (he : H.storeN id off vs = some H') {Vs : List Value} (hv : VRels g vs Vs) :
    ∃ B O S w', g id = some (B, O, S) ∧ Step g H w g H' w' ∧ (storeCells ⟨B, O + off, none⟩ Vs).run P w = .ok () w' := by
  unfold AH.storeN at he
  split at he
  · rename_i sz c hget
    cases hb : (Nat.ble (Nat.add off vs.length) sz && allOne vs) with
    | false => rw [hb] at he; simp at he
    | true =>
      rw [hb] at he
      simp only [cond_true, Option.some.injEq] at he
      subst he
      simp only [Bool.and_eq_true, Nat.ble_eq] at hb
      obtain ⟨hle, hone⟩ := hb
      have hle' : off + vs.length ≤ sz := hle
      obtain ⟨B, O, cs, T, fz, hg, hh, hc⟩ := hS.cellsAt hget
      have hlen := hv.length
      have hfit := hc.fits
      have hfo : O + off + Vs.length ≤ cs.size := by omega
      have hrun := storeCells_run (P := P) (B := B) (o := O + off) Vs 0 w cs hh (hv.allOne hone) (by omega) (fun p hp hp' => hc.free p (by omega) (by omega))
      refine ⟨B, O, _, _, hg, ?_, hrun⟩
      have hlt := hS.size id B _ hg
      refine upd_step hS hg (by rw [hget]; rfl) rfl rfl rfl rfl ⟨_, T, fz, setBlk_get hlt, ⟨?_, ?_, ?_, fun h => by simp at h⟩, ?_⟩
      · rw [stores_size Vs (O + off) cs hfo]; exact hfit
      · intro i hi
        rw [Tr.get_setFrom, stores_get Vs (O + off) cs hfo]
        by_cases h1 : off ≤ i ∧ i < off + vs.length
        · rw [if_pos h1, if_pos (by omega)]
          obtain ⟨v, V, e1, e2, e3⟩ := hv.at (i - off) (by omega)
          refine ⟨v, V, e1, ?_, e3⟩
          rw [← e2]
          congr 1
          omega
        · rw [if_neg h1, if_neg (by omega)]
          exact hc.cell i hi
      · rw [stores_size Vs (O + off) cs hfo]; exact hc.free
      · exact stores_size Vs (O + off) cs hfo
  · simp at he

inductive WK where
  | store (n : Nat)
  | mapIns
  | append (es bytes : Nat)
  | copy (es : Nat)
  deriving Inhabited

/-- It ends, with or without an answer, and steps. -/
def AnsU (P : Program) (g : G) (H : AH) (w : World) (v : AV) (H' : AH) (s : Sem Next) : Prop :=
  ∃ g' V w', Step g H w g' H' w' ∧ VRel g' v V ∧ (s.run P w = .ok (.value V) w' ∨ (V = undef ∧ s.run P w = .ok .skip w'))

theorem AnsU.eq {v : AV} {s s' : Sem Next} (h : AnsU P g H w v H' s') (e : s = s') : AnsU P g H w v H' s := e ▸ h

def wStore (n : Nat) (H : AH) : List AV → Option (AV × AH)
  | [.ptr id o, v] => cond (Nat.beq v.cells.length n) (match H.storeN id o v.cells with | some H' => some (.tuple [], H') | none => none) none
  | _ => none

theorem snw_store (hS : Sim g H w) {t : TypeId} {j : TypeInfo} (hj : P.info? t = some j) {a x : Operand} {args : List AV} {v : AV}
    (hv : VRels g args [ρ a, ρ x]) (he : wStore j.size H args = some (v, H')) : AnsU P g H w v H' (do Go.Instr.storeAt t (ρ a) (ρ x); Pure.pure .skip) := by
  unfold wStore at he
  split at he
  · rename_i id o y
    cases hb : Nat.beq y.cells.length j.size with
    | false => rw [hb] at he; simp at he
    | true =>
      rw [hb] at he
      have hsz := Nat.eq_of_beq_eq_true hb
      simp only [cond_true] at he
      split at he
      · rename_i H2 hst
        simp only [Option.some.injEq, Prod.mk.injEq] at he
        obtain ⟨rfl, rfl⟩ := he
        cases hv with | cons h1 tl => cases tl with | cons h2 tl =>
        generalize ρ a = A at *
        cases h1 with | ptr hg =>
        rename_i B O S
        have hc := h2.cells
        have hlen := hc.length
        rw [Array.length_toList] at hlen
        obtain ⟨B', O', S', w', hg', hstep, hrun⟩ := storeN_sound (P := P) hS hst hc
        rw [hg] at hg'
        simp only [Option.some.injEq, Prod.mk.injEq] at hg'
        obtain ⟨rfl, rfl, rfl⟩ := hg'
        refine ⟨g, undef, w', hstep, .tuple .nil, .inr ⟨rfl, ?_⟩⟩
        have : ¬ ((ρ x).cells.size ≠ j.size) := by rw [hlen, hsz]; simp
        simp only [Go.Instr.storeAt, Go.Instr.sureAddr, storeVar, Sem.run_bind, Sem.run_pure, Result.andThen_ok, run_sizeOf hj, this, if_false, hrun]
      · simp at he
  · simp at he

def wMapIns (H : AH) : List AV → Option (AV × AH)
  | [.map id, .str n v, x] => match H.get id with
    | .map es c => match findE n v es with
      | some none => some (.tuple [], H.put id (.map (es ++ [(.str n v, x, c)]) (Nat.succ c)) H.nx)
      | _ => none
    | _ => none
  | _ => none

theorem ERels.append {es es' : List (AV × AV × Nat)} {ms ms' : List MapEntry} (h : ERels g es ms) (h' : ERels g es' ms') : ERels g (es ++ es') (ms ++ ms') := by
  induction h with
  | nil => exact h'
  | cons hk hv _ ih => exact .cons hk hv ih

theorem snw_mapIns (hS : Sim g H w) {t k e : TypeId} (hu : und P t = .map k e) (hk : und P k = .string) {m i x : Operand} {args : List AV} {v : AV}
    (hv : VRels g args [ρ m, ρ i, ρ x]) (he : wMapIns H args = some (v, H')) : AnsU P g H w v H' (do Go.Instr.mapUpdate t (ρ m) (ρ i) (ρ x); Pure.pure .skip) := by
  unfold wMapIns at he
  split at he
  · rename_i id n u y
    cases hv with | cons h1 tl => cases tl with | cons h2 tl => cases tl with | cons h3 tl =>
    generalize ρ m = M at *
    generalize ρ i = I at *
    cases h1 with | map hg =>
    rename_i B S0
    have h2' := h2
    cases h2 with | str h2 =>
    rename_i S
    split at he
    · rename_i es c hget
      obtain ⟨B', S0', ms, hg', hh, hr⟩ := hS.mapAt hget
      rw [hg] at hg'
      simp only [Option.some.injEq, Prod.mk.injEq, true_and] at hg'
      obtain ⟨rfl, rfl⟩ := hg'
      have hgo : (getObj B).run P w = .ok (.map ms c) w := by simp [getObj, Sem.run, hh]
      split at he
      · rename_i hf
        simp only [Option.some.injEq, Prod.mk.injEq] at he
        obtain ⟨rfl, rfl⟩ := he
        have hfn := findE_sound (g := g) h2 es ms.toList none 0 hr hf
        have hlt := hS.size id B _ hg
        have hset : (setObj B (.map (ms.push { key := .string S, val := ρ x, born := c }) (c + 1))).run P w = .ok () (World.setBlk w B (.map (ms.push { key := .string S, val := ρ x, born := c }) (c + 1))) := by
          simp [setObj, Sem.run, hh, World.setBlk]
        refine ⟨g, undef, World.setBlk w B (.map (ms.push { key := .string S, val := ρ x, born := c }) (c + 1)), upd_step hS hg (by rw [hget]; rfl) (o := .map (ms.push { key := .string S, val := ρ x, born := c }) (c + 1)) rfl rfl rfl rfl ⟨rfl, _, setBlk_get hlt, ?_⟩, .tuple .nil, .inr ⟨rfl, ?_⟩⟩
        · rw [Array.toList_push]
          exact hr.append (.cons h2' h3 .nil)
        · simp [Go.Instr.mapUpdate, und_run hu (by simp) w, hgo, run_checkKey hk _ 9999, run_findKey hk hfn, hset]
      · simp at he
    · simp at he
  · simp at he

end
end
end Go.Ax

/- append and copy. No condition. -/
set_option linter.unusedVariables false
set_option linter.unusedSimpArgs false
namespace Go.Ax
noncomputable section

def newCells (H : AH) (es : Nat) : AV → Option (Nat × List AV)
  | .slice id o es' n _ _ => cond (Nat.beq es' es) (match H.loadN id o (Nat.mul n es) with | some l => some (n, l) | none => none) none
  | .nils => some (0, [])
  | .str n v => cond (Nat.beq es 1) (some (n, unpA n v)) none
  | _ => none

def AH.kill (H : AH) (id : K) : AH := H.put id .dead H.nx

/-- The block that an append of new cells behind so many old ones makes. -/
def appBlk (H : AH) (id : K) (off old : Nat) (new : List AV) : Option ABlk :=
  match H.get id with
  | .cells sz c _ => cond (Nat.ble (Nat.add off old) sz)
      (cond (Nat.beq off 0) (some (.cells (Nat.add old new.length) (Tr.setFrom old new c) true))
        (match c.getFrom off old with | some l => some (mkCells (l ++ new)) | none => none)) none
  | _ => none

def wAppend (es bytes : Nat) (H : AH) : List AV → Option (AV × AH)
  | [s, x] => match newCells H es x with
    | none => none
    | some (n, new) =>
      match s with
      | .nils => cond (Nat.beq n 0) (some (.nils, H))
          (cond (Nat.ble n 70368744177664 && Nat.ble (Nat.mul (Nat.add (Nat.mul 2 n) 1000) bytes) 281474976710656)
            (some (.slice H.nx 0 es n n false, H.put H.nx (mkCells new) H.nx.succ)) none)
      | .slice id off es' len cap ex => cond (Nat.beq es' es)
          (cond (Nat.beq n 0) (some (s, H))
            (cond (Nat.ble (Nat.add len n) cap)
              (match H.storeN id (Nat.add off (Nat.mul len es)) new with | some H' => some (.slice id off es (Nat.add len n) cap ex, H') | none => none)
              (cond (Nat.ble (Nat.add len n) 70368744177664 && Nat.ble (Nat.mul (Nat.add (Nat.mul 2 (Nat.add len n)) 1000) bytes) 281474976710656)
                (match appBlk H id off (Nat.mul len es) new with
                  | some blk => cond (ex || ((H.get id).rw && allOne new)) (some (.slice H.nx 0 es (Nat.add len n) (Nat.add len n) false, (cond ex H (H.kill id)).put H.nx blk H.nx.succ)) none
                  | none => none) none))) none
      | _ => none
  | _ => none

section
variable {P : Program} {g : G} {ρ : Operand → Value} {H H' : AH} {w : World}

theorem newCells_sound (hS : Sim g H w) {es : Nat} {x : AV} {X : Value} (hx : VRel g x X) {n : Nat} {l : List AV} (h : newCells H es x = some (n, l)) :
    ∃ Vs : List Value, VRels g l Vs ∧ l.length = n * es ∧ (∀ w1, (Go.Builtin.lenOf X).run P w1 = .ok n w1) ∧ (Go.Builtin.firstCells es n X).run P w = .ok Vs.toArray w := by
  unfold newCells at h
  split at h
  · rename_i id o es' m c ex
    cases hb : Nat.beq es' es with
    | false => rw [hb] at h; simp at h
    | true =>
      rw [hb] at h
      simp only [cond_true] at h
      split at h
      · rename_i l' hl
        simp only [Option.some.injEq, Prod.mk.injEq] at h
        obtain ⟨rfl, rfl⟩ := h
        cases hx with | slice hle hc he ha =>
        rename_i A C
        obtain ⟨B, O, S, Vs, hg, hr, hlen, hrun⟩ := loadN_run (P := P) hS hl
        refine ⟨Vs, hr, hlen, fun w1 => rfl, ?_⟩
        have hlen' : l'.length = m * es := hlen
        show (loadCells A (m * es)).run P w = _
        rcases ha with ha | ⟨B', O', S', hg', rfl, _⟩
        · have h0 : m = 0 := by omega
          subst h0
          have : Vs = [] := by
            have h1 := hr.length
            rw [hlen', Nat.zero_mul] at h1
            simpa using h1
          subst this
          rw [Nat.zero_mul]
          rfl
        · rw [hg] at hg'
          simp only [Option.some.injEq, Prod.mk.injEq] at hg'
          obtain ⟨rfl, rfl, rfl⟩ := hg'
          exact hrun
      · simp at h
  · simp only [Option.some.injEq, Prod.mk.injEq] at h
    obtain ⟨rfl, rfl⟩ := h
    cases hx
    exact ⟨[], .nil, by simp, fun w1 => rfl, rfl⟩
  · rename_i m v
    cases hb : Nat.beq es 1 with
    | false => rw [hb] at h; simp at h
    | true =>
      rw [hb] at h
      have := Nat.eq_of_beq_eq_true hb
      subst this
      simp only [cond_true, Option.some.injEq, Prod.mk.injEq] at h
      obtain ⟨rfl, rfl⟩ := h
      cases hx with | str hs =>
      rename_i S
      refine ⟨_, unpA_rel g m v, by rw [unpA_length, Nat.mul_one], fun w1 => ?_, ?_⟩
      · simp [Go.Builtin.lenOf, hs.size]
      · have e : ((S.extract 0 m).data.map fun b => Value.int .u8 (b.toNat : Int)) = ((unp m v).map fun b => Value.int .u8 (b.toNat : Int)).toArray := by
          apply Array.toList_inj.1
          rw [Array.toList_map]
          have := (hs.extract (a := 0) (b := m) (Nat.zero_le _) (Nat.le_refl _)).eq
          rw [this]
          simp only [Nat.sub_zero, Nat.pow_zero, Nat.div_one]
          rw [unp_mod]
        simp only [Go.Builtin.firstCells]
        rw [e]
        rfl
  · simp at h

theorem growBy_le (m : Nat) : ∀ (r c : Nat), c ≤ 2 * m + 1000 → Go.Builtin.growBy m r c ≤ 2 * m + 1000
  | 0, c, h => h
  | r + 1, c, h => by
    unfold Go.Builtin.growBy
    split
    · exact h
    · exact growBy_le m r _ (by omega)

theorem nextslicecap_le {m c : Nat} (h : c < m) : Go.Builtin.nextslicecap m c ≤ 2 * m + 1000 := by
  unfold Go.Builtin.nextslicecap
  split
  · omega
  · split
    · omega
    · exact growBy_le m 4 c (by omega)

theorem kill_step (hS : Sim g H w) (id : K) : Step g H w g (H.kill id) w := by
  have hget : ∀ k, ((H.kill id).get k).live = true → (H.kill id).get k = H.get k ∧ k ≠ id := by
    intro k hl
    unfold AH.kill at hl ⊢
    rw [AH.get_put] at hl ⊢
    by_cases hk : id = k
    · rw [if_pos hk] at hl; simp [ABlk.live] at hl
    · rw [if_neg hk] at hl ⊢; exact ⟨rfl, fun h => hk h.symm⟩
  refine ⟨⟨?_, ?_, hS.size, hS.fresh⟩, .refl g, Nat.le_refl _, ?_, fun _ _ _ => rfl, Nat.le_refl _, rfl, rfl, rfl, fun _ _ h => h⟩
  · intro k hl
    have := (hget k hl).1
    rw [this] at hl ⊢
    exact hS.blk k hl
  · intro k k' B x x' hl hl' e e'
    have h1 := (hget k hl).1
    have h2 := (hget k' hl').1
    rw [h1] at hl
    rw [h2] at hl'
    rw [h1, h2]
    exact hS.inj k k' B x x' hl hl' e e'
  · intro k B x hl e
    have h1 := (hget k hl).1
    rw [h1] at hl ⊢
    exact .inr (.inr ⟨hl, rfl, e⟩)

theorem get_nx (hS : Sim g H w) : (H.get H.nx).live = false ∧ g H.nx = none := by
  have hn : g H.nx = none := by
    cases h : g H.nx with
    | none => rfl
    | some x => have := hS.fresh _ _ h; omega
  refine ⟨?_, hn⟩
  cases hl : (H.get H.nx).live with
  | false => rfl
  | true => obtain ⟨B, O, S, h1, _⟩ := hS.blk _ hl; rw [hn] at h1; simp at h1

/-- The old block's id dead, its cells written on under a new one: the step. -/
theorem amb_step (hS : Sim g H w) {id : K} {B O S : Nat} (hg : g id = some (B, O, S)) (hrw : (H.get id).rw = true) {w' : World} {o : Obj} {off : Nat} {blk : ABlk} (hlive : blk.live = true)
    (hh : w'.heap = w.heap.setIfInBounds B o) (ho : w'.os = w.os) (ht : w'.tape = w.tape) (hu : w'.output = w.output)
    (hb : BRel (g.put H.nx (B, off, S)) w' B off S blk) :
    Step g H w (g.put H.nx (B, off, S)) ((H.kill id).put H.nx blk H.nx.succ) w' := by
  obtain ⟨hd, hn⟩ := get_nx hS
  have hlid := ABlk.live_of_rw hrw
  have hB := hS.size id B _ hg
  have hlg := G.le_put (B, off, S) hn
  have hne : id ≠ H.nx := fun e => by rw [e] at hg; rw [hn] at hg; simp at hg
  have hold : ∀ b, b ≠ B → w'.heap[b]? = w.heap[b]? := by
    intro b hb
    rw [hh, Array.getElem?_setIfInBounds_ne (fun h => hb h.symm)]
  have hsz : w'.heap.size = w.heap.size := by rw [hh]; simp
  have hget : ∀ k, k ≠ H.nx → (((H.kill id).put H.nx blk H.nx.succ).get k).live = true → ((H.kill id).put H.nx blk H.nx.succ).get k = H.get k ∧ k ≠ id ∧ (H.get k).live = true := by
    intro k hk hl
    rw [AH.get_put, if_neg (fun h => hk h.symm)] at hl ⊢
    unfold AH.kill at hl ⊢
    rw [AH.get_put] at hl ⊢
    by_cases hki : id = k
    · rw [if_pos hki] at hl; simp [ABlk.live] at hl
    · rw [if_neg hki] at hl ⊢; exact ⟨rfl, fun h => hki h.symm, hl⟩
  have hself : ((H.kill id).put H.nx blk H.nx.succ).get H.nx = blk := by rw [AH.get_put, if_pos rfl]
  have hnxs : H.nx.succ.toNat = H.nx.toNat + 1 := K.toNat_succ _
  refine ⟨⟨?_, ?_, ?_, ?_⟩, hlg, by show H.nx.toNat ≤ H.nx.succ.toNat; omega, ?_, ?_, by omega, ho, ht, hu, fun j hj hn' => by rw [G.put_ne g _ (fun e => by subst e; omega)]; exact hn'⟩
  · intro k hl
    by_cases hk : k = H.nx
    · subst hk
      rw [hself]
      exact ⟨B, off, S, G.put_same _ _ _, hb⟩
    · obtain ⟨e, hki, hl'⟩ := hget k hk hl
      rw [e]
      obtain ⟨b, o', s', h1, h2⟩ := hS.blk k hl'
      refine ⟨b, o', s', hlg _ _ h1, (h2.of_block (hold b ?_)).mono hlg⟩
      intro e2
      subst e2
      exact hki (hS.inj_rw hl' hrw h1 hg)
  · intro k k' b x x' hl hl' e e'
    by_cases hk : k = H.nx
    · by_cases hk' : k' = H.nx
      · exact .inl (by rw [hk, hk'])
      · subst hk
        rw [G.put_same] at e
        rw [G.put_ne g _ hk'] at e'
        simp only [Option.some.injEq, Prod.mk.injEq] at e
        obtain ⟨e2, hki, hl2⟩ := hget k' hk' hl'
        rw [← e.1] at e'
        exact absurd (hS.inj_rw hl2 hrw e' hg) hki
    · by_cases hk' : k' = H.nx
      · subst hk'
        rw [G.put_same] at e'
        rw [G.put_ne g _ hk] at e
        simp only [Option.some.injEq, Prod.mk.injEq] at e'
        obtain ⟨e2, hki, hl2⟩ := hget k hk hl
        rw [← e'.1] at e
        exact absurd (hS.inj_rw hl2 hrw e hg) hki
      · rw [G.put_ne g _ hk] at e
        rw [G.put_ne g _ hk'] at e'
        rw [(hget k hk hl).1, (hget k' hk' hl').1]
        exact hS.inj k k' b x x' (hget k hk hl).2.2 (hget k' hk' hl').2.2 e e'
  · intro k b x e
    rw [hsz]
    by_cases hk : k = H.nx
    · subst hk
      rw [G.put_same] at e
      simp only [Option.some.injEq, Prod.mk.injEq] at e
      omega
    · rw [G.put_ne g _ hk] at e
      exact hS.size k b x e
  · intro k x e
    show k.toNat < H.nx.succ.toNat
    by_cases hk : k = H.nx
    · subst hk; omega
    · rw [G.put_ne g _ hk] at e
      have := hS.fresh k x e
      omega
  · intro k b x hl e
    by_cases hk : k = H.nx
    · subst hk
      rw [G.put_same] at e
      simp only [Option.some.injEq, Prod.mk.injEq] at e
      exact .inr (.inl ⟨id, _, hrw, by rw [← e.1]; exact hg⟩)
    · rw [G.put_ne g _ hk] at e
      obtain ⟨e2, hki, hl2⟩ := hget k hk hl
      exact .inr (.inr ⟨hl2, e2, e⟩)
  · intro b hb' hn'
    exact hold b (fun e => hn' id _ hrw (e ▸ hg))

/-- What the appended block holds. -/
theorem appBlk_get {id : K} {off old : Nat} {new : List AV} {blk : ABlk} (h : appBlk H id off old new = some blk) :
    ∃ sz c rw c', H.get id = .cells sz c rw ∧ off + old ≤ sz ∧ blk = .cells (old + new.length) c' true ∧
      (∀ i, i < old → c'.get (K.of i) = c.get (K.of (off + i))) ∧ (∀ i, i < new.length → c'.get (K.of (old + i)) = new[i]?) := by
  unfold appBlk at h
  split at h
  · rename_i sz c rw hget
    cases hb : Nat.ble (Nat.add off old) sz with
    | false => rw [hb] at h; simp at h
    | true =>
      rw [hb] at h
      have hle : off + old ≤ sz := Nat.le_of_ble_eq_true hb
      simp only [cond_true] at h
      cases h0 : Nat.beq off 0 with
      | true =>
        rw [h0] at h
        have := Nat.eq_of_beq_eq_true h0
        subst this
        simp only [cond_true, Option.some.injEq] at h
        refine ⟨sz, c, rw, Tr.setFrom old new c, hget, hle, h.symm, ?_, ?_⟩
        · intro i hi
          rw [Tr.get_setFrom, if_neg (by omega), Nat.zero_add]
        · intro i hi
          rw [Tr.get_setFrom, if_pos (by omega)]
          congr 1
          omega
      | false =>
        rw [h0] at h
        simp only [cond_false] at h
        split at h
        · rename_i l hl
          simp only [Option.some.injEq] at h
          obtain ⟨hlen, hel⟩ := Tr.getFrom_spec old off c l hl
          refine ⟨sz, c, rw, Tr.setFrom 0 (l ++ new) .lf, hget, hle, ?_, ?_, ?_⟩
          · rw [← h]; unfold mkCells; rw [List.length_append, hlen]
          · intro i hi
            rw [Tr.get_mk _ _ (by rw [List.length_append]; omega), List.getElem?_append_left (by omega), hel i hi]
          · intro i hi
            rw [Tr.get_mk _ _ (by rw [List.length_append]; omega), List.getElem?_append_right (by omega), hlen]
            congr 1
            omega
        · simp at h
  · simp at h

end
end
end Go.Ax

/- append and copy, the model's answer is the abstract one. No condition. -/
set_option linter.unusedVariables false
set_option linter.unusedSimpArgs false
namespace Go.Ax
noncomputable section
section
variable {P : Program} {g : G} {ρ : Operand → Value} {H H' : AH} {w : World}

theorem zeroCells_size (z : Array Value) (n : Nat) : (Go.Builtin.zeroCells z n).size = n * z.size := by simp [Go.Builtin.zeroCells]

/-- In place. -/
theorem append_room {t xt e ty : TypeId} {j : TypeInfo} (hu : und P t = .slice e) (hj : P.info? e = some j) (hx : und P xt = .string ∨ ∃ e', und P xt = .slice e') {base : Option Addr} {sLen C n : Nat} {X : Value} {Vs : Array Value} {w' : World} (hn : ∀ w1, (Go.Builtin.lenOf X).run P w1 = .ok n w1)
    (hf : (Go.Builtin.firstCells j.size n X).run P w = .ok Vs w) (hroom : sLen + n ≤ C)
    (hst : match base with | some a => (storeCells (a.add (sLen * j.size)) Vs.toList).run P w = .ok () w' | none => w' = w) :
    (Go.Builtin.append_ #[t, xt] ty #[.slice base sLen C, X]).run P w = .ok (.slice base (sLen + n) C) w' := by
  cases base with
  | none =>
    simp only [] at hst
    subst hst
    rcases hx with hx | ⟨e', hx⟩
    · simp [Go.Builtin.append_, und_run hu (by simp) w', run_sizeOf hj, und_run hx (by simp) w', hn, hroom, hf]
    · simp [Go.Builtin.append_, und_run hu (by simp) w', run_sizeOf hj, und_run hx (by simp) w', hn, hroom, hf]
  | some a =>
    simp only [] at hst
    rcases hx with hx | ⟨e', hx⟩
    · simp [Go.Builtin.append_, und_run hu (by simp) w, run_sizeOf hj, und_run hx (by simp) w, hn, hroom, hf, hst]
    · simp [Go.Builtin.append_, und_run hu (by simp) w, run_sizeOf hj, und_run hx (by simp) w, hn, hroom, hf, hst]

/-- What is drawn for a capacity. -/
def drawnCap (w : World) (need old : Nat) (e : TypeId) : Nat := (Question.appendCap need old e).cut (w.tape w.drawn (.appendCap need old e))

theorem drawnCap_le (w : World) (need old : Nat) (e : TypeId) : need ≤ drawnCap w need old e := by
  show need ≤ need + _ % _
  omega

/-- A new array. -/
theorem append_grow {t xt e ty : TypeId} {j : TypeInfo} {Z : Value} (hu : und P t = .slice e) (hj : P.info? e = some j) (hZ : j.zero = some Z) (hx : und P xt = .string ∨ ∃ e', und P xt = .slice e') {base : Option Addr} {sLen C n : Nat} {X : Value} {Old New : Array Value}
    (hn : ∀ w1, (Go.Builtin.lenOf X).run P w1 = .ok n w1) (hold : (Go.Builtin.firstCells j.size sLen (.slice base sLen C)).run P w.drew = .ok Old w.drew) (hnew : (Go.Builtin.firstCells j.size n X).run P w.drew = .ok New w.drew)
    (hroom : ¬ (sLen + n ≤ C)) (hbig : sLen + n ≤ 70368744177664) (hbytes : (2 * (sLen + n) + 1000) * j.bytes ≤ 281474976710656) :
    (Go.Builtin.append_ #[t, xt] ty #[.slice base sLen C, X]).run P w =
      .ok (.slice (some ⟨w.heap.size, 0, none⟩) (sLen + n) (drawnCap w (sLen + n) C e))
        { w.drew with heap := w.heap.push (.cells (Old ++ New ++ Go.Builtin.zeroCells Z.cells (drawnCap w (sLen + n) C e - (sLen + n))) e) } := by
  have h1 : ¬ ((9223372036854775807 : Int) < (sLen : Int) + (n : Int) ∧ j.bytes = 0) := by omega
  have h2 : ¬ (281474976710656 < Go.Builtin.nextslicecap (sLen + n) C * j.bytes) := by
    have := nextslicecap_le (m := sLen + n) (c := C) (by omega)
    have := Nat.mul_le_mul_right j.bytes this
    omega
  have hq : (Question.appendCap (sLen + n) C e).forced = false := rfl
  have hz := fun w1 => run_zeroValue (P := P) (w := w1) hj hZ
  rcases hx with hx | ⟨e', hx⟩
  · simp [Go.Builtin.append_, und_run hu (by simp) w, run_sizeOf hj, und_run hx (by simp) w, hn, hroom, run_typeInfo hj, h1, h2, hq, hold, hnew, hz, newRow]
    exact ⟨rfl, rfl⟩
  · simp [Go.Builtin.append_, und_run hu (by simp) w, run_sizeOf hj, und_run hx (by simp) w, hn, hroom, run_typeInfo hj, h1, h2, hq, hold, hnew, hz, newRow]
    exact ⟨rfl, rfl⟩

theorem loadCells_of {B o n : Nat} {w1 : World} {Vs : List Value} (hl : Vs.length = n) (h : ∀ i, i < n → w1.cell? ⟨B, o + i, none⟩ = Vs[i]?) : (loadCells ⟨B, o, none⟩ n).run P w1 = .ok Vs.toArray w1 := by
  have := loadCells_run (P := P) (w := w1) (B := B) (o := o) n 0 Vs #[] hl (fun j hj => by rw [Nat.zero_add]; exact h j hj)
  simpa [loadCells] using this

def strOrSl : TypeDesc → Bool
  | .string => true
  | .slice _ => true
  | _ => false

theorem strOrSl_or {d : TypeDesc} (h : strOrSl d = true) : d = .string ∨ ∃ e', d = .slice e' := by
  cases d <;> simp [strOrSl] at h <;> simp

/-- The cells that a grown row holds. -/
theorem grown_rel {need es old cap : Nat} {Old New Z : Array Value} {c' : Tr AV} {new : List AV} (hZ : Z.size = es) (hnl : new.length = (need * es) - old) (hol : Old.size = old) (hle : old ≤ need * es) (hcap : need ≤ cap)
    (h1 : ∀ i, i < old → ∃ v V, c'.get (K.of i) = some v ∧ Old[i]? = some V ∧ VRel g v V) (h2 : ∀ i, i < new.length → c'.get (K.of (old + i)) = new[i]?) (hr : VRels g new New.toList) :
    (Old ++ New ++ Go.Builtin.zeroCells Z (cap - need)).size = cap * es ∧
    ∀ i, i < old + new.length → ∃ v V, c'.get (K.of i) = some v ∧ (Old ++ New ++ Go.Builtin.zeroCells Z (cap - need))[i]? = some V ∧ VRel g v V := by
  have hNl := hr.length
  rw [Array.length_toList] at hNl
  refine ⟨?_, ?_⟩
  · simp only [Array.size_append, zeroCells_size, hZ, hol, hNl, hnl]
    have : (cap - need) * es + need * es = cap * es := by rw [← Nat.add_mul]; congr 1; omega
    omega
  · intro i hi
    by_cases hio : i < old
    · obtain ⟨v, V, e1, e2, e3⟩ := h1 i hio
      refine ⟨v, V, e1, ?_, e3⟩
      rw [Array.append_assoc, Array.getElem?_append_left (by omega)]
      exact e2
    · obtain ⟨v, V, e1, e2, e3⟩ := hr.at (i - old) (by omega)
      refine ⟨v, V, ?_, ?_, e3⟩
      · have := h2 (i - old) (by omega)
        rw [← e1, ← this]
        congr 2
        omega
      · rw [Array.getElem?_append_left (by simp; omega), Array.getElem?_append_right (by omega), hol]
        rw [Array.getElem?_toList] at e2
        exact e2

theorem snw_append (hS : Sim g H w) {t xt e ty : TypeId} {j : TypeInfo} {Z : Value} (hu : und P t = .slice e) (hj : P.info? e = some j) (hZ : j.zero = some Z) (hZs : Z.cells.size = j.size) (hx : strOrSl (und P xt) = true)
    {S X : Value} {args : List AV} {v : AV} (hv : VRels g args [S, X]) (he : wAppend j.size j.bytes H args = some (v, H')) :
    ∃ g' V w', Step g H w g' H' w' ∧ VRel g' v V ∧ (Go.Builtin.append_ #[t, xt] ty #[S, X]).run P w = .ok V w' := by
  have hxo := strOrSl_or hx
  unfold wAppend at he
  split at he
  · rename_i s x
    cases hv with | cons hs tl => cases tl with | cons hxr tl =>
    split at he
    · simp at he
    · rename_i n new hnew
      obtain ⟨Vs, hVs, hnl, hlen, hfirst⟩ := newCells_sound (P := P) hS hxr hnew
      have hdrew : w.drew.heap = w.heap := rfl
      obtain ⟨Vs2, hVs2, _, _, hfirst2⟩ := newCells_sound (P := P) (hS.of_heap hdrew) hxr hnew
      split at he
      · -- onto nil
        cases hs
        cases h0 : Nat.beq n 0 with
        | true =>
          rw [h0] at he
          have := Nat.eq_of_beq_eq_true h0
          subst this
          simp only [cond_true, Option.some.injEq, Prod.mk.injEq] at he
          obtain ⟨rfl, rfl⟩ := he
          exact ⟨g, _, w, .refl hS, .nils, append_room hu hj hxo (base := none) (sLen := 0) (C := 0) hlen hfirst (Nat.le_refl _) rfl⟩
        | false =>
          rw [h0] at he
          simp only [cond_false] at he
          cases hb : (Nat.ble n 70368744177664 && Nat.ble (Nat.mul (Nat.add (Nat.mul 2 n) 1000) j.bytes) 281474976710656) with
          | false => rw [hb] at he; simp at he
          | true =>
            rw [hb] at he
            simp only [cond_true, Option.some.injEq, Prod.mk.injEq] at he
            obtain ⟨rfl, rfl⟩ := he
            simp only [Bool.and_eq_true, Nat.ble_eq] at hb
            have hn0 : n ≠ 0 := fun h => by rw [h] at h0; simp at h0
            have hbb : (2 * (0 + n) + 1000) * j.bytes ≤ 281474976710656 := by rw [Nat.zero_add]; exact hb.2
            have hrun := append_grow (P := P) (w := w) (ty := ty) hu hj hZ hxo (base := none) (sLen := 0) (C := 0) (Old := #[]) hlen rfl hfirst2 (by omega) (by omega) hbb
            obtain ⟨hd, hn⟩ := get_nx hS
            rw [Nat.zero_add n] at hrun
            have hcap := drawnCap_le w n 0 e
            obtain ⟨hgs, hgr⟩ := grown_rel (g := g) (need := n) (es := j.size) (old := 0) (cap := drawnCap w n 0 e) (Old := #[]) (New := Vs2.toArray) (Z := Z.cells) (c' := Tr.setFrom 0 new .lf) (new := new) hZs (by omega) rfl (Nat.zero_le _) (by omega)
              (fun i hi => by omega) (fun i hi => by rw [Nat.zero_add, Tr.get_mk new i hi]) (by simpa using hVs2)
            have hstep := alloc_step hS hn hd (nx' := H.nx.succ) (by rw [K.toNat_succ]; omega) (by rw [K.toNat_succ]; omega) (blk := mkCells new) (S := drawnCap w n 0 e * j.size)
              (o := .cells (#[] ++ Vs2.toArray ++ Go.Builtin.zeroCells Z.cells (drawnCap w n 0 e - n)) e)
              (w' := { w.drew with heap := w.heap.push (.cells (#[] ++ Vs2.toArray ++ Go.Builtin.zeroCells Z.cells (drawnCap w n 0 e - n)) e) }) rfl rfl rfl rfl ?_
            · refine ⟨_, _, _, hstep.toStep, ?_, hrun⟩
              refine .slice (Nat.le_refl _) hcap (fun h => by simp at h) (.inr ⟨_, _, _, G.put_same _ _ _, rfl, fun _ => by omega⟩)
            · refine ⟨_, e, (0, 0), by simp, ⟨?_, ?_, fun o _ _ => by omega, fun h => by simp at h⟩, hgs⟩
              · rw [hgs, hnl, Nat.zero_add]
                exact Nat.mul_le_mul_right _ hcap
              · intro i hi
                obtain ⟨v, V, e1, e2, e3⟩ := hgr i (by omega)
                exact ⟨v, V, e1, by rw [Nat.zero_add]; exact e2, e3.mono (G.le_put _ hn)⟩
      · rename_i id off es' len cap ex
        cases hs with | slice hle hc hxe ha =>
        rename_i A C
        cases hes : Nat.beq es' j.size with
        | false => rw [hes] at he; simp at he
        | true =>
        rw [hes] at he
        have := Nat.eq_of_beq_eq_true hes
        subst this
        simp only [cond_true] at he
        cases h0 : Nat.beq n 0 with
        | true =>
          rw [h0] at he
          have := Nat.eq_of_beq_eq_true h0
          subst this
          simp only [cond_true, Option.some.injEq, Prod.mk.injEq] at he
          obtain ⟨rfl, rfl⟩ := he
          have hV0 : Vs = [] := by
            have h1 := hVs.length
            rw [hnl, Nat.zero_mul] at h1
            simpa using h1
          subst hV0
          refine ⟨g, _, w, .refl hS, .slice hle hc hxe ha, append_room hu hj hxo (base := some A) hlen hfirst (by omega) ?_⟩
          rfl
        | false =>
          rw [h0] at he
          have hn0 : n ≠ 0 := fun h => by rw [h] at h0; simp at h0
          simp only [cond_false] at he
          cases hr : Nat.ble (Nat.add len n) cap with
          | true =>
            rw [hr] at he
            have hroom : len + n ≤ cap := Nat.le_of_ble_eq_true hr
            simp only [cond_true] at he
            split at he
            · rename_i H2 hst
              simp only [Option.some.injEq, Prod.mk.injEq] at he
              obtain ⟨rfl, rfl⟩ := he
              obtain ⟨B, O, S', w', hg, hstep, hsrun⟩ := storeN_sound (P := P) hS hst hVs
              rcases ha with ha | ⟨B', O', S'', hg', rfl, hSz⟩
              · omega
              rw [hg] at hg'
              simp only [Option.some.injEq, Prod.mk.injEq] at hg'
              obtain ⟨rfl, rfl, rfl⟩ := hg'
              refine ⟨g, _, w', hstep, .slice hroom hc hxe (.inr ⟨B, O, S', hg, rfl, hSz⟩), append_room hu hj hxo (base := some _) hlen hfirst (by omega) ?_⟩
              simp only [Addr.add_none]
              have : O + off + len * j.size = O + (Nat.add off (Nat.mul len j.size)) := by rw [Nat.add_assoc]; rfl
              rw [this]
              simpa using hsrun
            · simp at he
          | false =>
            rw [hr] at he
            have hroom : ¬ (len + n ≤ cap) := fun h => by
              have h' : Nat.ble (Nat.add len n) cap = true := Nat.ble_eq_true_of_le h
              rw [h'] at hr; simp at hr
            simp only [cond_false] at he
            cases hb : (Nat.ble (Nat.add len n) 70368744177664 && Nat.ble (Nat.mul (Nat.add (Nat.mul 2 (Nat.add len n)) 1000) j.bytes) 281474976710656) with
            | false => rw [hb] at he; simp at he
            | true =>
            rw [hb] at he
            simp only [Bool.and_eq_true, Nat.ble_eq] at hb
            obtain ⟨hb1, hb2⟩ := hb
            have hb1' : len + n ≤ 70368744177664 := hb1
            have hb2' : (2 * (len + n) + 1000) * j.bytes ≤ 281474976710656 := hb2
            simp only [cond_true] at he
            split at he
            · rename_i blk hblk
              cases hk : (ex || ((H.get id).rw && allOne new)) with
              | false => rw [hk] at he; simp at he
              | true =>
              rw [hk] at he
              simp only [cond_true, Option.some.injEq, Prod.mk.injEq] at he
              obtain ⟨rfl, rfl⟩ := he
              obtain ⟨sz, c, rw, c', hget, hsz, rfl, hcold, hcnew⟩ := appBlk_get hblk
              obtain ⟨B, O, cs, T, fz, hg, hh, hcr⟩ := hS.cellsAt hget
              have hcap := drawnCap_le w (len + n) C e
              have hsz' : off + len * j.size ≤ sz := hsz
              have hneed : len * j.size + new.length = (len + n) * j.size := by rw [hnl, Nat.add_mul]
              -- the old cells, wherever they lie
              have holdc : ∀ i, i < len * j.size → ∃ v V, c'.get (K.of i) = some v ∧ cs[O + off + i]? = some V ∧ VRel g v V := by
                intro i hi
                obtain ⟨v, V, e1, e2, e3⟩ := hcr.cell (off + i) (by omega)
                exact ⟨v, V, by rw [hcold i hi]; exact e1, by rw [Nat.add_assoc]; exact e2, e3⟩
              have hfit := hcr.fits
              -- what the model reads of them
              have hOld : ∃ Old : Array Value, Old.size = len * j.size ∧ (∀ i, i < len * j.size → Old[i]? = cs[O + off + i]?) ∧ (Go.Builtin.firstCells j.size len (.slice (some A) len C)).run P w.drew = .ok Old w.drew := by
                rcases ha with ha | ⟨B', O', S'', hg', rfl, hSz⟩
                · have hl0 : len = 0 := by omega
                  subst hl0
                  refine ⟨#[], by simp, fun i hi => by omega, ?_⟩
                  simp [Go.Builtin.firstCells, loadCells, loadCellsFrom]
                · rw [hg] at hg'
                  simp only [Option.some.injEq, Prod.mk.injEq] at hg'
                  obtain ⟨rfl, rfl, rfl⟩ := hg'
                  refine ⟨((cs.toList.drop (O + off)).take (len * j.size)).toArray, by simp; omega, ?_, ?_⟩
                  · intro i hi
                    rw [List.getElem?_toArray, List.getElem?_take_of_lt hi, List.getElem?_drop, Array.getElem?_toList]
                  · simp only [Go.Builtin.firstCells]
                    refine loadCells_of (by simp; omega) ?_
                    intro i hi
                    have : w.drew.cell? ⟨B, O + off + i, none⟩ = w.cell? ⟨B, O + off + i, none⟩ := rfl
                    rw [this, cell_of_heap hh, List.getElem?_take_of_lt hi, List.getElem?_drop, Array.getElem?_toList]
              obtain ⟨Old, hOs, hOg, hOrun⟩ := hOld
              obtain ⟨hd, hn⟩ := get_nx hS
              by_cases hC : len + n ≤ C
              · -- written on in place: so the capacity was not the whole
                have hexf : ex = false := by
                  cases ex with
                  | false => rfl
                  | true => have := hxe rfl; omega
                subst hexf
                simp only [Bool.false_or, Bool.and_eq_true] at hk
                obtain ⟨hrw, hone⟩ := hk
                rcases ha with ha | ⟨B', O', S'', hg', rfl, hSz⟩
                · omega
                rw [hg] at hg'
                simp only [Option.some.injEq, Prod.mk.injEq] at hg'
                obtain ⟨rfl, rfl, rfl⟩ := hg'
                have hSz' := hSz rfl
                have hmono : (len + n) * j.size ≤ C * j.size := Nat.mul_le_mul_right _ hC
                have hVl := hVs.length
                have hfo : O + off + len * j.size + Vs.length ≤ cs.size := by rw [hVl]; omega
                have hsrun := storeCells_run (P := P) (B := B) (o := O + off + len * j.size) Vs 0 w cs hh (hVs.allOne hone) (by omega) (fun p hp hp' => hcr.free p (by omega) (by omega))
                have hlt := hS.size id B _ hg
                have hstep := amb_step hS hg hrw (off := O + off) (blk := .cells (len * j.size + new.length) c' true) rfl (o := .cells ((Vs.zipIdx 0).foldl (fun cs (v, q) => cs.setIfInBounds (O + off + len * j.size + q) v) cs) T fz) (w' := World.setBlk w B (.cells ((Vs.zipIdx 0).foldl (fun cs (v, q) => cs.setIfInBounds (O + off + len * j.size + q) v) cs) T fz)) rfl rfl rfl rfl ?_
                · refine ⟨_, _, _, hstep, ?_, append_room hu hj hxo (base := some _) hlen hfirst hC ?_⟩
                  · refine .slice (Nat.le_refl _) hC (fun h => by simp at h) (.inr ⟨B, O + off, cs.size, G.put_same _ _ _, rfl, fun _ => by omega⟩)
                  · simp only [Addr.add_none]
                    simpa using hsrun
                · refine ⟨_, T, fz, setBlk_get hlt, ⟨?_, ?_, ?_, fun h => by simp at h⟩, stores_size Vs _ cs hfo⟩
                  · rw [stores_size Vs _ cs hfo]; omega
                  · intro i hi
                    rw [stores_get Vs _ cs hfo]
                    by_cases hi2 : i < len * j.size
                    · rw [if_neg (by omega)]
                      obtain ⟨v, V, e1, e2, e3⟩ := holdc i hi2
                      exact ⟨v, V, e1, e2, e3.mono (G.le_put _ hn)⟩
                    · rw [if_pos (by omega)]
                      obtain ⟨v, V, e1, e2, e3⟩ := hVs.at (i - len * j.size) (by omega)
                      refine ⟨v, V, ?_, ?_, e3.mono (G.le_put _ hn)⟩
                      · have := hcnew (i - len * j.size) (by omega)
                        rw [← e1, ← this]
                        congr 2
                        show i = len * j.size + (i - len * j.size)
                        omega
                      · rw [← e2]
                        congr 1
                        omega
                  · rw [stores_size Vs _ cs hfo]
                    intro o ho ho'
                    exact hcr.free o (by omega) ho'
              · -- a new array
                have hrun := append_grow (P := P) (w := w) (ty := ty) hu hj hZ hxo (base := some A) (sLen := len) (C := C) (Old := Old) hlen hOrun hfirst2 hC hb1' hb2'
                obtain ⟨hgs, hgr⟩ := grown_rel (g := g) (need := len + n) (es := j.size) (old := len * j.size) (cap := drawnCap w (len + n) C e) (Old := Old) (New := Vs2.toArray) (Z := Z.cells) (c' := c') (new := new) hZs (by omega) hOs (by omega) hcap
                  (fun i hi => by obtain ⟨v, V, e1, e2, e3⟩ := holdc i hi; exact ⟨v, V, e1, by rw [hOg i hi]; exact e2, e3⟩) hcnew (by simpa using hVs2)
                -- the old id may be dead now
                have hkill : Step g H w g (cond ex H (H.kill id)) w := by
                  cases ex
                  · exact kill_step hS id
                  · exact .refl hS
                have hnxk : (cond ex H (H.kill id)).nx = H.nx := by cases ex <;> rfl
                have hdk : ((cond ex H (H.kill id)).get H.nx).live = false := by
                  cases ex
                  · show ((H.kill id).get H.nx).live = false
                    unfold AH.kill
                    rw [AH.get_put]
                    by_cases hk' : id = H.nx
                    · rw [if_pos hk']; rfl
                    · rw [if_neg hk']; exact hd
                  · exact hd
                have hstep := alloc_step hkill.sim hn hdk (nx' := H.nx.succ) (by rw [K.toNat_succ]; omega) (by rw [hnxk, K.toNat_succ]; omega) (blk := .cells (len * j.size + new.length) c' true) (S := drawnCap w (len + n) C e * j.size)
                  (o := .cells (Old ++ Vs2.toArray ++ Go.Builtin.zeroCells Z.cells (drawnCap w (len + n) C e - (len + n))) e)
                  (w' := { w.drew with heap := w.heap.push (.cells (Old ++ Vs2.toArray ++ Go.Builtin.zeroCells Z.cells (drawnCap w (len + n) C e - (len + n))) e) }) rfl rfl rfl rfl ?_
                · refine ⟨_, _, _, hkill.trans (hstep.toStep' (Nat.le_of_eq (congrArg K.toNat hnxk))), ?_, hrun⟩
                  refine .slice (Nat.le_refl _) hcap (fun h => by simp at h) (.inr ⟨_, _, _, G.put_same _ _ _, rfl, fun _ => by omega⟩)
                · refine ⟨_, e, (0, 0), by simp, ⟨?_, ?_, fun o _ _ => by omega, fun h => by simp at h⟩, hgs⟩
                  · rw [hgs, hneed, Nat.zero_add]
                    exact Nat.mul_le_mul_right _ hcap
                  · intro i hi
                    obtain ⟨v, V, e1, e2, e3⟩ := hgr i hi
                    exact ⟨v, V, e1, by rw [Nat.zero_add]; exact e2, e3.mono (G.le_put _ hn)⟩
            · simp at he
      · simp at he
  · simp at he

end
end
end Go.Ax

/- Operations that write, all together. No condition. -/
set_option linter.unusedVariables false
set_option linter.unusedSimpArgs false
namespace Go.Ax
noncomputable section

/-- copy between slices. -/
def wCopy (es : Nat) (H : AH) : List AV → Option (AV × AH)
  | [.nils, x] => match newCells H es x with | some _ => some (.int .i64 (.ofNat 0), H) | none => none
  | [.slice id off es' len _ _, x] => match newCells H es x with
    | some (n, l) => cond (Nat.beq es' es)
        (cond (Nat.beq (Nat.min n len) 0) (some (.int .i64 (.ofNat 0), H))
          (match H.storeN id off (l.take (Nat.mul (Nat.min n len) es)) with
            | some H' => some (.int .i64 (.ofNat (Nat.min n len)), H')
            | none => none)) none
    | none => none
  | _ => none

def evalW (H : AH) : WK → List AV → Option (AV × AH)
  | .store n => wStore n H
  | .mapIns => wMapIns H
  | .append es bytes => wAppend es bytes H
  | .copy es => wCopy es H

def compW (P : Program) (o : Oper) : Option (WK × List Operand) :=
  match o.op with
  | .store t a x => match P.info? t with | some j => some (.store j.size, [a, x]) | none => none
  | .mapUpdate t m k x => match und P t with
    | .map kt e => match und P kt with | .string => some (.mapIns, [m, k, x]) | _ => none
    | _ => none
  | .call ⟨.builtin .append, args, ts⟩ => match args.toList, ts.toList with
    | [s, x], [t, xt] => match und P t with
      | .slice e => match P.info? e with
        | some j => match j.zero with
          | some Z => cond (Nat.beq Z.cells.size j.size && strOrSl (und P xt)) (some (.append j.size j.bytes, [s, x])) none
          | none => none
        | none => none
      | _ => none
    | _, _ => none
  | .call ⟨.builtin .copy, args, ts⟩ => match args.toList, ts.toList with
    | [s, x], [t, xt] => match und P t with
      | .slice e => match P.info? e with | some j => some (.copy j.size, [s, x]) | none => none
      | _ => none
    | _, _ => none
  | _ => none

section
variable {P : Program} {g : G} {ρ : Operand → Value} {H H' : AH} {w : World}

theorem AnsU.of {v : AV} {s : Sem Value} (h : ∃ g' V w', Step g H w g' H' w' ∧ VRel g' v V ∧ s.run P w = .ok V w') : AnsU P g H w v H' (do Pure.pure (.value (← s))) := by
  obtain ⟨g', V, w', h1, h2, h3⟩ := h
  exact ⟨g', V, w', h1, h2, .inl (by simp [h3])⟩

theorem newCells_take (hS : Sim g H w) {es : Nat} {x : AV} {X : Value} (hx : VRel g x X) {n : Nat} {l : List AV} (h : newCells H es x = some (n, l)) :
    ∃ Vs : List Value, VRels g l Vs ∧ (∀ w1, (Go.Builtin.lenOf X).run P w1 = .ok n w1) ∧ ∀ m, m ≤ n → (Go.Builtin.firstCells es m X).run P w = .ok (Vs.take (m * es)).toArray w := by
  unfold newCells at h
  split at h
  · rename_i id o es' m c ex
    cases hb : Nat.beq es' es with
    | false => rw [hb] at h; simp at h
    | true =>
      rw [hb] at h
      simp only [cond_true] at h
      split at h
      · rename_i l' hl
        simp only [Option.some.injEq, Prod.mk.injEq] at h
        obtain ⟨rfl, rfl⟩ := h
        cases hx with | slice hle hc he ha =>
        rename_i A C
        obtain ⟨B, O, S, Vs, hg, hr, hlen, hcell⟩ := loadN_sound hS hl
        refine ⟨Vs, hr, fun w1 => rfl, ?_⟩
        intro k hk
        show (loadCells A (k * es)).run P w = _
        rcases ha with ha | ⟨B', O', S', hg', rfl, _⟩
        · have h0 : k = 0 := by omega
          subst h0
          rw [Nat.zero_mul]
          rfl
        · rw [hg] at hg'
          simp only [Option.some.injEq, Prod.mk.injEq] at hg'
          obtain ⟨rfl, rfl, rfl⟩ := hg'
          have hm : k * es ≤ Nat.mul m es := Nat.mul_le_mul_right _ hk
          have hvl := hr.length
          refine loadCells_of (by rw [List.length_take]; omega) ?_
          intro i hi
          rw [hcell i (by omega), List.getElem?_take_of_lt hi]
      · simp at h
  · simp only [Option.some.injEq, Prod.mk.injEq] at h
    obtain ⟨rfl, rfl⟩ := h
    cases hx
    refine ⟨[], .nil, fun w1 => rfl, fun m hm => ?_⟩
    simp [Go.Builtin.firstCells]
  · rename_i m v
    cases hb : Nat.beq es 1 with
    | false => rw [hb] at h; simp at h
    | true =>
      rw [hb] at h
      have := Nat.eq_of_beq_eq_true hb
      subst this
      simp only [cond_true, Option.some.injEq, Prod.mk.injEq] at h
      obtain ⟨rfl, rfl⟩ := h
      cases hx with | str hs =>
      rename_i S
      refine ⟨_, unpA_rel g m v, fun w1 => ?_, fun k hk => ?_⟩
      · simp [Go.Builtin.lenOf, hs.size]
      · have e : ((S.extract 0 k).data.map fun b => Value.int .u8 (b.toNat : Int)) = (((unp m v).map fun b => Value.int .u8 (b.toNat : Int)).take (k * 1)).toArray := by
          apply Array.toList_inj.1
          rw [Array.toList_map]
          have := (hs.extract (a := 0) (b := k) (Nat.zero_le _) hk).eq
          rw [this]
          simp only [Nat.sub_zero, Nat.pow_zero, Nat.div_one, Nat.mul_one]
          rw [← List.map_take, unp_take _ _ _ hk]
        simp only [Go.Builtin.firstCells]
        rw [e]
        rfl
  · simp at h

theorem snw_copy (hS : Sim g H w) {t xt e ty : TypeId} {j : TypeInfo} (hu : und P t = .slice e) (hj : P.info? e = some j)
    {D X : Value} {args : List AV} {v : AV} (hv : VRels g args [D, X]) (he : wCopy j.size H args = some (v, H')) (hX : ∃ n, ∀ w1, (Go.Builtin.lenOf X).run P w1 = .ok n w1) :
    ∃ g' V w', Step g H w g' H' w' ∧ VRel g' v V ∧ (Go.Builtin.copy_ #[t, xt] ty #[D, X]).run P w = .ok V w' := by
  unfold wCopy at he
  split at he
  · split at he
    rotate_left
    · simp at he
    simp only [Option.some.injEq, Prod.mk.injEq] at he
    obtain ⟨rfl, rfl⟩ := he
    cases hv with | cons h1 tl =>
    cases h1
    obtain ⟨n, hn⟩ := hX
    refine ⟨g, _, w, .refl hS, .int _ _, ?_⟩
    have hm : Nat.min n 0 = 0 := Nat.min_zero n
    have hf : (Go.Builtin.firstCells j.size 0 X).run P w = .ok #[] w ∨ True := .inr trivial
    cases X <;> simp [Go.Builtin.lenOf] at hn
    · rename_i S
      simp [Go.Builtin.copy_, und_run hu (by simp) w, run_sizeOf hj, Go.Builtin.lenOf, hm, Go.Builtin.firstCells, goInt]
    · rename_i A l c
      cases A <;> simp [Go.Builtin.copy_, und_run hu (by simp) w, run_sizeOf hj, Go.Builtin.lenOf, hm, Go.Builtin.firstCells, loadCells, loadCellsFrom, goInt]
  · rename_i id off es' len cap ex x
    split at he
    · rename_i n l hnew
      cases hes : Nat.beq es' j.size with
      | false => rw [hes] at he; simp at he
      | true =>
      rw [hes] at he
      simp only [cond_true] at he
      cases hv with | cons h1 tl => cases tl with | cons h2 tl =>
      cases h1 with | slice hle hc hxe ha =>
      rename_i A C
      obtain ⟨Vs, hVs, hlen, hsub⟩ := newCells_take (P := P) hS h2 hnew
      cases h0 : Nat.beq (Nat.min n len) 0 with
      | true =>
        rw [h0] at he
        have hz := Nat.eq_of_beq_eq_true h0
        simp only [cond_true, Option.some.injEq, Prod.mk.injEq] at he
        obtain ⟨rfl, rfl⟩ := he
        refine ⟨g, _, w, .refl hS, .int _ _, ?_⟩
        have h0' := hsub 0 (Nat.zero_le _)
        simp only [Nat.zero_mul, List.take_zero] at h0'
        simp [Go.Builtin.copy_, und_run hu (by simp) w, run_sizeOf hj, hlen, hz, h0', storeCells, goInt]
      | false =>
        rw [h0] at he
        simp only [cond_false] at he
        split at he
        · rename_i H2 hst
          simp only [Option.some.injEq, Prod.mk.injEq] at he
          obtain ⟨rfl, rfl⟩ := he
          have hn0 : Nat.min n len ≠ 0 := fun h => by rw [h] at h0; simp at h0
          have hnl' : Nat.min n len ≤ len := Nat.min_le_right n len
          have hnn : Nat.min n len ≤ n := Nat.min_le_left n len
          obtain ⟨B, O, S', w', hg, hstep, hsrun⟩ := storeN_sound (P := P) hS hst (hVs.take (Nat.min n len * j.size))
          rcases ha with ha | ⟨B', O', S'', hg', rfl, hSz⟩
          · omega
          rw [hg] at hg'
          simp only [Option.some.injEq, Prod.mk.injEq] at hg'
          obtain ⟨rfl, rfl, rfl⟩ := hg'
          refine ⟨g, _, w', hstep, .int _ _, ?_⟩
          have h1 := hsub (Nat.min n len) hnn
          simp [Go.Builtin.copy_, und_run hu (by simp) w, run_sizeOf hj, hlen, h1, hsrun, goInt]
        · simp at he
    · simp at he
  · simp at he

theorem compW_sound (hS : Sim g H w) {o : Oper} {wk : WK} {xs : List Operand} (hc : compW P o = some (wk, xs)) {args : List AV} {v : AV} (hv : VRels g args (xs.map ρ)) (he : evalW H wk args = some (v, H')) :
    AnsU P g H w v H' (execOp ρ o) := by
  unfold compW at hc
  split at hc
  · rename_i t a x ho
    split at hc
    · rename_i j hj
      simp only [Option.some.injEq, Prod.mk.injEq] at hc
      obtain ⟨rfl, rfl⟩ := hc
      exact (snw_store hS hj hv he).eq (by simp only [execOp, ho])
    · simp at hc
  · rename_i t m k x ho
    split at hc
    · rename_i kt e hu
      split at hc
      · rename_i hk
        simp only [Option.some.injEq, Prod.mk.injEq] at hc
        obtain ⟨rfl, rfl⟩ := hc
        exact (snw_mapIns hS hu hk hv he).eq (by simp only [execOp, ho])
      · simp at hc
    · simp at hc
  · rename_i as ts ho
    split at hc
    · rename_i s x t xt h1 h2
      split at hc
      · rename_i e hu
        split at hc
        · rename_i j hj
          split at hc
          · rename_i Z hZ
            cases hb : (Nat.beq Z.cells.size j.size && strOrSl (und P xt)) with
            | false => rw [hb] at hc; simp at hc
            | true =>
              rw [hb] at hc
              simp only [cond_true, Option.some.injEq, Prod.mk.injEq] at hc
              obtain ⟨rfl, rfl⟩ := hc
              simp only [Bool.and_eq_true, Nat.beq_eq] at hb
              have e1 : as = #[s, x] := by rw [← Array.toArray_toList (xs := as), h1]
              have e2 : ts = #[t, xt] := by rw [← Array.toArray_toList (xs := ts), h2]
              exact (AnsU.of (snw_append hS (ty := o.type) hu hj hZ hb.1 hb.2 hv he)).eq (by rw [exec_builtin ho, e1, e2]; simp [Go.builtin])
          · simp at hc
        · simp at hc
      · simp at hc
    · simp at hc
  · rename_i as ts ho
    split at hc
    · rename_i s x t xt h1 h2
      split at hc
      · rename_i e hu
        split at hc
        · rename_i j hj
          simp only [Option.some.injEq, Prod.mk.injEq] at hc
          obtain ⟨rfl, rfl⟩ := hc
          have e1 : as = #[s, x] := by rw [← Array.toArray_toList (xs := as), h1]
          have e2 : ts = #[t, xt] := by rw [← Array.toArray_toList (xs := ts), h2]
          have hX : ∃ n, ∀ w1, (Go.Builtin.lenOf (ρ x)).run P w1 = .ok n w1 := by
            have he' : wCopy j.size H args = some (v, H') := he
            unfold wCopy at he'
            split at he'
            · split at he'
              · rename_i q hnew
                obtain ⟨q1, q2⟩ := q
                cases hv with | cons h1' tl => cases tl with | cons h2' tl =>
                obtain ⟨_, _, _, hl, _⟩ := newCells_sound (P := P) hS h2' hnew
                exact ⟨_, hl⟩
              · simp at he'
            · split at he'
              · rename_i hnew
                cases hv with | cons h1' tl => cases tl with | cons h2' tl =>
                obtain ⟨_, _, _, hl, _⟩ := newCells_sound (P := P) hS h2' hnew
                exact ⟨_, hl⟩
              · simp at he'
            · simp at he'
          exact (AnsU.of (snw_copy hS (xt := xt) (ty := o.type) hu hj hv he hX)).eq (by rw [exec_builtin ho, e1, e2]; simp [Go.builtin])
        · simp at hc
      · simp at hc
    · simp at hc
  · simp at hc

end
end
end Go.Ax


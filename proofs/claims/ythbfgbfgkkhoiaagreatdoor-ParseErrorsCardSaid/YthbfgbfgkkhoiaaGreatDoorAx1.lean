/- Keys, tries, packed strings, abstract values: the data of an abstract executor. No condition. -/
import Derived.Calls
import Derived.Orders
import Derived.Laws.Sem
import Derived.Below
import GoSem.Dispatch
import Derived.Laws.Strings
set_option linter.unusedVariables false
namespace Go.Ax
noncomputable section

/-- A key: a positive number, its lowest binary digit first. -/
inductive K where
  | xh
  | xo (k : K)
  | xi (k : K)
  deriving DecidableEq, Inhabited

def K.beq : K → K → Bool
  | .xh, .xh => true
  | .xo a, .xo b => K.beq a b
  | .xi a, .xi b => K.beq a b
  | _, _ => false

theorem K.beq_eq : ∀ {a b : K}, K.beq a b = true → a = b
  | .xh, .xh, _ => rfl
  | .xo a, .xo b, e => by rw [K.beq_eq (a := a) (b := b) e]
  | .xi a, .xi b, e => by rw [K.beq_eq (a := a) (b := b) e]
  | .xh, .xo _, e => by simp [K.beq] at e
  | .xh, .xi _, e => by simp [K.beq] at e
  | .xo _, .xh, e => by simp [K.beq] at e
  | .xo _, .xi _, e => by simp [K.beq] at e
  | .xi _, .xh, e => by simp [K.beq] at e
  | .xi _, .xo _, e => by simp [K.beq] at e

theorem K.beq_refl : ∀ a : K, K.beq a a = true
  | .xh => rfl
  | .xo a => K.beq_refl a
  | .xi a => K.beq_refl a

def K.succ : K → K
  | .xh => .xo .xh
  | .xo k => .xi k
  | .xi k => .xo k.succ

def K.toNat : K → Nat
  | .xh => 1
  | .xo k => 2 * k.toNat
  | .xi k => 2 * k.toNat + 1

theorem K.toNat_pos : ∀ k : K, 0 < k.toNat
  | .xh => by decide
  | .xo k => by have := k.toNat_pos; simp only [K.toNat]; omega
  | .xi k => by simp only [K.toNat]; omega

theorem K.toNat_succ : ∀ k : K, k.succ.toNat = k.toNat + 1
  | .xh => rfl
  | .xo k => rfl
  | .xi k => by simp only [K.succ, K.toNat, K.toNat_succ k]; omega

theorem K.toNat_inj : ∀ {a b : K}, a.toNat = b.toNat → a = b
  | .xh, .xh, _ => rfl
  | .xo a, .xo b, e => by rw [K.toNat_inj (a := a) (b := b) (by simp only [K.toNat] at e; omega)]
  | .xi a, .xi b, e => by rw [K.toNat_inj (a := a) (b := b) (by simp only [K.toNat] at e; omega)]
  | .xh, .xo b, e => by have := b.toNat_pos; simp only [K.toNat] at e; omega
  | .xh, .xi b, e => by have := b.toNat_pos; simp only [K.toNat] at e; omega
  | .xo a, .xh, e => by have := a.toNat_pos; simp only [K.toNat] at e; omega
  | .xi a, .xh, e => by have := a.toNat_pos; simp only [K.toNat] at e; omega
  | .xo a, .xi b, e => by simp only [K.toNat] at e; omega
  | .xi a, .xo b, e => by simp only [K.toNat] at e; omega

/-- The key of a positive number (fuel: itself). -/
def K.ofPos (f : Nat) : Nat → K :=
  Nat.rec (motive := fun _ => Nat → K) (fun _ => .xh) (fun _ ih n => cond (Nat.ble n 1) .xh (cond (Nat.beq (Nat.mod n 2) 0) (.xo (ih (Nat.div n 2))) (.xi (ih (Nat.div n 2))))) f

theorem K.ofPos_succ (f n : Nat) : K.ofPos (f + 1) n =
    cond (Nat.ble n 1) .xh (cond (Nat.beq (Nat.mod n 2) 0) (.xo (K.ofPos f (Nat.div n 2))) (.xi (K.ofPos f (Nat.div n 2)))) := rfl

theorem K.toNat_ofPos : ∀ (f n : Nat), 0 < n → n ≤ f → (K.ofPos f n).toNat = n := by
  intro f
  induction f with
  | zero => intro n h h'; omega
  | succ f ih =>
    intro n h h'
    rw [K.ofPos_succ]
    by_cases h1 : n ≤ 1
    · have : Nat.ble n 1 = true := by simpa using h1
      rw [this]; simp only [cond, K.toNat]; omega
    · have : Nat.ble n 1 = false := by
        cases hb : Nat.ble n 1
        · rfl
        · exact absurd (by simpa using hb) h1
      rw [this]
      have hd : 0 < Nat.div n 2 := by show 0 < n / 2; omega
      have hd' : Nat.div n 2 ≤ f := by show n / 2 ≤ f; omega
      have hi := ih (Nat.div n 2) hd hd'
      have e1 : Nat.div n 2 = n / 2 := rfl
      have e2 : Nat.mod n 2 = n % 2 := rfl
      rw [e1] at hi
      by_cases h2 : n % 2 = 0
      · have : Nat.beq (Nat.mod n 2) 0 = true := by rw [e2, h2]; rfl
        rw [this]; simp only [cond, K.toNat, e1, hi]; omega
      · have : Nat.beq (Nat.mod n 2) 0 = false := by
          rw [e2]; have : n % 2 = 1 := by omega
          rw [this]; rfl
        rw [this]; simp only [cond, K.toNat, e1, hi]; omega

/-- The key of an index. -/
def K.of (n : Nat) : K := K.ofPos (Nat.succ n) (Nat.succ n)

theorem K.toNat_of (n : Nat) : (K.of n).toNat = n + 1 := K.toNat_ofPos _ _ (Nat.succ_pos n) (Nat.le_refl _)

theorem K.of_inj {a b : Nat} (h : K.of a = K.of b) : a = b := by
  have := congrArg K.toNat h
  rw [K.toNat_of, K.toNat_of] at this
  omega

theorem K.of_toNat (k : K) : K.of (k.toNat - 1) = k := by
  apply K.toNat_inj
  have := k.toNat_pos
  rw [K.toNat_of]; omega

/-! ### Tries -/

inductive Tr (α : Type) where
  | lf
  | nd (v : Option α) (l r : Tr α)

namespace Tr
variable {α : Type}

def val : Tr α → Option α | .lf => none | .nd v _ _ => v
def left : Tr α → Tr α | .lf => .lf | .nd _ l _ => l
def right : Tr α → Tr α | .lf => .lf | .nd _ _ r => r

def get (k : K) : Tr α → Option α :=
  K.rec (motive := fun _ => Tr α → Option α) (fun t => t.val) (fun _ ih t => Tr.rec (motive := fun _ => Option α) none (fun _ l _ _ _ => ih l) t) (fun _ ih t => Tr.rec (motive := fun _ => Option α) none (fun _ _ r _ _ => ih r) t) k

def set (k : K) (x : α) : Tr α → Tr α :=
  K.rec (motive := fun _ => Tr α → Tr α) (fun t => Tr.rec (motive := fun _ => Tr α) (.nd (some x) .lf .lf) (fun _ l r _ _ => .nd (some x) l r) t)
    (fun _ ih t => Tr.rec (motive := fun _ => Tr α) (.nd none (ih .lf) .lf) (fun v l r _ _ => .nd v (ih l) r) t)
    (fun _ ih t => Tr.rec (motive := fun _ => Tr α) (.nd none .lf (ih .lf)) (fun v l r _ _ => .nd v l (ih r)) t) k

theorem get_lf' : ∀ k : K, get k (.lf : Tr α) = none
  | .xh => rfl
  | .xo k => rfl
  | .xi k => rfl

@[simp] theorem get_h (t : Tr α) : get .xh t = t.val := rfl
@[simp] theorem get_o (k : K) (t : Tr α) : get (.xo k) t = get k t.left := by cases t with | lf => exact (get_lf' k).symm | nd v l r => rfl
@[simp] theorem get_i (k : K) (t : Tr α) : get (.xi k) t = get k t.right := by cases t with | lf => exact (get_lf' k).symm | nd v l r => rfl
@[simp] theorem set_h (x : α) (t : Tr α) : set .xh x t = .nd (some x) t.left t.right := by cases t <;> rfl
@[simp] theorem set_o (k : K) (x : α) (t : Tr α) : set (.xo k) x t = .nd t.val (set k x t.left) t.right := by cases t <;> rfl
@[simp] theorem set_i (k : K) (x : α) (t : Tr α) : set (.xi k) x t = .nd t.val t.left (set k x t.right) := by cases t <;> rfl

theorem get_lf : ∀ k : K, get k (.lf : Tr α) = none
  | .xh => rfl
  | .xo k => by simp only [get_o, left]; exact get_lf k
  | .xi k => by simp only [get_i, right]; exact get_lf k

theorem get_set_same : ∀ (k : K) (x : α) (t : Tr α), get k (set k x t) = some x
  | .xh, _, t => by cases t <;> rfl
  | .xo k, x, t => by simp only [set_o, get_o, left]; exact get_set_same k x _
  | .xi k, x, t => by simp only [set_i, get_i, right]; exact get_set_same k x _

theorem get_set_ne : ∀ {k j : K} (_ : k ≠ j) (x : α) (t : Tr α), get j (set k x t) = get j t
  | .xh, .xh, h, _, _ => absurd rfl h
  | .xh, .xo j, _, x, t => by simp [left]
  | .xh, .xi j, _, x, t => by simp [right]
  | .xo k, .xh, _, x, t => by simp [val]
  | .xo k, .xo j, h, x, t => by simp only [set_o, get_o, left]; exact get_set_ne (fun e => h (by rw [e])) x _
  | .xo k, .xi j, _, x, t => by simp [right]
  | .xi k, .xh, _, x, t => by simp [val]
  | .xi k, .xo j, _, x, t => by simp [left]
  | .xi k, .xi j, h, x, t => by simp only [set_i, get_i, right]; exact get_set_ne (fun e => h (by rw [e])) x _

theorem get_set (k j : K) (x : α) (t : Tr α) : get j (set k x t) = if k = j then some x else get j t := by
  by_cases h : k = j
  · subst h; simp [get_set_same]
  · rw [if_neg h, get_set_ne h]

/-- Many, from an index on. -/
def setFrom (n : Nat) (l : List α) : Tr α → Tr α :=
  List.rec (motive := fun _ => Nat → Tr α → Tr α) (fun _ t => t) (fun x _ ih n t => ih (Nat.succ n) (set (K.of n) x t)) l n

theorem setFrom_nil (n : Nat) (t : Tr α) : setFrom n [] t = t := rfl
theorem setFrom_cons (n : Nat) (x : α) (r : List α) (t : Tr α) : setFrom n (x :: r) t = setFrom (Nat.succ n) r (set (K.of n) x t) := rfl

theorem get_setFrom : ∀ (l : List α) (n j : Nat) (t : Tr α),
    get (K.of j) (setFrom n l t) = if n ≤ j ∧ j < n + l.length then l[j - n]? else get (K.of j) t
  | [], n, j, t => by
    simp only [setFrom_nil, List.length_nil]
    rw [if_neg (by omega)]
  | x :: r, n, j, t => by
    simp only [setFrom_cons, get_setFrom r, List.length_cons]
    by_cases h1 : n + 1 ≤ j ∧ j < n + 1 + r.length
    · rw [if_pos h1, if_pos (by omega)]
      obtain ⟨m, hm⟩ : ∃ m, j - n = m + 1 := ⟨j - n - 1, by omega⟩
      rw [hm, List.getElem?_cons_succ]
      congr 1
      omega
    · rw [if_neg h1]
      by_cases h2 : j = n
      · subst h2
        rw [if_pos (by omega), get_set_same]
        simp
      · rw [if_neg (by omega), get_set_ne (fun e => h2 (K.of_inj e).symm)]

/-- So many, from an index on; none if one is missing. -/
def getFrom (n : Nat) (t : Tr α) : Nat → Option (List α)
  | 0 => some []
  | m + 1 => match get (K.of n) t with
    | none => none
    | some x => match getFrom (Nat.succ n) t m with
      | none => none
      | some r => some (x :: r)

theorem getFrom_spec : ∀ (m n : Nat) (t : Tr α) (l : List α), getFrom n t m = some l →
    l.length = m ∧ ∀ j, j < m → get (K.of (n + j)) t = l[j]?
  | 0, n, t, l, h => by
    simp only [getFrom, Option.some.injEq] at h
    subst h
    exact ⟨rfl, fun j hj => by omega⟩
  | m + 1, n, t, l, h => by
    simp only [getFrom] at h
    cases hx : get (K.of n) t with
    | none => rw [hx] at h; simp at h
    | some x =>
      rw [hx] at h
      simp only [] at h
      cases hr : getFrom (Nat.succ n) t m with
      | none => rw [hr] at h; simp at h
      | some r =>
        rw [hr] at h
        simp only [Option.some.injEq] at h
        subst h
        obtain ⟨h1, h2⟩ := getFrom_spec m _ t r hr
        refine ⟨by simp [h1], fun j hj => ?_⟩
        cases j with
        | zero => simpa using hx
        | succ j =>
          have := h2 j (by omega)
          rw [List.getElem?_cons_succ, ← this]
          congr 2
          omega

end Tr

/-! ### Packed strings: so many bytes, as one number, the first byte lowest -/

def unp : Nat → Nat → List UInt8
  | 0, _ => []
  | n + 1, v => UInt8.ofNat (v % 256) :: unp n (v / 256)

theorem unp_succ (n v : Nat) : unp (n + 1) v = UInt8.ofNat (v % 256) :: unp n (v / 256) := rfl

def pack : List UInt8 → Nat
  | [] => 0
  | b :: r => b.toNat + 256 * pack r

theorem unp_length : ∀ n v, (unp n v).length = n
  | 0, _ => rfl
  | n + 1, v => by simp [unp, unp_length n]

theorem pack_lt : ∀ l : List UInt8, pack l < 256 ^ l.length
  | [] => by simp [pack]
  | b :: r => by
    have := pack_lt r
    have hb : b.toNat < 256 := b.toNat_lt
    simp only [pack, List.length_cons, Nat.pow_succ]
    omega

theorem unp_pack : ∀ l : List UInt8, unp l.length (pack l) = l
  | [] => rfl
  | b :: r => by
    have hb : b.toNat < 256 := b.toNat_lt
    simp only [List.length_cons, unp, pack]
    have h1 : (b.toNat + 256 * pack r) % 256 = b.toNat := by omega
    have h2 : (b.toNat + 256 * pack r) / 256 = pack r := by omega
    rw [h1, h2, unp_pack r]
    simp

theorem pack_unp : ∀ (n v : Nat), v < 256 ^ n → pack (unp n v) = v
  | 0, v, h => by simp at h; simp [unp, pack, h]
  | n + 1, v, h => by
    simp only [unp, pack]
    rw [pack_unp n (v / 256) (by rw [Nat.pow_succ] at h; omega)]
    simp
    omega

theorem unp_getElem? : ∀ (n v i : Nat), i < n → (unp n v)[i]? = some (UInt8.ofNat (v / 256 ^ i % 256))
  | 0, v, i, h => by omega
  | n + 1, v, 0, h => by simp [unp]
  | n + 1, v, i + 1, h => by
    simp only [unp, List.getElem?_cons_succ]
    rw [unp_getElem? n _ i (by omega), Nat.div_div_eq_div_mul, Nat.pow_succ, Nat.mul_comm 256]

theorem unp_drop : ∀ (l n v : Nat), (unp n v).drop l = unp (n - l) (v / 256 ^ l)
  | 0, n, v => by simp
  | l + 1, 0, v => by simp [unp]
  | l + 1, n + 1, v => by
    simp only [unp, List.drop_succ_cons]
    rw [unp_drop l n, Nat.div_div_eq_div_mul, Nat.pow_succ, Nat.mul_comm 256]
    congr 1
    omega

theorem unp_take : ∀ (h n v : Nat), h ≤ n → (unp n v).take h = unp h (v % 256 ^ h)
  | 0, n, v, _ => by simp [unp]
  | h + 1, 0, v, hh => by omega
  | h + 1, n + 1, v, hh => by
    simp only [unp, List.take_succ_cons]
    rw [unp_take h n _ (by omega)]
    have e : (256 : Nat) ^ (h + 1) = 256 * 256 ^ h := by rw [Nat.pow_succ, Nat.mul_comm]
    rw [e, Nat.mod_mul_right_mod, Nat.mod_mul_right_div_self]

theorem unp_mod : ∀ (n v : Nat), unp n (v % 256 ^ n) = unp n v := by
  intro n v
  have := unp_take n n v (Nat.le_refl _)
  rw [List.take_of_length_le (by rw [unp_length]; exact Nat.le_refl _)] at this
  exact this.symm

theorem unp_append : ∀ (n m v u : Nat), v < 256 ^ n → unp n v ++ unp m u = unp (n + m) (v + u * 256 ^ n)
  | 0, m, v, u, h => by simp at h; simp [unp, h]
  | n + 1, m, v, u, h => by
    rw [Nat.pow_succ] at h
    have e : n + 1 + m = (n + m) + 1 := by omega
    rw [e]
    simp only [unp, List.cons_append]
    have h1 : (v + u * 256 ^ (n + 1)) % 256 = v % 256 := by
      rw [Nat.pow_succ, ← Nat.mul_assoc, Nat.add_mul_mod_self_right]
    have h2 : (v + u * 256 ^ (n + 1)) / 256 = v / 256 + u * 256 ^ n := by
      rw [Nat.pow_succ, ← Nat.mul_assoc, Nat.add_mul_div_right _ _ (by decide)]
    rw [h1, h2, unp_append n m (v / 256) u (by omega)]

/-- A string is so many bytes of a number. -/
structure SRel (n v : Nat) (S : ByteArray) : Prop where
  eq : S.data.toList = unp n v
  lt : v < 256 ^ n

theorem SRel.size {n v : Nat} {S : ByteArray} (h : SRel n v S) : S.size = n := by
  have := congrArg List.length h.eq
  rw [unp_length] at this
  simpa using this

theorem SRel.of (S : ByteArray) : SRel S.size (pack S.data.toList) S := by
  have e : S.data.toList.length = S.size := Array.length_toList
  exact ⟨by rw [← e, unp_pack], by rw [← e]; exact pack_lt _⟩

theorem SRel.ext {n v n' v' : Nat} {S S' : ByteArray} (h : SRel n v S) (h' : SRel n' v' S') : S = S' ↔ (n = n' ∧ v = v') := by
  constructor
  · intro e
    subst e
    have hn : n = n' := by rw [← h.size, h'.size]
    subst hn
    refine ⟨rfl, ?_⟩
    rw [← pack_unp n v h.lt, ← pack_unp n v' h'.lt, ← h.eq, ← h'.eq]
  · rintro ⟨rfl, rfl⟩
    have := h.eq.trans h'.eq.symm
    cases S; cases S'
    simp only [ByteArray.mk.injEq]
    exact Array.toList_inj.1 this

theorem SRel.getElem? {n v : Nat} {S : ByteArray} (h : SRel n v S) {i : Nat} (hi : i < n) :
    S.data.toList[i]? = some (UInt8.ofNat (v / 256 ^ i % 256)) := by rw [h.eq, unp_getElem? n v i hi]

end
end Go.Ax

/- Abstract values, blocks, heaps, and what of the model's values and memory they stand for. No condition. -/
set_option linter.unusedVariables false
namespace Go.Ax
noncomputable section

inductive AV where
  | bool (b : Bool)
  | int (k : IntKind) (n : Int)
  | str (n v : Nat)
  | ptr (id : K) (off : Nat)
  | nilp
  | slice (id : K) (off es len cap : Nat) (ex : Bool)
  | nils
  | map (id : K)
  | nilm
  | func (fn : Fn) (first captured : List AV)
  | nilf
  | iface (t : Nat) (v : AV)
  | nili
  | agg (cs : List AV)
  | tuple (vs : List AV)
  deriving Inhabited

/-- Where an id lies: a block, from which cell on, how many cells the block has. -/
abbrev G := K → Option (Nat × Nat × Nat)

def G.le (g g' : G) : Prop := ∀ id x, g id = some x → g' id = some x
theorem G.le.refl (g : G) : g.le g := fun _ _ h => h
theorem G.le.trans {a b c : G} (h : a.le b) (h' : b.le c) : a.le c := fun id x e => h' id x (h id x e)

mutual
inductive VRel (g : G) : AV → Value → Prop
  | bool (b : Bool) : VRel g (.bool b) (.bool b)
  | int (k : IntKind) (n : Int) : VRel g (.int k n) (.int k n)
  | str {n v : Nat} {S : ByteArray} (h : SRel n v S) : VRel g (.str n v) (.string S)
  | ptr {id : K} {off B O S : Nat} (h : g id = some (B, O, S)) : VRel g (.ptr id off) (.pointer (some ⟨B, O + off, none⟩))
  | nilp : VRel g .nilp (.pointer none)
  | slice {id : K} {off es len cap : Nat} {ex : Bool} {A : Addr} {C : Nat} (hl : len ≤ cap) (hc : cap ≤ C) (he : ex = true → cap = C)
      (ha : C = 0 ∨ ∃ B O S, g id = some (B, O, S) ∧ A = ⟨B, O + off, none⟩ ∧ (ex = false → O + off + C * es ≤ S)) : VRel g (.slice id off es len cap ex) (.slice (some A) len C)
  | nils : VRel g .nils (.slice none 0 0)
  | map {id : K} {B S : Nat} (h : g id = some (B, 0, S)) : VRel g (.map id) (.map (some B))
  | nilm : VRel g .nilm (.map none)
  | func {fn : Fn} {f c : List AV} {F C : Array Value} (hf : VRels g f F.toList) (hc : VRels g c C.toList) : VRel g (.func fn f c) (.func fn F C)
  | nilf : VRel g .nilf .nilFunc
  | iface {t : Nat} {v : AV} {V : Value} (h : VRel g v V) : VRel g (.iface t v) (.iface t V)
  | nili : VRel g .nili .nilIface
  | agg {cs : List AV} {C : Array Value} (h : VRels g cs C.toList) : VRel g (.agg cs) (.agg C)
  | tuple {cs : List AV} {C : Array Value} (h : VRels g cs C.toList) : VRel g (.tuple cs) (.tuple C)
inductive VRels (g : G) : List AV → List Value → Prop
  | nil : VRels g [] []
  | cons {a : AV} {v : Value} {as : List AV} {vs : List Value} (h : VRel g a v) (t : VRels g as vs) : VRels g (a :: as) (v :: vs)
end

mutual
theorem VRel.mono {g g' : G} (hg : g.le g') : ∀ {a : AV} {v : Value}, VRel g a v → VRel g' a v
  | _, _, .bool b => .bool b
  | _, _, .int k n => .int k n
  | _, _, .str h => .str h
  | _, _, .ptr h => .ptr (hg _ _ h)
  | _, _, .nilp => .nilp
  | _, _, .slice hl hc he ha => .slice hl hc he (ha.imp id fun ⟨B, O, S, h, e⟩ => ⟨B, O, S, hg _ _ h, e⟩)
  | _, _, .nils => .nils
  | _, _, .map h => .map (hg _ _ h)
  | _, _, .nilm => .nilm
  | _, _, .func hf hc => .func (VRels.mono hg hf) (VRels.mono hg hc)
  | _, _, .nilf => .nilf
  | _, _, .iface h => .iface (VRel.mono hg h)
  | _, _, .nili => .nili
  | _, _, .agg h => .agg (VRels.mono hg h)
  | _, _, .tuple h => .tuple (VRels.mono hg h)
theorem VRels.mono {g g' : G} (hg : g.le g') : ∀ {a : List AV} {v : List Value}, VRels g a v → VRels g' a v
  | _, _, .nil => .nil
  | _, _, .cons h t => .cons (VRel.mono hg h) (VRels.mono hg t)
end

namespace VRels
variable {g : G}

theorem length {a : List AV} {v : List Value} (h : VRels g a v) : v.length = a.length := by
  induction a generalizing v with
  | nil => cases h; rfl
  | cons x xs ih => cases h with | cons h t => simp [ih t]

theorem get {a : List AV} {v : List Value} (h : VRels g a v) : ∀ (i : Nat) (x : AV), a[i]? = some x → ∃ X, v[i]? = some X ∧ VRel g x X := by
  induction a generalizing v with
  | nil => intro i x hx; simp at hx
  | cons y ys ih =>
    cases h with
    | cons h t =>
      intro i x hx
      cases i with
      | zero => simp at hx; subst hx; exact ⟨_, rfl, h⟩
      | succ i => simp at hx; simpa using ih t i x hx

theorem append {a b : List AV} {v u : List Value} (h : VRels g a v) (h' : VRels g b u) : VRels g (a ++ b) (v ++ u) := by
  induction a generalizing v with
  | nil => cases h; exact h'
  | cons y ys ih => cases h with | cons h t => exact .cons h (ih t)

theorem drop {a : List AV} {v : List Value} (h : VRels g a v) : ∀ n, VRels g (a.drop n) (v.drop n) := by
  induction a generalizing v with
  | nil => intro n; cases h; simpa using VRels.nil
  | cons y ys ih =>
    cases h with
    | cons h t =>
      intro n
      cases n with
      | zero => exact .cons h t
      | succ n => simpa using ih t n

theorem take {a : List AV} {v : List Value} (h : VRels g a v) : ∀ n, VRels g (a.take n) (v.take n) := by
  induction a generalizing v with
  | nil => intro n; cases h; simpa using VRels.nil
  | cons y ys ih =>
    cases h with
    | cons h t =>
      intro n
      cases n with
      | zero => exact .nil
      | succ n => simpa using VRels.cons h (ih t n)

theorem of_get {a : List AV} {v : List Value} (hl : v.length = a.length) (h : ∀ (i : Nat) (x : AV) (X : Value), a[i]? = some x → v[i]? = some X → VRel g x X) : VRels g a v := by
  induction a generalizing v with
  | nil => cases v with | nil => exact .nil | cons => simp at hl
  | cons y ys ih =>
    cases v with
    | nil => simp at hl
    | cons u us => exact .cons (h 0 y u rfl rfl) (ih (by simpa using hl) fun i x X hx hX => h (i + 1) x X (by simpa using hx) (by simpa using hX))
end VRels

/-! ### Constants -/

mutual
def AV.ofConst : Value → Option AV
  | .bool b => some (.bool b)
  | .int k n => some (.int k n)
  | .string s => some (.str s.size (pack s.data.toList))
  | .pointer none => some .nilp
  | .slice none 0 0 => some .nils
  | .map none => some .nilm
  | .nilFunc => some .nilf
  | .nilIface => some .nili
  | .agg cs => (AV.ofConsts cs.toList).map .agg
  | .tuple cs => (AV.ofConsts cs.toList).map .tuple
  | _ => none
def AV.ofConsts : List Value → Option (List AV)
  | [] => some []
  | v :: r => match AV.ofConst v, AV.ofConsts r with
    | some a, some b => some (a :: b)
    | _, _ => none
end

mutual
theorem VRel.ofConst (g : G) : ∀ (v : Value) (a : AV), AV.ofConst v = some a → VRel g a v
  | .bool b, a, h => by simp only [AV.ofConst, Option.some.injEq] at h; subst h; exact .bool b
  | .int k n, a, h => by simp only [AV.ofConst, Option.some.injEq] at h; subst h; exact .int k n
  | .string s, a, h => by simp only [AV.ofConst, Option.some.injEq] at h; subst h; exact .str (SRel.of s)
  | .pointer none, a, h => by simp only [AV.ofConst, Option.some.injEq] at h; subst h; exact .nilp
  | .pointer (some _), a, h => by simp [AV.ofConst] at h
  | .slice none 0 0, a, h => by simp only [AV.ofConst, Option.some.injEq] at h; subst h; exact .nils
  | .slice none 0 (_ + 1), a, h => by simp [AV.ofConst] at h
  | .slice none (_ + 1) _, a, h => by simp [AV.ofConst] at h
  | .slice (some _) _ _, a, h => by simp [AV.ofConst] at h
  | .map none, a, h => by simp only [AV.ofConst, Option.some.injEq] at h; subst h; exact .nilm
  | .map (some _), a, h => by simp [AV.ofConst] at h
  | .nilFunc, a, h => by simp only [AV.ofConst, Option.some.injEq] at h; subst h; exact .nilf
  | .nilIface, a, h => by simp only [AV.ofConst, Option.some.injEq] at h; subst h; exact .nili
  | .agg cs, a, h => by
    simp only [AV.ofConst, Option.map_eq_some_iff] at h
    obtain ⟨l, hl, rfl⟩ := h
    exact .agg (VRels.ofConsts g cs.toList l hl)
  | .tuple cs, a, h => by
    simp only [AV.ofConst, Option.map_eq_some_iff] at h
    obtain ⟨l, hl, rfl⟩ := h
    exact .tuple (VRels.ofConsts g cs.toList l hl)
  | .float _ _, a, h => by simp [AV.ofConst] at h
  | .complex _ _ _, a, h => by simp [AV.ofConst] at h
  | .chan _, a, h => by simp [AV.ofConst] at h
  | .func _ _ _, a, h => by simp [AV.ofConst] at h
  | .iface _ _, a, h => by simp [AV.ofConst] at h
theorem VRels.ofConsts (g : G) : ∀ (v : List Value) (a : List AV), AV.ofConsts v = some a → VRels g a v
  | [], a, h => by simp only [AV.ofConsts, Option.some.injEq] at h; subst h; exact .nil
  | v :: r, a, h => by
    simp only [AV.ofConsts] at h
    split at h
    · rename_i x y hx hy
      simp only [Option.some.injEq] at h
      subst h
      exact .cons (VRel.ofConst g v x hx) (VRels.ofConsts g r y hy)
    · simp at h
end

/-! ### Heaps -/

inductive ABlk where
  | cells (sz : Nat) (c : Tr AV) (rw : Bool)
  | map (es : List (AV × AV × Nat)) (clock : Nat)
  | dead
  deriving Inhabited

structure AH where
  h : Tr ABlk
  nx : K

def AH.get (H : AH) (id : K) : ABlk := match H.h.get id with | some b => b | none => .dead

def ABlk.live : ABlk → Bool | .dead => false | _ => true
/-- May its block be written? (a map may) -/
def ABlk.rw : ABlk → Bool | .cells _ _ b => b | .map _ _ => true | .dead => false

inductive ERels (g : G) : List (AV × AV × Nat) → List MapEntry → Prop
  | nil : ERels g [] []
  | cons {k v : AV} {n : Nat} {K V : Value} {es : List (AV × AV × Nat)} {ms : List MapEntry} (hk : VRel g k K) (hv : VRel g v V) (t : ERels g es ms) :
      ERels g ((k, v, n) :: es) (⟨K, V, n⟩ :: ms)

theorem ERels.mono {g g' : G} (hg : g.le g') {es : List (AV × AV × Nat)} {ms : List MapEntry} (h : ERels g es ms) : ERels g' es ms := by
  induction h with
  | nil => exact .nil
  | cons hk hv _ ih => exact .cons (hk.mono hg) (hv.mono hg) ih

/-- What a block's cells are, from cell O of a row on. -/
structure CRel (g : G) (sz : Nat) (c : Tr AV) (rw : Bool) (O : Nat) (cs : Array Value) (fz : Nat × Nat) : Prop where
  fits : O + sz ≤ cs.size
  cell : ∀ i, i < sz → ∃ v V, c.get (K.of i) = some v ∧ cs[O + i]? = some V ∧ VRel g v V
  free : ∀ o, O ≤ o → o < cs.size → ¬ (fz.1 ≤ o ∧ o < fz.2)
  plain : rw = false → fz = (0, 0)

def BRel (g : G) (w : World) (B O S : Nat) : ABlk → Prop
  | .dead => True
  | .cells sz c rw => ∃ cs T fz, w.heap[B]? = some (.cells cs T fz) ∧ CRel g sz c rw O cs fz ∧ cs.size = S
  | .map es clock => O = 0 ∧ ∃ ms, w.heap[B]? = some (.map ms clock) ∧ ERels g es ms.toList

/-- How many cells it has. -/
def ABlk.size : ABlk → Nat | .cells sz _ _ => sz | _ => 0

/-- Two rows of one block, neither of which may be written, that have no cell in common. -/
def RowsApart (b b' : ABlk) (x x' : Nat × Nat) : Prop := b.rw = false ∧ b'.rw = false ∧ ∀ o o', o < b.size → o' < b'.size → x.1 + o ≠ x'.1 + o'

structure Sim (g : G) (H : AH) (w : World) : Prop where
  /-- every live id lies somewhere -/
  blk : ∀ id, (H.get id).live = true → ∃ B O S, g id = some (B, O, S) ∧ BRel g w B O S (H.get id)
  /-- no two live ids in one block -/
  inj : ∀ id id' B x x', (H.get id).live = true → (H.get id').live = true → g id = some (B, x) → g id' = some (B, x') → id = id' ∨ RowsApart (H.get id) (H.get id') x x'
  size : ∀ id B x, g id = some (B, x) → B < w.heap.size
  fresh : ∀ id x, g id = some x → id.toNat < H.nx.toNat

/-- What a step may do, but for ids in reserve. -/
structure Step0 (g : G) (H : AH) (w : World) (g' : G) (H' : AH) (w' : World) : Prop where
  sim : Sim g' H' w'
  le : g.le g'
  nx : H.nx.toNat ≤ H'.nx.toNat
  /-- what lives behind it lies in new blocks, or where something lived -/
  own : ∀ id B x, (H'.get id).live = true → g' id = some (B, x) → w.heap.size ≤ B ∨ (∃ id0 x0, (H.get id0).rw = true ∧ g id0 = some (B, x0)) ∨ ((H.get id).live = true ∧ H'.get id = H.get id ∧ g id = some (B, x))
  /-- what nobody that may be written lies in is as it was -/
  frame : ∀ B, B < w.heap.size → (∀ id x, (H.get id).rw = true → g id ≠ some (B, x)) → w'.heap[B]? = w.heap[B]?
  size : w.heap.size ≤ w'.heap.size
  os : w'.os = w.os
  tape : w'.tape = w.tape
  output : w'.output = w.output

/-- What a step may do. -/
structure Step (g : G) (H : AH) (w : World) (g' : G) (H' : AH) (w' : World) : Prop where
  sim : Sim g' H' w'
  le : g.le g'
  nx : H.nx.toNat ≤ H'.nx.toNat
  /-- what lives behind it lies in new blocks, or where something lived -/
  own : ∀ id B x, (H'.get id).live = true → g' id = some (B, x) → w.heap.size ≤ B ∨ (∃ id0 x0, (H.get id0).rw = true ∧ g id0 = some (B, x0)) ∨ ((H.get id).live = true ∧ H'.get id = H.get id ∧ g id = some (B, x))
  /-- what nobody that may be written lies in is as it was -/
  frame : ∀ B, B < w.heap.size → (∀ id x, (H.get id).rw = true → g id ≠ some (B, x)) → w'.heap[B]? = w.heap[B]?
  size : w.heap.size ≤ w'.heap.size
  os : w'.os = w.os
  tape : w'.tape = w.tape
  output : w'.output = w.output
  /-- ids held in reserve stay so -/
  old : ∀ id, id.toNat < H.nx.toNat → g id = none → g' id = none

theorem ABlk.live_of_rw : ∀ {b : ABlk}, b.rw = true → b.live = true
  | .cells _ _ _, _ => rfl
  | .map _ _, _ => rfl
  | .dead, h => by simp [ABlk.rw] at h

theorem BRel.of_block {g : G} {w w' : World} {B O S : Nat} {b : ABlk} (h : BRel g w B O S b) (e : w'.heap[B]? = w.heap[B]?) : BRel g w' B O S b := by
  cases b with
  | dead => exact trivial
  | cells sz c rw => obtain ⟨cs, T, fz, h1, h2⟩ := h; exact ⟨cs, T, fz, e.trans h1, h2⟩
  | map es clock => obtain ⟨h0, ms, h1, h2⟩ := h; exact ⟨h0, ms, e.trans h1, h2⟩

theorem CRel.mono {g g' : G} (hg : g.le g') {sz : Nat} {c : Tr AV} {rw : Bool} {O : Nat} {cs : Array Value} {fz : Nat × Nat} (h : CRel g sz c rw O cs fz) : CRel g' sz c rw O cs fz :=
  ⟨h.fits, fun i hi => let ⟨v, V, h1, h2, h3⟩ := h.cell i hi; ⟨v, V, h1, h2, h3.mono hg⟩, h.free, h.plain⟩

theorem BRel.mono {g g' : G} (hg : g.le g') {w : World} {B O S : Nat} {b : ABlk} (h : BRel g w B O S b) : BRel g' w B O S b := by
  cases b with
  | dead => exact trivial
  | cells sz c rw => obtain ⟨cs, T, fz, h1, h2⟩ := h; exact ⟨cs, T, fz, h1, h2.1.mono hg, h2.2⟩
  | map es clock => obtain ⟨h0, ms, h1, h2⟩ := h; exact ⟨h0, ms, h1, h2.mono hg⟩

theorem Sim.of_heap {g : G} {H : AH} {w w' : World} (h : Sim g H w) (e : w'.heap = w.heap) : Sim g H w' :=
  ⟨fun id hl => let ⟨B, O, S, h1, h2⟩ := h.blk id hl; ⟨B, O, S, h1, h2.of_block (by rw [e])⟩, h.inj, fun id B x hg => by rw [e]; exact h.size id B x hg, h.fresh⟩

theorem Step.refl {g : G} {H : AH} {w : World} (h : Sim g H w) : Step g H w g H w :=
  ⟨h, .refl g, Nat.le_refl _, fun id B O hl hg => .inr (.inr ⟨hl, rfl, hg⟩), fun _ _ _ => rfl, Nat.le_refl _, rfl, rfl, rfl, fun _ _ h => h⟩

theorem Step.trans {g g1 g2 : G} {H H1 H2 : AH} {w w1 w2 : World} (a : Step g H w g1 H1 w1) (b : Step g1 H1 w1 g2 H2 w2) : Step g H w g2 H2 w2 := by
  refine ⟨b.sim, a.le.trans b.le, Nat.le_trans a.nx b.nx, ?_, ?_, Nat.le_trans a.size b.size, b.os.trans a.os, b.tape.trans a.tape, b.output.trans a.output, fun id hl hn => b.old id (Nat.lt_of_lt_of_le hl a.nx) (a.old id hl hn)⟩
  · intro id B O hl hg
    rcases b.own id B O hl hg with h | ⟨i0, O0, hr0, hg0⟩ | ⟨h1, h2, h3⟩
    · exact .inl (Nat.le_trans a.size h)
    · rcases a.own i0 B O0 (ABlk.live_of_rw hr0) hg0 with h | ⟨i1, O1, hr1, hg1⟩ | ⟨h1, h2, h3⟩
      · exact .inl h
      · exact .inr (.inl ⟨i1, O1, hr1, hg1⟩)
      · exact .inr (.inl ⟨i0, O0, by rw [← h2]; exact hr0, h3⟩)
    · rcases a.own id B O h1 h3 with h | ⟨i1, O1, hr1, hg1⟩ | ⟨h4, h5, h6⟩
      · exact .inl h
      · exact .inr (.inl ⟨i1, O1, hr1, hg1⟩)
      · exact .inr (.inr ⟨h4, h2.trans h5, h6⟩)
  · intro B hB hn
    rw [b.frame B (Nat.lt_of_lt_of_le hB a.size) ?_, a.frame B hB hn]
    intro id O hrw hg
    rcases a.own id B O (ABlk.live_of_rw hrw) hg with h | ⟨i1, O1, hr1, hg1⟩ | ⟨h1, h2, h3⟩
    · omega
    · exact hn i1 O1 hr1 hg1
    · exact hn id O (by rw [← h2]; exact hrw) h3

theorem Sim.inj_rw {g : G} {H : AH} {w : World} (s : Sim g H w) {id id' : K} {B : Nat} {x x' : Nat × Nat} (h : (H.get id).live = true) (h' : (H.get id').rw = true) (e : g id = some (B, x)) (e' : g id' = some (B, x')) : id = id' :=
  (s.inj id id' B x x' h (ABlk.live_of_rw h') e e').resolve_right (fun a => by have := a.2.1; rw [h'] at this; simp at this)

/-- A world with the same heap serves as well (a draw moves a count alone). -/
theorem Step.of_heap {g g' : G} {H H' : AH} {w w1 w' : World} (e : w1.heap = w.heap) (eo : w1.os = w.os) (et : w1.tape = w.tape) (eu : w1.output = w.output)
    (h : Step g H w1 g' H' w') : Step g H w g' H' w' :=
  ⟨h.sim, h.le, h.nx, by rw [← e]; exact h.own, by rw [← e]; exact h.frame, by rw [← e]; exact h.size, h.os.trans eo, h.tape.trans et, h.output.trans eu, h.old⟩

end
end Go.Ax

/- Fast integer operations for the abstract executor, equal to the model's. No condition. -/
set_option linter.unusedVariables false
namespace Go.Ax
noncomputable section

def eqB : Int → Int → Bool
  | .ofNat a, .ofNat b => Nat.beq a b
  | .negSucc a, .negSucc b => Nat.beq a b
  | _, _ => false

theorem eqB_eq (a b : Int) : eqB a b = (a == b) := by
  rw [Bool.eq_iff_iff]
  cases a <;> cases b <;> simp only [eqB, Nat.beq_eq, beq_iff_eq, Int.ofNat.injEq, Int.negSucc.injEq, Bool.false_eq_true, false_iff] <;> first | rfl | exact fun e => by cases e

def ltB : Int → Int → Bool
  | .ofNat a, .ofNat b => Nat.blt a b
  | .negSucc a, .negSucc b => Nat.blt b a
  | .negSucc _, .ofNat _ => true
  | .ofNat _, .negSucc _ => false

theorem ltB_eq (a b : Int) : ltB a b = decide (a < b) := by
  rw [Bool.eq_iff_iff, decide_eq_true_iff]
  cases a <;> cases b <;> simp only [ltB, Nat.blt_eq, Int.ofNat_eq_natCast, Bool.false_eq_true, false_iff, true_iff] <;> omega

def leB : Int → Int → Bool
  | .ofNat a, .ofNat b => Nat.ble a b
  | .negSucc a, .negSucc b => Nat.ble b a
  | .negSucc _, .ofNat _ => true
  | .ofNat _, .negSucc _ => false

theorem leB_eq (a b : Int) : leB a b = decide (a ≤ b) := by
  rw [Bool.eq_iff_iff, decide_eq_true_iff]
  cases a <;> cases b <;> simp only [leB, Nat.ble_eq, Int.ofNat_eq_natCast, Bool.false_eq_true, false_iff, true_iff] <;> omega

/-- The bounds of a kind, written out. -/
def IntKind.lim : IntKind → Nat × Nat
  | .i8 => (128, 128) | .i16 => (32768, 32768) | .i32 => (2147483648, 2147483648) | .i64 => (9223372036854775808, 9223372036854775808)
  | .u8 => (256, 0) | .u16 => (65536, 0) | .u32 => (4294967296, 0) | .u64 => (18446744073709551616, 0)

def wrapF (k : IntKind) : Int → Int
  | .ofNat a => cond (Nat.blt a (IntKind.lim k).1) (.ofNat a) (k.wrap (.ofNat a))
  | .negSucc a => cond (Nat.blt a (IntKind.lim k).2) (.negSucc a) (k.wrap (.negSucc a))

theorem wrap_in {k : IntKind} {n : Int} (h1 : -((IntKind.lim k).2 : Int) ≤ n) (h2 : n < ((IntKind.lim k).1 : Int)) : k.wrap n = n := by
  cases k <;> simp only [IntKind.lim] at h1 h2 <;> simp only [IntKind.wrap, IntKind.bits, IntKind.signed, Bool.false_and, Bool.true_and, Bool.false_eq_true, if_false, Nat.reduceSub, Int.reducePow, decide_eq_true_eq, ge_iff_le] <;>
    (try split) <;> omega

theorem wrapF_eq (k : IntKind) (n : Int) : wrapF k n = k.wrap n := by
  cases n with
  | ofNat a =>
    simp only [wrapF]
    cases h : Nat.blt a (IntKind.lim k).1 with
    | false => rfl
    | true =>
      have h' : a < (IntKind.lim k).1 := by simpa using h
      show Int.ofNat a = k.wrap (Int.ofNat a)
      have h0 : (Int.ofNat a) = (a : Int) := rfl
      rw [h0]
      exact (wrap_in (by omega) (by omega)).symm
  | negSucc a =>
    simp only [wrapF]
    cases h : Nat.blt a (IntKind.lim k).2 with
    | false => rfl
    | true =>
      have h' : a < (IntKind.lim k).2 := by simpa using h
      show Int.negSucc a = k.wrap (Int.negSucc a)
      have h0 : (Int.negSucc a) = -((a : Int) + 1) := by omega
      rw [h0]
      exact (wrap_in (by omega) (by omega)).symm

/-- What is left of a computation that only answers. -/
def ofSem : Sem Value → Option AV
  | .pure (.int k n) => some (.int k n)
  | .pure (.bool b) => some (.bool b)
  | _ => none

def intBin (op : BinOp) (k : IntKind) (a : Int) (k' : IntKind) (b : Int) : Option AV :=
  match op with
  | .add => cond (decide (k = k')) (some (.int k (wrapF k (Int.add a b)))) none
  | .sub => cond (decide (k = k')) (some (.int k (wrapF k (Int.sub a b)))) none
  | .mul => cond (decide (k = k')) (some (.int k (wrapF k (Int.mul a b)))) none
  | .eql => cond (decide (k = k')) (some (.bool (eqB a b))) none
  | .neq => cond (decide (k = k')) (some (.bool (!(eqB a b)))) none
  | .lss => cond (decide (k = k')) (some (.bool (ltB a b))) none
  | .leq => cond (decide (k = k')) (some (.bool (leB a b))) none
  | .gtr => cond (decide (k = k')) (some (.bool (ltB b a))) none
  | .geq => cond (decide (k = k')) (some (.bool (leB b a))) none
  | op => ofSem (Go.binOp op 0 (.int k a) (.int k' b))

theorem ofSem_sound {s : Sem Value} {v : AV} (h : ofSem s = some v) (g : G) : ∃ V, s = .pure V ∧ VRel g v V := by
  unfold ofSem at h
  split at h
  · simp only [Option.some.injEq] at h; subst h; exact ⟨_, rfl, .int _ _⟩
  · simp only [Option.some.injEq] at h; subst h; exact ⟨_, rfl, .bool _⟩
  · simp at h

/-- A program's and a type's place don't matter at whole numbers. -/
theorem binOp_int (op : BinOp) (t t' : Nat) (k k' : IntKind) (a b : Int) : Go.binOp op t (.int k a) (.int k' b) = Go.binOp op t' (.int k a) (.int k' b) := by
  cases op <;> rfl

theorem intBin_sound {op : BinOp} {k k' : IntKind} {a b : Int} {v : AV} (t : Nat) (g : G) (h : intBin op k a k' b = some v) :
    ∃ V, Go.binOp op t (.int k a) (.int k' b) = Sem.pure V ∧ VRel g v V := by
  cases op
  case add | sub | mul | eql | neq | lss | leq | gtr | geq =>
    simp only [intBin] at h
    by_cases hk : k = k'
    · subst hk
      simp only [decide_true, cond_true, Option.some.injEq] at h
      subst h
      simp only [Go.binOp, ne_eq, not_true_eq_false, if_false, Go.Op.intArith, Go.Op.intCmp, wrapF_eq, eqB_eq, ltB_eq, leB_eq]
      first | exact ⟨_, rfl, .int _ _⟩ | exact ⟨_, rfl, .bool _⟩
    · simp [hk] at h
  all_goals
    simp only [intBin] at h
    obtain ⟨V, hV, hr⟩ := ofSem_sound h g
    exact ⟨V, (binOp_int _ _ _ _ _ _ _).trans hV, hr⟩

end
end Go.Ax

/- Operations that only answer: what they are compiled to, what they come to, and that the model's do the same. No condition. -/
set_option linter.unusedVariables false
namespace Go.Ax
noncomputable section

def AV.cells : AV → List AV
  | .agg cs => cs
  | v => [v]

theorem VRel.cells {g : G} {a : AV} {v : Value} (h : VRel g a v) : VRels g a.cells v.cells.toList := by
  cases h <;> first | (rename_i h; exact h) | exact .cons (by constructor <;> assumption) .nil

/-! ### Facts about types -/

section
variable {P : Program} {t : TypeId} {w : World}

theorem run_typeInfo {i : TypeInfo} (h : P.info? t = some i) : (typeInfo t).run P w = .ok i w := by simp [typeInfo, h]
theorem run_underlying {d : TypeDesc} (h : P.underlying t = some d) : (underlying t).run P w = .ok d w := by simp [underlying, h]
theorem run_sizeOf {i : TypeInfo} (h : P.info? t = some i) : (sizeOf t).run P w = .ok i.size w := by simp [sizeOf, run_typeInfo h]
theorem run_zeroValue {i : TypeInfo} {z : Value} (h : P.info? t = some i) (hz : i.zero = some z) : (zeroValue t).run P w = .ok z w := by
  simp [zeroValue, run_typeInfo h, hz]
end

def isAggD : TypeDesc → Bool
  | .struct _ | .array _ _ => true
  | _ => false

theorem run_isAgg {P : Program} {t : TypeId} {w : World} {d : TypeDesc} (h : P.underlying t = some d) : (isAgg t).run P w = .ok (isAggD d) w := by
  simp only [isAgg, Sem.run_bind, run_underlying h, Result.andThen_ok]
  cases d <;> rfl

/-- A type's place: how many cells, and whether it is an aggregate. -/
def lay (P : Program) (t : TypeId) : Option (Nat × Bool) :=
  match P.info? t, P.underlying t with
  | some i, some d => some (i.size, isAggD d)
  | _, _ => none

theorem lay_run {P : Program} {t : TypeId} {n : Nat} {b : Bool} (h : lay P t = some (n, b)) (w : World) :
    (isAgg t).run P w = .ok b w ∧ (sizeOf t).run P w = .ok n w := by
  unfold lay at h
  split at h
  · rename_i i d hi hd
    simp only [Option.some.injEq, Prod.mk.injEq] at h
    obtain ⟨rfl, rfl⟩ := h
    exact ⟨run_isAgg hd, run_sizeOf hi⟩
  · simp at h

/-- A part of an aggregate. -/
def partA (off sz : Nat) (agg : Bool) (cs : List AV) : Option AV :=
  match agg with
  | true => cond (Nat.ble (Nat.add off sz) cs.length) (some (.agg ((cs.drop off).take sz))) none
  | false => cs[off]?

theorem partA_sound {P : Program} {g : G} {t off sz : Nat} {agg : Bool} {cs : List AV} {C : Array Value} {v : AV} (hl : lay P t = some (sz, agg))
    (hc : VRels g cs C.toList) (h : partA off sz agg cs = some v) : ∃ V, VRel g v V ∧ ∀ w, (part t C off).run P w = .ok V w := by
  unfold partA at h
  cases agg with
  | true =>
    simp only [] at h
    cases hb : Nat.ble (Nat.add off sz) cs.length with
    | false => rw [hb] at h; simp at h
    | true =>
      rw [hb] at h
      simp only [cond_true, Option.some.injEq] at h
      subst h
      refine ⟨.agg (C.extract off (off + sz)), .agg ?_, fun w => ?_⟩
      · have := (hc.drop off).take sz
        rw [Array.toList_extract]
        simpa [List.extract] using this
      · simp only [part, Sem.run_bind, (lay_run hl w).1, (lay_run hl w).2, Result.andThen_ok, if_true]
        rfl
  | false =>
    simp only [] at h
    obtain ⟨X, hX, hr⟩ := hc.get off v h
    refine ⟨X, hr, fun w => ?_⟩
    have : C[off]? = some X := by rw [← Array.getElem?_toList]; exact hX
    simp only [part, Sem.run_bind, (lay_run hl w).1, Result.andThen_ok, Bool.false_eq_true, if_false, this]
    rfl

/-! ### Filling -/

/-- Cells put over cells. -/
def splice (off : Nat) (vs cs : List AV) : List AV := cs.take off ++ vs ++ cs.drop (Nat.add off vs.length)

theorem splice_foldl : ∀ (vs : List Value) (n off : Nat) (C : Array Value), off + n + vs.length ≤ C.size →
    ((vs.zipIdx n).foldl (fun cs (c, j) => cs.setIfInBounds (off + j) c) C).toList = C.toList.take (off + n) ++ vs ++ C.toList.drop (off + n + vs.length)
  | [], n, off, C, h => by simp
  | v :: vs, n, off, C, h => by
    simp only [List.length_cons] at h
    simp only [List.zipIdx_cons, List.foldl_cons]
    rw [splice_foldl vs (n + 1) off _ (by simp; omega)]
    simp only [Array.toList_setIfInBounds]
    have hlen : off + n < C.toList.length := by simp; omega
    have e1 : off + (n + 1) = (off + n) + 1 := by omega
    rw [e1, List.take_succ_eq_append_getElem (by simp; omega), List.take_set_of_le (Nat.le_refl _), List.getElem_set_self,
      List.drop_set_of_lt (by omega)]
    have e3 : off + n + 1 + vs.length = off + n + (vs.length + 1) := by omega
    rw [e3]
    simp only [List.length_cons, List.append_assoc, List.cons_append, List.nil_append]

def fillA : List (Nat × Nat) → List AV → List AV → Option (List AV)
  | [], [], cells => some cells
  | (off, size) :: ps, v :: vs, cells =>
    cond (Nat.beq v.cells.length size && Nat.ble (Nat.add off size) cells.length) (fillA ps vs (splice off v.cells cells)) none
  | _, _, _ => none

theorem fillA_sound {g : G} {place : Nat → Option (Nat × Nat)} : ∀ (is : List Nat) (ps : List (Nat × Nat)) (vs : List AV) (Vs : List Value) (cells : List AV) (C : Array Value) (r : List AV),
    is.map place = ps.map some → VRels g vs Vs → VRels g cells C.toList → fillA ps vs cells = some r →
    ∃ R, Go.Instr.fill place C (is.zip Vs) = some R ∧ VRels g r R.toList := by
  intro is
  induction is with
  | nil =>
    intro ps vs Vs cells C r hp hv hc h
    cases ps with
    | cons p ps => simp at hp
    | nil =>
      cases hv with
      | cons => simp [fillA] at h
      | nil =>
        simp only [fillA, Option.some.injEq] at h
        subst h
        exact ⟨C, rfl, hc⟩
  | cons i is ih =>
    intro ps vs Vs cells C r hp hv hc h
    cases ps with
    | nil => simp at hp
    | cons p ps =>
      obtain ⟨off, size⟩ := p
      simp only [List.map_cons, List.cons.injEq] at hp
      obtain ⟨hpi, hps⟩ := hp
      cases hv with
      | nil => simp [fillA] at h
      | @cons a v as vs' ha ht =>
        simp only [fillA] at h
        cases hb : (Nat.beq a.cells.length size && Nat.ble (Nat.add off size) cells.length) with
        | false => rw [hb] at h; simp at h
        | true =>
          rw [hb] at h
          simp only [cond_true] at h
          simp only [Bool.and_eq_true, Nat.beq_eq, Nat.ble_eq] at hb
          obtain ⟨hb1, hb2⟩ := hb
          have hb2' : off + size ≤ cells.length := hb2
          have hcl := hc.length
          have hvc := ha.cells
          have hvl := hvc.length
          rw [Array.length_toList] at hcl hvl
          have hs1 : ¬ (v.cells.size ≠ size ∨ off + v.cells.size > C.size) := by
            rw [hvl, hb1, hcl]; intro hh; rcases hh with hh | hh
            · exact hh rfl
            · omega
          simp only [List.zip_cons_cons, Go.Instr.fill, hpi]
          rw [if_neg (by simpa using hs1)]
          refine ih ps as vs' (splice off a.cells cells) _ r hps ht ?_ h
          have hz := splice_foldl v.cells.toList 0 off C (by rw [Array.length_toList, hvl, hcl, hb1]; omega)
          rw [← Array.foldl_toList]
          have e : (v.cells.zipIdx).toList = v.cells.toList.zipIdx 0 := by simp
          rw [e, hz]
          simp only [Nat.add_zero]
          unfold splice
          have e2 : Nat.add off a.cells.length = off + v.cells.toList.length := by rw [hvc.length]; rfl
          rw [e2]
          exact ((hc.take off).append hvc).append (hc.drop _)

end
end Go.Ax

/- Operations that only answer, continued: the kinds. No condition. -/
set_option linter.unusedVariables false
namespace Go.Ax
noncomputable section

inductive PK where
  | id
  | pick
  | int (op : BinOp)
  | str (op : BinOp)
  | boolEq (neg : Bool)
  | not
  | neg
  | conv (k : IntKind)
  | convStr
  | mkIface (t : Nat)
  | mkFunc (fn : Fn) (nf : Nat)
  | build (zero : List AV) (places : List (Nat × Nat))
  | field (off sz : Nat) (agg : Bool)
  | idxArr (len esz : Nat) (agg : Bool)
  | idxStr
  | fieldAddr (off : Nat)
  | idxAddrArr (len esz : Nat)
  | idxAddrSl (esz : Nat)
  | sliceStr (lo hi : Bool)
  | sliceSl (esz : Nat) (lo hi mx : Bool)
  | sliceArr (len esz : Nat) (lo hi mx : Bool)
  | nilCheck
  | extract (i : Nat)
  | lenStr
  | lenSl
  | lenConst (n : Nat)
  | capSl
  | min
  | max
  | typeAssert (t : Nat) (zero : AV) (ok : Bool)
  | indexByte
  | aggEq (neg : Bool)
  | compl
  deriving Inhabited

def optB : Bool → List AV → Option (Option Nat × List AV)
  | false, l => some (none, l)
  | true, .int _ (.ofNat a) :: l => some (some a, l)
  | true, _ => none

/-- Low, high, max of a slice expression over what has len and cap. -/
def boundsA (len cap : Nat) (lo hi mx : Bool) (l : List AV) : Option (Nat × Nat × Nat) :=
  match optB lo l with
  | none => none
  | some (a, l) => match optB hi l with
    | none => none
    | some (b, l) => match optB mx l with
      | some (c, []) =>
        match (match c with | none => some cap | some m => cond (Nat.ble m cap) (some m) none), (match b with | none => cond c.isNone (some len) none | some h => some h), (match a with | none => some 0 | some x => some x) with
        | some m, some h, some x => cond (Nat.ble h m && Nat.ble x h) (some (x, h, m)) none
        | _, _, _ => none
      | _ => none

def idxB (n v : Nat) (c : Nat) : Nat → Nat → Int
  | 0, _ => -1
  | f + 1, i => cond (Nat.beq (Nat.mod v 256) c) (Int.ofNat i) (idxB n (Nat.div v 256) c f (Nat.succ i))

def min2A (k : IntKind) (x : Int) : List AV → Option AV
  | [] => some (.int k x)
  | .int _ y :: r => min2A k (cond (ltB y x) y x) r
  | _ => none
def max2A (k : IntKind) (x : Int) : List AV → Option AV
  | [] => some (.int k x)
  | .int _ y :: r => max2A k (cond (ltB x y) y x) r
  | _ => none

def fnPlain : Fn → Bool
  | .func _ => true
  | _ => false

def eqCells : List AV → List AV → Option Bool
  | [], [] => some true
  | .int k a :: r, .int k' b :: s => cond (decide (k = k')) (match eqCells r s with | some x => some (eqB a b && x) | none => none) none
  | _, _ => none

def pId : List AV → Option AV
  | [x] => some x
  | _ => none
def pPick : List AV → Option AV
  | [.bool b, x, y] => some (cond b x y)
  | _ => none
def pInt (op : BinOp) : List AV → Option AV
  | [.int k a, .int k' b] => intBin op k a k' b
  | _ => none
def strBin (op : BinOp) (n v m u : Nat) : Option AV :=
  match op with
  | .add => cond (Nat.ble (Nat.add n m) 9223372036854775807) (some (.str (Nat.add n m) (Nat.add v (Nat.mul u (Nat.pow 256 n))))) none
  | .eql => some (.bool (Nat.beq n m && Nat.beq v u))
  | .neq => some (.bool (!(Nat.beq n m && Nat.beq v u)))
  | _ => none
def pStr (op : BinOp) : List AV → Option AV
  | [.str n v, .str m u] => strBin op n v m u
  | _ => none
def pBoolEq (neg : Bool) : List AV → Option AV
  | [.bool a, .bool b] => some (.bool (xor (a == b) neg))
  | _ => none
def pNot : List AV → Option AV
  | [.bool b] => some (.bool (!b))
  | _ => none
def pNeg : List AV → Option AV
  | [.int k n] => some (.int k (wrapF k (Int.sub 0 n)))
  | _ => none
def pConv (k : IntKind) : List AV → Option AV
  | [.int _ n] => some (.int k (wrapF k n))
  | _ => none
def pConvStr : List AV → Option AV
  | [.str n v] => some (.str n v)
  | _ => none
def pMkIface (t : Nat) : List AV → Option AV
  | [x] => some (.iface t x)
  | _ => none
def pMkFunc (fn : Fn) (nf : Nat) (l : List AV) : Option AV := some (.func fn (l.take nf) (l.drop nf))
def pBuild (zero : List AV) (places : List (Nat × Nat)) (l : List AV) : Option AV :=
  match fillA places l zero with
  | some cs => some (.agg cs)
  | none => none
def pField (off sz : Nat) (agg : Bool) : List AV → Option AV
  | [.agg cs] => partA off sz agg cs
  | _ => none
def pIdxArr (len esz : Nat) (agg : Bool) : List AV → Option AV
  | [.agg cs, .int _ (.ofNat i)] => cond (Nat.blt i len) (partA (Nat.mul i esz) esz agg cs) none
  | _ => none
def pIdxStr : List AV → Option AV
  | [.str n v, .int _ (.ofNat i)] => cond (Nat.blt i n) (some (.int .u8 (.ofNat (Nat.mod (Nat.div v (Nat.pow 256 i)) 256)))) none
  | _ => none
def pFieldAddr (off : Nat) : List AV → Option AV
  | [.ptr id o] => some (.ptr id (Nat.add o off))
  | _ => none
def pIdxAddrArr (len esz : Nat) : List AV → Option AV
  | [.ptr id o, .int _ (.ofNat i)] => cond (Nat.blt i len) (some (.ptr id (Nat.add o (Nat.mul i esz)))) none
  | _ => none
def pIdxAddrSl (esz : Nat) : List AV → Option AV
  | [.slice id o es len cap ex, .int _ (.ofNat i)] => cond (Nat.blt i len) (some (.ptr id (Nat.add o (Nat.mul i esz)))) none
  | _ => none
def pSliceStr (lo hi : Bool) : List AV → Option AV
  | .str n v :: l => match boundsA n n lo hi false l with
    | some (a, b, _) => some (.str (Nat.sub b a) (Nat.mod (Nat.div v (Nat.pow 256 a)) (Nat.pow 256 (Nat.sub b a))))
    | none => none
  | _ => none
def pSliceSl (esz : Nat) (lo hi mx : Bool) : List AV → Option AV
  | .slice id o es len cap ex :: l => match boundsA len cap lo hi mx l with
    | some (a, b, m) => cond (Nat.beq es esz) (some (.slice id (Nat.add o (Nat.mul a esz)) es (Nat.sub b a) (Nat.sub m a) (ex || mx))) none
    | none => none
  | .nils :: l => match boundsA 0 0 lo hi mx l with
    | some _ => some .nils
    | none => none
  | _ => none
def pSliceArr (n esz : Nat) (lo hi mx : Bool) : List AV → Option AV
  | .ptr id o :: l => match boundsA n n lo hi mx l with
    | some (a, b, m) => some (.slice id (Nat.add o (Nat.mul a esz)) esz (Nat.sub b a) (Nat.sub m a) true)
    | none => none
  | _ => none
def pNilCheck : List AV → Option AV
  | [.ptr id o] => some (.ptr id o)
  | [.iface t v] => some (.iface t v)
  | [.func fn f c] => cond (fnPlain fn) (some (.func fn f c)) none
  | _ => none
def pExtract (i : Nat) : List AV → Option AV
  | [.tuple l] => l[i]?
  | _ => none
def pLenStr : List AV → Option AV
  | [.str n _] => some (.int .i64 (.ofNat n))
  | _ => none
def pLenSl : List AV → Option AV
  | [.slice _ _ _ len _ _] => some (.int .i64 (.ofNat len))
  | [.nils] => some (.int .i64 (.ofNat 0))
  | _ => none
def pLenConst (n : Nat) : List AV → Option AV
  | [_] => some (.int .i64 (.ofNat n))
  | _ => none
def pCapSl : List AV → Option AV
  | [.slice _ _ _ _ cap true] => some (.int .i64 (.ofNat cap))
  | [.nils] => some (.int .i64 (.ofNat 0))
  | _ => none
def pMin : List AV → Option AV
  | .int k x :: l => min2A k x l
  | _ => none
def pMax : List AV → Option AV
  | .int k x :: l => max2A k x l
  | _ => none
def pTypeAssert (t : Nat) (zero : AV) (ok : Bool) : List AV → Option AV
  | [.iface u v] => cond (Nat.beq u t) (some (cond ok (.tuple [v, .bool true]) v)) (cond ok (some (.tuple [zero, .bool false])) none)
  | [.nili] => cond ok (some (.tuple [zero, .bool false])) none
  | _ => none
def pIndexByte : List AV → Option AV
  | [.str n v, .int .u8 (.ofNat c)] => cond (Nat.blt c 256) (some (.int .i64 (idxB n v c n 0))) none
  | _ => none
def pAggEq (neg : Bool) : List AV → Option AV
  | [.agg a, .agg b] => match eqCells a b with | some r => some (.bool (xor r neg)) | none => none
  | _ => none

def pCompl : List AV → Option AV
  | [.int k n] => ofSem (Go.Op.unary .xor (.int k n))
  | _ => none

def evalP : PK → List AV → Option AV
  | .id => pId
  | .pick => pPick
  | .int op => pInt op
  | .str op => pStr op
  | .boolEq neg => pBoolEq neg
  | .not => pNot
  | .neg => pNeg
  | .conv k => pConv k
  | .convStr => pConvStr
  | .mkIface t => pMkIface t
  | .mkFunc fn nf => pMkFunc fn nf
  | .build zero places => pBuild zero places
  | .field off sz agg => pField off sz agg
  | .idxArr len esz agg => pIdxArr len esz agg
  | .idxStr => pIdxStr
  | .fieldAddr off => pFieldAddr off
  | .idxAddrArr len esz => pIdxAddrArr len esz
  | .idxAddrSl esz => pIdxAddrSl esz
  | .sliceStr lo hi => pSliceStr lo hi
  | .sliceSl esz lo hi mx => pSliceSl esz lo hi mx
  | .sliceArr n esz lo hi mx => pSliceArr n esz lo hi mx
  | .nilCheck => pNilCheck
  | .extract i => pExtract i
  | .lenStr => pLenStr
  | .lenSl => pLenSl
  | .lenConst n => pLenConst n
  | .capSl => pCapSl
  | .min => pMin
  | .max => pMax
  | .typeAssert t zero ok => pTypeAssert t zero ok
  | .indexByte => pIndexByte
  | .aggEq neg => pAggEq neg
  | .compl => pCompl

/-! ### What a type is -/

def und (P : Program) (t : TypeId) : TypeDesc := (P.underlying t).getD .invalid

theorem und_run {P : Program} {t : TypeId} {d : TypeDesc} (h : und P t = d) (hd : d ≠ .invalid) (w : World) : (underlying t).run P w = .ok d w := by
  unfold und at h
  cases hu : P.underlying t with
  | none => rw [hu] at h; exact absurd h.symm hd
  | some x => rw [hu] at h; simp only [Option.getD_some] at h; subst h; exact run_underlying hu

def constInt : Operand → Bool
  | .const _ => true
  | _ => false

/-- The places of a struct's fields, or of an array's elements. -/
def placesOf (P : Program) (d : TypeDesc) (is : List Nat) : Option (List (Nat × Nat)) :=
  match d with
  | .struct fs => is.mapM fun i => match fs[i]? with
    | some f => match P.info? f.type with | some j => some (f.offset, j.size) | none => none
    | none => none
  | .array _ e => match P.info? e with
    | some j => some (is.map fun i => (i * j.size, j.size))
    | none => none
  | _ => none

/-- The constant zero of a type. -/
def zeroA (P : Program) (t : TypeId) : Option AV :=
  match P.info? t with
  | some i => match i.zero with | some z => AV.ofConst z | none => none
  | none => none

/-- Every field's type is known: so that a struct may be built. -/
def fieldsKnown (P : Program) (fs : Array Field) : Bool := fs.toList.all fun f => (P.info? f.type).isSome
def structKnown (P : Program) : TypeDesc → Bool
  | .struct fs => fieldsKnown P fs
  | _ => true

def compP (P : Program) (o : Oper) : Option (PK × List Operand) :=
  match o.op with
  | .move x | .assign x => some (.id, [x])
  | .pick c a b => some (.pick, [c, a, b])
  | .binOp op t x y yt => match und P t with
    | .int _ => some (.int op, [x, y])
    | .string => cond (op == .add || op == .eql || op == .neq) (some (.str op, [x, y])) none
    | .bool => cond (op == .eql) (some (.boolEq false, [x, y])) (cond (op == .neq) (some (.boolEq true, [x, y])) none)
    | _ => none
  | .unOp .not _ x => some (.not, [x])
  | .unOp .neg _ x => some (.neg, [x])
  | .unOp .xor _ x => some (.compl, [x])
  | .convert s d x => match und P s, und P d with
    | .int _, .int k => some (.conv k, [x])
    | .string, .string => some (.convStr, [x])
    | _, _ => none
  | .makeInterface t x => match und P t with
    | .interface _ => none
    | .invalid => none
    | _ => some (.mkIface t, [x])
  | .makeFunc fn first captured => some (.mkFunc fn first.size, first.toList ++ captured.toList)
  | .build t ps => match zeroA P t, placesOf P (und P t) (ps.toList.map (·.1)) with
    | some z, some pl => cond (structKnown P (und P t)) (some (.build z.cells pl, ps.toList.map (·.2))) none
    | _, _ => none
  | .field t x f => match und P t with
    | .struct fs => match fs[f]? with
      | some f => match lay P f.type with | some (n, b) => some (.field f.offset n b, [x]) | none => none
      | none => none
    | _ => none
  | .index t x i => match und P t with
    | .array n e => match lay P e with | some (s, b) => some (.idxArr n s b, [x, i]) | none => none
    | .string => some (.idxStr, [x, i])
    | _ => none
  | .fieldAddr t x f => match und P t with
    | .struct fs => match fs[f]? with
      | some f => match P.info? f.type with | some j => cond (Nat.beq j.size 0) none (some (.fieldAddr f.offset, [x])) | none => none
      | none => none
    | _ => none
  | .indexAddr t x i => match und P t with
    | .array n e => match P.info? e with | some j => some (.idxAddrArr n j.size, [x, i]) | none => none
    | .slice e => match P.info? e with | some j => some (.idxAddrSl j.size, [x, i]) | none => none
    | _ => none
  | .slice t x lo hi mx => match und P t with
    | .string => cond mx.isNone (some (.sliceStr lo.isSome hi.isSome, x :: (lo.toList ++ hi.toList))) none
    | .slice e => match P.info? e with | some j => some (.sliceSl j.size lo.isSome hi.isSome mx.isSome, x :: (lo.toList ++ hi.toList ++ mx.toList)) | none => none
    | .array n e => match P.info? e with | some j => some (.sliceArr n j.size lo.isSome hi.isSome mx.isSome, x :: (lo.toList ++ hi.toList ++ mx.toList)) | none => none
    | _ => none
  | .nilCheck x => some (.nilCheck, [x])
  | .extract x i => some (.extract i, [x])
  | .typeAssert x xt t ok => match und P t, zeroA P t with
    | .interface _, _ => none
    | .invalid, _ => none
    | _, some z => some (.typeAssert t z ok, [x])
    | _, _ => none
  | .call ⟨.builtin .len, args, ts⟩ => match args.toList, ts.toList with
    | [x], [t] => match und P t with
      | .string => some (.lenStr, [x])
      | .slice _ => some (.lenSl, [x])
      | .array n _ => some (.lenConst n, [x])
      | _ => none
    | _, _ => none
  | .call ⟨.builtin .cap, args, ts⟩ => match args.toList, ts.toList with
    | [x], [t] => match und P t with
      | .slice _ => some (.capSl, [x])
      | _ => none
    | _, _ => none
  | .call ⟨.builtin .min, args, ts⟩ => some (.min, args.toList)
  | .call ⟨.builtin .max, args, ts⟩ => some (.max, args.toList)
  | _ => none

end
end Go.Ax

/- Operations that only answer: the model's answer is the abstract one. No condition. -/
set_option linter.unusedVariables false
set_option linter.unusedSimpArgs false
namespace Go.Ax
noncomputable section

def Ans (P : Program) (g : G) (v : AV) (s : Sem Next) : Prop := ∃ V, VRel g v V ∧ ∀ w, s.run P w = .ok (.value V) w

theorem Ans.of {P : Program} {g : G} {v : AV} {s : Sem Value} (h : ∃ V, VRel g v V ∧ ∀ w, s.run P w = .ok V w) :
    Ans P g v (do pure (.value (← s))) := by
  obtain ⟨V, hr, hw⟩ := h
  exact ⟨V, hr, fun w => by simp [hw w]⟩

theorem Ans.pure {P : Program} {g : G} {v : AV} {V : Value} (h : VRel g v V) : Ans P g v (Pure.pure (Next.value V)) := ⟨V, h, fun _ => rfl⟩

section
variable {P : Program} {g : G} {ρ : Operand → Value}

theorem snd_id {x : Operand} {args : List AV} {v : AV} (hv : VRels g args [ρ x]) (he : pId args = some v) :
    Ans P g v (Pure.pure (Next.value (ρ x))) := by
  unfold pId at he
  split at he
  · simp only [Option.some.injEq] at he
    subst he
    cases hv with | cons h1 tl => exact .pure h1
  · simp at he

theorem snd_pick {c a b : Operand} {args : List AV} {v : AV} (hv : VRels g args [ρ c, ρ a, ρ b]) (he : pPick args = some v) :
    Ans P g v (do pure (.value (if ← asBool (ρ c) then ρ a else ρ b))) := by
  unfold pPick at he
  split at he
  · rename_i b0 x y
    simp only [Option.some.injEq] at he
    subst he
    cases hv with | cons h1 tl => cases tl with | cons h2 tl => cases tl with | cons h3 tl =>
    generalize ρ c = C at *
    cases h1
    cases b0
    · exact ⟨_, h3, fun w => by simp [asBool]⟩
    · exact ⟨_, h2, fun w => by simp [asBool]⟩
  · simp at he

theorem toList_inj {S T : ByteArray} (e : S.toList = T.toList) : S = T := by
  rw [ByteArray.toList_eq, ByteArray.toList_eq] at e
  cases S; cases T
  simp only [ByteArray.mk.injEq]
  exact Array.toList_inj.1 e

theorem snd_str {op : BinOp} {t : TypeId} {n v m u : Nat} {r : AV} {S T : ByteArray} (hs : SRel n v S) (ht : SRel m u T)
    (he : strBin op n v m u = some r) : ∃ V, VRel g r V ∧ ∀ w, (Go.binOp op t (.string S) (.string T)).run P w = .ok V w := by
  have eqlem : (S.toList == T.toList) = (Nat.beq n m && Nat.beq v u) := by
    rw [Bool.eq_iff_iff]
    simp only [beq_iff_eq, Bool.and_eq_true, Nat.beq_eq]
    rw [← SRel.ext hs ht]
    constructor
    · intro e
      exact toList_inj e
    · rintro rfl; rfl
  cases op <;> simp only [strBin] at he <;> try (simp at he; done)
  case add =>
    cases hb : Nat.ble (Nat.add n m) 9223372036854775807 with
    | false => rw [hb] at he; simp at he
    | true =>
      rw [hb] at he
      simp only [cond_true, Option.some.injEq] at he
      subst he
      have hle : n + m ≤ 9223372036854775807 := Nat.le_of_ble_eq_true hb
      refine ⟨.string (S ++ T), .str ⟨?_, ?_⟩, fun w => ?_⟩
      · have e1 : (S ++ T).data.toList = S.data.toList ++ T.data.toList := by simp [ByteArray.data_append]
        rw [e1, hs.eq, ht.eq, unp_append n m v u hs.lt]
        rfl
      · have h1 := hs.lt
        have h2 := ht.lt
        show v + u * 256 ^ n < 256 ^ (n + m)
        rw [Nat.pow_add]
        have h3 : (u + 1) * 256 ^ n ≤ 256 ^ m * 256 ^ n := Nat.mul_le_mul_right _ h2
        rw [Nat.add_mul, Nat.one_mul] at h3
        rw [Nat.mul_comm (256 ^ n)]
        omega
      · simp only [Go.binOp, Go.Op.stringOp]
        rw [if_neg]
        · rfl
        · rw [hs.size, ht.size]
          simp only [IntKind.max, IntKind.signed, IntKind.bits, if_true]
          omega
  case eql =>
    simp only [Option.some.injEq] at he
    subst he
    refine ⟨_, .bool _, fun w => ?_⟩
    simp only [Go.binOp, Go.Op.stringOp, eqlem]
    rfl
  case neq =>
    simp only [Option.some.injEq] at he
    subst he
    refine ⟨_, .bool _, fun w => ?_⟩
    simp only [Go.binOp, Go.Op.stringOp, eqlem]
    rfl

theorem guard_int {op : BinOp} {t : TypeId} {x y : Operand} {k k' : IntKind} {a b : Int} (w : World) :
    (eqGuard op t x y (.int k a) (.int k' b)).run P w = .ok () w := by
  unfold eqGuard
  cases op <;> rfl

theorem guard_str {op : BinOp} {t : TypeId} {x y : Operand} {a b : ByteArray} (w : World) :
    (eqGuard op t x y (.string a) (.string b)).run P w = .ok () w := by
  unfold eqGuard
  cases op <;> rfl

theorem guard_bool {op : BinOp} {t : TypeId} {x y : Operand} {a b : Bool} (w : World) :
    (eqGuard op t x y (.bool a) (.bool b)).run P w = .ok () w := by
  unfold eqGuard
  cases op <;> rfl

theorem snd_binOp_int {op : BinOp} {t : TypeId} {x y : Operand} {args : List AV} {v : AV} (hv : VRels g args [ρ x, ρ y]) (he : pInt op args = some v) :
    Ans P g v (do pure (.value (← (do eqGuard op t x y (ρ x) (ρ y); Go.binOp op t (ρ x) (ρ y))))) := by
  unfold pInt at he
  split at he
  · cases hv with | cons h1 tl => cases tl with | cons h2 tl =>
    generalize ρ x = X at *
    generalize ρ y = Y at *
    cases h1
    cases h2
    obtain ⟨V, hV, hr⟩ := intBin_sound t g he
    exact .of ⟨V, hr, fun w => by simp only [Sem.run_bind, guard_int, Result.andThen_ok, hV]; rfl⟩
  · simp at he

theorem snd_binOp_str {op : BinOp} {t : TypeId} {x y : Operand} {args : List AV} {v : AV} (hv : VRels g args [ρ x, ρ y]) (he : pStr op args = some v) :
    Ans P g v (do pure (.value (← (do eqGuard op t x y (ρ x) (ρ y); Go.binOp op t (ρ x) (ρ y))))) := by
  unfold pStr at he
  split at he
  · cases hv with | cons h1 tl => cases tl with | cons h2 tl =>
    generalize ρ x = X at *
    generalize ρ y = Y at *
    cases h1 with | str h1 =>
    cases h2 with | str h2 =>
    obtain ⟨V, hr, hV⟩ := snd_str (P := P) (g := g) (t := t) h1 h2 he
    exact .of ⟨V, hr, fun w => by simp only [Sem.run_bind, guard_str, Result.andThen_ok, hV]⟩
  · simp at he

theorem equalIn_bool {t : TypeId} (ht : und P t = .bool) (d : Nat) (a b : Bool) (w : World) : (Go.Op.equalIn (d + 1) t (.bool a) (.bool b)).run P w = .ok (a == b) w := by
  simp [Go.Op.equalIn, und_run ht (by simp) w]

theorem equal_bool {t : TypeId} (ht : und P t = .bool) (a b : Bool) (w : World) : (Go.Op.equal t (.bool a) (.bool b)).run P w = .ok (a == b) w :=
  equalIn_bool ht 9999 a b w

theorem eql_bool {t : TypeId} {a b : Bool} : Go.binOp .eql t (.bool a) (.bool b) = (do pure (.bool (← Op.equal t (.bool a) (.bool b)))) := rfl
theorem neq_bool {t : TypeId} {a b : Bool} : Go.binOp .neq t (.bool a) (.bool b) = (do pure (.bool (!(← Op.equal t (.bool a) (.bool b))))) := rfl

theorem snd_binOp_bool {neg : Bool} {t : TypeId} {x y : Operand} {args : List AV} {v : AV} (ht : und P t = .bool) (hv : VRels g args [ρ x, ρ y]) (he : pBoolEq neg args = some v) :
    Ans P g v (do pure (.value (← (do eqGuard (cond neg .neq .eql) t x y (ρ x) (ρ y); Go.binOp (cond neg .neq .eql) t (ρ x) (ρ y))))) := by
  unfold pBoolEq at he
  split at he
  · simp only [Option.some.injEq] at he
    subst he
    cases hv with | cons h1 tl => cases tl with | cons h2 tl =>
    generalize ρ x = X at *
    generalize ρ y = Y at *
    cases h1
    cases h2
    refine .of ⟨_, .bool _, fun w => ?_⟩
    simp only [Sem.run_bind, guard_bool, Result.andThen_ok]
    cases neg
    · simp only [cond_false, eql_bool, Sem.run_bind, equal_bool ht, Result.andThen_ok, Bool.xor_false]
      rfl
    · simp only [cond_true, neq_bool, Sem.run_bind, equal_bool ht, Result.andThen_ok, Bool.xor_true]
      rfl
  · simp at he

theorem snd_not {x : Operand} {args : List AV} {v : AV} (hv : VRels g args [ρ x]) (he : pNot args = some v) :
    Ans P g v (do pure (.value (← Go.Op.unary .not (ρ x)))) := by
  unfold pNot at he
  split at he
  · simp only [Option.some.injEq] at he
    subst he
    cases hv with | cons h1 tl =>
    generalize ρ x = X at *
    cases h1
    exact .of ⟨_, .bool _, fun w => rfl⟩
  · simp at he

theorem snd_neg {x : Operand} {args : List AV} {v : AV} (hv : VRels g args [ρ x]) (he : pNeg args = some v) :
    Ans P g v (do pure (.value (← Go.Op.unary .neg (ρ x)))) := by
  unfold pNeg at he
  split at he
  · simp only [Option.some.injEq] at he
    subst he
    cases hv with | cons h1 tl =>
    generalize ρ x = X at *
    cases h1
    refine .of ⟨_, .int _ _, fun w => ?_⟩
    rw [wrapF_eq]
    rfl
  · simp at he

theorem snd_compl {x : Operand} {args : List AV} {v : AV} (hv : VRels g args [ρ x]) (he : pCompl args = some v) :
    Ans P g v (do pure (.value (← Go.Op.unary .xor (ρ x)))) := by
  unfold pCompl at he
  split at he
  · cases hv with | cons h1 tl =>
    generalize ρ x = X at *
    cases h1
    obtain ⟨V, hV, hr⟩ := ofSem_sound he g
    exact .of ⟨V, hr, fun w => by rw [hV]; rfl⟩
  · simp at he

theorem snd_conv {s d : TypeId} {k k' : IntKind} {x : Operand} {args : List AV} {v : AV} (hs : und P s = .int k') (hd : und P d = .int k) (hv : VRels g args [ρ x]) (he : pConv k args = some v) :
    Ans P g v (do pure (.value (← Go.convert s d (ρ x)))) := by
  unfold pConv at he
  split at he
  · simp only [Option.some.injEq] at he
    subst he
    cases hv with | cons h1 tl =>
    generalize ρ x = X at *
    cases h1
    refine .of ⟨_, .int _ _, fun w => ?_⟩
    rw [wrapF_eq]
    simp [Go.convert, und_run hs (by simp) w, und_run hd (by simp) w, Go.Conv.intToInt]
  · simp at he

theorem snd_convStr {s d : TypeId} {x : Operand} {args : List AV} {v : AV} (hs : und P s = .string) (hd : und P d = .string) (hv : VRels g args [ρ x]) (he : pConvStr args = some v) :
    Ans P g v (do pure (.value (← Go.convert s d (ρ x)))) := by
  unfold pConvStr at he
  split at he
  · simp only [Option.some.injEq] at he
    subst he
    cases hv with | cons h1 tl =>
    generalize ρ x = X at *
    cases h1 with | str h1 =>
    refine .of ⟨_, .str h1, fun w => ?_⟩
    simp [Go.convert, und_run hs (by simp) w, und_run hd (by simp) w]
  · simp at he

theorem snd_mkIface {t : TypeId} {x : Operand} {args : List AV} {v : AV} (h1' : ∀ ms, und P t ≠ .interface ms) (h2' : und P t ≠ .invalid) (hv : VRels g args [ρ x]) (he : pMkIface t args = some v) :
    Ans P g v (do pure (.value (← Go.Instr.makeInterface t (ρ x)))) := by
  unfold pMkIface at he
  split at he
  · simp only [Option.some.injEq] at he
    subst he
    cases hv with | cons h1 tl =>
    refine .of ⟨_, .iface h1, fun w => ?_⟩
    simp only [Go.Instr.makeInterface, Sem.run_bind, und_run rfl h2' w, Result.andThen_ok]
    rfl
  · simp at he

theorem snd_mkFunc {fn : Fn} {first captured : Array Operand} {args : List AV} {v : AV} (hv : VRels g args ((first.toList ++ captured.toList).map ρ)) (he : pMkFunc fn first.size args = some v) :
    Ans P g v (do pure (.value (← Go.Instr.makeFunc fn (first.map ρ) (captured.map ρ)))) := by
  simp only [pMkFunc, Option.some.injEq] at he
  subst he
  refine .of ⟨_, .func ?_ ?_, fun w => rfl⟩
  · have := hv.take first.size
    rw [← List.map_take] at this
    simpa using this
  · have := hv.drop first.size
    rw [← List.map_drop] at this
    simpa using this

end
end
end Go.Ax

/- Operations that only answer: aggregates, addresses, slices. No condition. -/
set_option linter.unusedVariables false
set_option linter.unusedSimpArgs false
namespace Go.Ax
noncomputable section
section
variable {P : Program} {g : G} {ρ : Operand → Value}

theorem Addr.add_none (B o n : Nat) : (⟨B, o, none⟩ : Addr).add n = ⟨B, o + n, none⟩ := by
  unfold Addr.add
  split
  · rename_i h; subst h; rfl
  · rfl

theorem mapM_places {w : World} (hs : ∀ t i, P.info? t = some i → (sizeOf t).run P w = .ok i.size w) :
    ∀ (fs : List Field) (js : List TypeInfo), fs.map (fun f => P.info? f.type) = js.map some →
    (fs.mapM (fun f => (do Pure.pure (f.offset, ← sizeOf f.type) : Sem (Nat × Nat)))).run P w = .ok ((fs.zip js).map fun (f, j) => (f.offset, j.size)) w := by
  intro fs
  induction fs with
  | nil => intro js h; cases js with | nil => rfl | cons => simp at h
  | cons f fs ih =>
    intro js h
    cases js with
    | nil => simp at h
    | cons j js =>
      simp only [List.map_cons, List.cons.injEq] at h
      simp only [List.mapM_cons, Sem.run_bind, hs _ _ h.1, Result.andThen_ok, ih js h.2, Sem.run_pure, List.zip_cons_cons, List.map_cons]

theorem all_known : ∀ (fs : List Field), (fs.all fun f => (P.info? f.type).isSome) = true → ∃ js : List TypeInfo, fs.map (fun f => P.info? f.type) = js.map some
  | [], _ => ⟨[], rfl⟩
  | f :: fs, h => by
    simp only [List.all_cons, Bool.and_eq_true] at h
    obtain ⟨js, hj⟩ := all_known fs h.2
    obtain ⟨j, hj'⟩ := Option.isSome_iff_exists.1 h.1
    exact ⟨j :: js, by simp [hj, hj']⟩

theorem mapM_eq_some {α β : Type} {f : α → Option β} : ∀ (l : List α) (r : List β), l.mapM f = some r → l.map f = r.map some
  | [], r, h => by simp at h; subst h; rfl
  | a :: l, r, h => by
    simp only [List.mapM_cons] at h
    cases ha : f a with
    | none => rw [ha] at h; simp at h
    | some b =>
      rw [ha] at h
      cases hl : l.mapM f with
      | none => rw [hl] at h; simp at h
      | some s =>
        rw [hl] at h
        simp at h
        subst h
        simp [ha, mapM_eq_some l s hl]

theorem zeroA_run {t : TypeId} {z : AV} (h : zeroA P t = some z) (g : G) : ∃ Z, VRel g z Z ∧ ∀ w, (zeroValue t).run P w = .ok Z w := by
  unfold zeroA at h
  split at h
  · rename_i i hi
    split at h
    · rename_i Z hz
      exact ⟨Z, VRel.ofConst g Z z h, fun w => run_zeroValue hi hz⟩
    · simp at h
  · simp at h

theorem snd_build {t : TypeId} {ps : Array (Nat × Operand)} {z : AV} {pl : List (Nat × Nat)} {args : List AV} {v : AV} (hz : zeroA P t = some z)
    (hp : placesOf P (und P t) (ps.toList.map (·.1)) = some pl) (hk : ∀ fs, und P t = .struct fs → fieldsKnown P fs = true)
    (hv : VRels g args ((ps.toList.map (·.2)).map ρ)) (he : pBuild z.cells pl args = some v) :
    Ans P g v (do pure (.value (← Go.Instr.build t (ps.map fun (i, x) => (i, ρ x))))) := by
  simp only [pBuild] at he
  cases hf : fillA pl args z.cells with
  | none => rw [hf] at he; simp at he
  | some cs =>
    rw [hf] at he
    simp only [Option.some.injEq] at he
    subst he
    obtain ⟨Z, hZ, hZw⟩ := zeroA_run hz g
    have hZc := hZ.cells
    have elist : (ps.map fun (i, x) => (i, ρ x)).toList = (ps.toList.map (·.1)).zip ((ps.toList.map (·.2)).map ρ) := by
      rw [Array.toList_map]
      generalize ps.toList = l
      induction l with
      | nil => rfl
      | cons a l ih => simp [ih]
    cases hu : und P t with
    | struct fs =>
      rw [hu] at hp
      simp only [placesOf] at hp
      have hpl := mapM_eq_some _ _ hp
      obtain ⟨js, hj⟩ := all_known (P := P) fs.toList (hk fs hu)
      have hpl' : (ps.toList.map (·.1)).map (fun i => (((fs.toList.zip js).map fun (f, j) => (f.offset, j.size)).toArray)[i]?) = pl.map some := by
        rw [← hpl]
        refine List.map_congr_left fun i _ => ?_
        have hjl : js.length = fs.toList.length := by have := congrArg List.length hj; simpa using this.symm
        simp only [List.getElem?_toArray, List.getElem?_map]
        cases hfi : fs[i]? with
        | none =>
          have : fs.toList[i]? = none := by rw [Array.getElem?_toList]; exact hfi
          have hlen : fs.toList.length ≤ i := by simpa using this
          rw [List.getElem?_eq_none (by rw [List.length_zip]; omega)]
          rfl
        | some f =>
          have h1 : fs.toList[i]? = some f := by rw [Array.getElem?_toList]; exact hfi
          have hlt : i < fs.toList.length := by
            rcases Nat.lt_or_ge i fs.toList.length with h | h
            · exact h
            · rw [List.getElem?_eq_none h] at h1; simp at h1
          have h2 : (fs.toList.map fun f => P.info? f.type)[i]? = (js.map some)[i]? := by rw [hj]
          rw [List.getElem?_map, List.getElem?_map, h1] at h2
          have h3 : js[i]? = some (js[i]'(by omega)) := List.getElem?_eq_getElem _
          rw [h3] at h2
          simp only [Option.map_some, Option.some.injEq] at h2
          rw [(List.getElem?_zip_eq_some (z := (f, js[i]'(by omega)))).2 ⟨h1, h3⟩]
          simp only [Option.map_some, h2]
      obtain ⟨R, hR, hRr⟩ := fillA_sound (g := g) (ps.toList.map (·.1)) pl args ((ps.toList.map (·.2)).map ρ) z.cells Z.cells cs hpl' hv hZc hf
      refine .of ⟨.agg R, .agg hRr, fun w => ?_⟩
      have hm := mapM_places (P := P) (w := w) (fun t i h => run_sizeOf h) fs.toList js hj
      have hm2 : (fs.mapM (fun f => (do Pure.pure (f.offset, ← sizeOf f.type) : Sem (Nat × Nat)))).run P w = .ok (((fs.toList.zip js).map fun (f, j) => (f.offset, j.size)).toArray) w := by
        rw [← Array.toArray_toList (xs := fs), List.mapM_toArray]
        simp only [Sem.run_map, hm, Result.andThen_ok]
      rw [← elist] at hR
      simp only [Go.Instr.build, Sem.run_bind, hZw, Result.andThen_ok, und_run hu (by simp) w]
      simp only [Sem.run_bind, hm2, Result.andThen_ok, hR]
      rfl
    | array n e =>
      rw [hu] at hp
      simp only [placesOf] at hp
      cases hi : P.info? e with
      | none => rw [hi] at hp; simp at hp
      | some j =>
        rw [hi] at hp
        simp only [Option.some.injEq] at hp
        have hpl' : (ps.toList.map (·.1)).map (fun i => some (i * j.size, j.size)) = pl.map some := by
          rw [← hp, List.map_map, List.map_map, List.map_map]; rfl
        obtain ⟨R, hR, hRr⟩ := fillA_sound (g := g) (ps.toList.map (·.1)) pl args ((ps.toList.map (·.2)).map ρ) z.cells Z.cells cs hpl' hv hZc hf
        refine .of ⟨.agg R, .agg hRr, fun w => ?_⟩
        rw [← elist] at hR
        simp only [Go.Instr.build, Sem.run_bind, hZw, Result.andThen_ok, und_run hu (by simp) w, run_sizeOf hi, hR]
        rfl
    | _ => rw [hu] at hp; simp [placesOf] at hp

theorem snd_field {t : TypeId} {fs : Array Field} {f : Field} {i n : Nat} {b : Bool} {x : Operand} {args : List AV} {v : AV} (ht : und P t = .struct fs) (hf : fs[i]? = some f)
    (hl : lay P f.type = some (n, b)) (hv : VRels g args [ρ x]) (he : pField f.offset n b args = some v) :
    Ans P g v (do pure (.value (← Go.Instr.field t (ρ x) i))) := by
  unfold pField at he
  split at he
  · cases hv with | cons h1 tl =>
    generalize ρ x = X at *
    cases h1 with | agg h1 =>
    obtain ⟨V, hr, hw⟩ := partA_sound hl h1 he
    refine .of ⟨V, hr, fun w => ?_⟩
    simp only [Go.Instr.field, Sem.run_bind, und_run ht (by simp) w, Result.andThen_ok, hf, asAgg]
    exact hw w
  · simp at he

theorem snd_idxArr {t e : TypeId} {len s : Nat} {b : Bool} {x i : Operand} {args : List AV} {v : AV} (ht : und P t = .array len e)
    (hl : lay P e = some (s, b)) (hv : VRels g args [ρ x, ρ i]) (he : pIdxArr len s b args = some v) :
    Ans P g v (do pure (.value (← Go.Instr.index t (ρ x) (ρ i)))) := by
  unfold pIdxArr at he
  split at he
  · rename_i k m
    cases hv with | cons h1 tl => cases tl with | cons h2 tl =>
    generalize ρ x = X at *
    generalize ρ i = I at *
    cases h1 with | agg h1 =>
    cases h2
    cases hb : Nat.blt m len with
    | false => rw [hb] at he; simp at he
    | true =>
      rw [hb] at he
      simp only [cond_true] at he
      have hlt : m < len := by simpa using hb
      obtain ⟨V, hr, hw⟩ := partA_sound hl h1 he
      refine .of ⟨V, hr, fun w => ?_⟩
      simp only [Go.Instr.index, Sem.run_bind, asIntOf, Sem.run_pure, und_run ht (by simp) w, Result.andThen_ok, (lay_run hl w).2]
      rw [if_pos ⟨Int.natCast_nonneg m, by exact Int.ofNat_lt.2 hlt⟩]
      simp only [Sem.run_bind, (lay_run hl w).2, Result.andThen_ok]
      exact hw w
  · simp at he

theorem snd_idxStr {t : TypeId} {x i : Operand} {args : List AV} {v : AV} (ht : und P t = .string)
    (hv : VRels g args [ρ x, ρ i]) (he : pIdxStr args = some v) :
    Ans P g v (do pure (.value (← Go.Instr.index t (ρ x) (ρ i)))) := by
  unfold pIdxStr at he
  split at he
  · rename_i n u k m
    cases hv with | cons h1 tl => cases tl with | cons h2 tl =>
    generalize ρ x = X at *
    generalize ρ i = I at *
    cases h1 with | str h1 =>
    rename_i S
    cases h2
    cases hb : Nat.blt m n with
    | false => rw [hb] at he; simp at he
    | true =>
      rw [hb] at he
      simp only [cond_true, Option.some.injEq] at he
      subst he
      have hlt : m < n := by simpa using hb
      refine .of ⟨_, .int _ _, fun w => ?_⟩
      have hg := h1.getElem? hlt
      have hg' : S[m]? = some (UInt8.ofNat (u / 256 ^ m % 256)) := by
        have hsz : m < S.size := by rw [h1.size]; exact hlt
        rw [getElem?_pos S m hsz]
        rw [List.getElem?_eq_some_iff] at hg
        obtain ⟨h', hg⟩ := hg
        rw [← hg]
        rfl
      simp only [Go.Instr.index, Sem.run_bind, asIntOf, Sem.run_pure, und_run ht (by simp) w, Result.andThen_ok]
      have e0 : (if (0 : Int) ≤ Int.ofNat m then S[(Int.ofNat m).toNat]? else none) = some (UInt8.ofNat (u / 256 ^ m % 256)) := by
        rw [if_pos (show (0 : Int) ≤ Int.ofNat m from Int.natCast_nonneg m)]
        exact hg'
      rw [e0]
      simp only [Sem.run_pure]
      congr 2
      have : (UInt8.ofNat (u / 256 ^ m % 256)).toNat = u / 256 ^ m % 256 := by
        rw [UInt8.toNat_ofNat']
        omega
      rw [this]
      rfl
  · simp at he

theorem fieldPlace_run {j : TypeInfo} {f : Field} (hj : P.info? f.type = some j) (h0 : j.size ≠ 0) (B o : Nat) (w : World) :
    (fieldPlace ⟨B, o, none⟩ f).run P w = .ok ⟨B, o + f.offset, none⟩ w := by
  simp only [fieldPlace, Sem.run_bind, run_sizeOf hj, Result.andThen_ok]
  rw [if_neg h0, Addr.add_none]
  rfl

theorem snd_fieldAddr {t : TypeId} {fs : Array Field} {f : Field} {i : Nat} {j : TypeInfo} {x : Operand} {args : List AV} {v : AV} (ht : und P t = .struct fs) (hf : fs[i]? = some f)
    (hj : P.info? f.type = some j) (h0 : j.size ≠ 0) (hv : VRels g args [ρ x]) (he : pFieldAddr f.offset args = some v) :
    Ans P g v (do pure (.value (← Go.Instr.fieldAt t (ρ x) i))) := by
  unfold pFieldAddr at he
  split at he
  · cases hv with | cons h1 tl =>
    generalize ρ x = X at *
    cases h1 with | ptr h1 =>
    simp only [Option.some.injEq] at he
    subst he
    refine .of ⟨_, .ptr h1, fun w => ?_⟩
    simp only [Go.Instr.fieldAt, Sem.run_bind, und_run ht (by simp) w, Result.andThen_ok, hf, Go.Instr.sureAddr, Sem.run_pure, fieldPlace_run hj h0]
    simp only [Nat.add_assoc]
    rfl
  · simp at he

theorem snd_idxAddrArr {t e : TypeId} {len : Nat} {j : TypeInfo} {x i : Operand} {args : List AV} {v : AV} (ht : und P t = .array len e) (hj : P.info? e = some j)
    (hv : VRels g args [ρ x, ρ i]) (he : pIdxAddrArr len j.size args = some v) :
    Ans P g v (do pure (.value (← Go.Instr.indexAt t (ρ x) (ρ i)))) := by
  unfold pIdxAddrArr at he
  split at he
  · rename_i id o k m
    cases hv with | cons h1 tl => cases tl with | cons h2 tl =>
    generalize ρ x = X at *
    generalize ρ i = I at *
    cases h1 with | ptr h1 =>
    cases h2
    cases hb : Nat.blt m len with
    | false => rw [hb] at he; simp at he
    | true =>
      rw [hb] at he
      simp only [cond_true, Option.some.injEq] at he
      subst he
      have hlt : m < len := by simpa using hb
      refine .of ⟨_, .ptr h1, fun w => ?_⟩
      simp only [Go.Instr.indexAt, Sem.run_bind, asIntOf, Sem.run_pure, und_run ht (by simp) w, Result.andThen_ok, Go.Instr.sureAddr]
      rw [if_pos ⟨Int.natCast_nonneg m, by exact Int.ofNat_lt.2 hlt⟩]
      simp only [Sem.run_bind, run_sizeOf hj, Result.andThen_ok, Addr.add_none, Sem.run_pure]
      simp only [Nat.add_assoc]
      rfl
  · simp at he

theorem snd_idxAddrSl {t e : TypeId} {j : TypeInfo} {x i : Operand} {args : List AV} {v : AV} (ht : und P t = .slice e) (hj : P.info? e = some j)
    (hv : VRels g args [ρ x, ρ i]) (he : pIdxAddrSl j.size args = some v) :
    Ans P g v (do pure (.value (← Go.Instr.indexAt t (ρ x) (ρ i)))) := by
  unfold pIdxAddrSl at he
  split at he
  · rename_i id o es len cap ex k m
    cases hv with | cons h1 tl => cases tl with | cons h2 tl =>
    generalize ρ x = X at *
    generalize ρ i = I at *
    cases h1 with | slice hl hc hx ha =>
    rename_i A C
    cases h2
    cases hb : Nat.blt m len with
    | false => rw [hb] at he; simp at he
    | true =>
      rw [hb] at he
      simp only [cond_true, Option.some.injEq] at he
      subst he
      have hlt : m < len := by simpa using hb
      rcases ha with ha | ⟨B, O, S, hg, rfl, _⟩
      · omega
      refine .of ⟨_, .ptr hg, fun w => ?_⟩
      simp only [Go.Instr.indexAt, Sem.run_bind, asIntOf, Sem.run_pure, und_run ht (by simp) w, Result.andThen_ok]
      rw [if_pos ⟨Int.natCast_nonneg m, by exact Int.ofNat_lt.2 hlt⟩]
      simp only [Sem.run_bind, run_sizeOf hj, Result.andThen_ok, Addr.add_none, Sem.run_pure]
      simp only [Nat.add_assoc]
      rfl
  · simp at he

end
end
end Go.Ax


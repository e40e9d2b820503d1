/- The abstract executor: compiled code, its run; compiling. No condition. -/
import Derived.Test.YthbfgbfgkkhoiaaGreatDoorAx3
set_option linter.unusedVariables false
set_option linter.unusedSimpArgs false
namespace Go.Ax
noncomputable section

inductive COpd where
  | tmp (k : K)
  | const (v : AV)
  | glob (id : K)
  | func (f : Nat)
  deriving Inhabited

inductive CK where
  | p (k : PK)
  | r (k : RK)
  | a (k : AK)
  | w (k : WK)
  | call (f : K)
  | callv
  | bad
  deriving Inhabited

structure COp where
  dst : Option K
  kind : CK
  args : List COpd
  guard : Option (K × Bool)
  deriving Inhabited

/-- An operation of a region that draws: its number, those ahead of it (as digits). -/
structure Ent where
  idx : Nat
  op : COp
  mask : Nat
  deriving Inhabited

inductive CCode where
  | skip
  | reg (ops : List COp)
  | draw (ents : List Ent)
  | seq (a b : CCode)
  | cond (c : COpd) (a b : CCode)
  | block (id : Nat) (b : CCode)
  | loop (b : CCode)
  | exit (id : Nat)
  | ret
  | bad
  deriving Inhabited

inductive CRes where
  | tmp (k : K)
  | cell1 (k : K)
  | cellN (k : K) (n : Nat)
  deriving Inhabited

structure AFn where
  code : CCode
  res : List CRes
  deriving Inhabited

inductive Ex where
  | nrm
  | ret
  | exit (id : Nat)
  deriving Inhabited

abbrev Env := Tr AV

def ev (env : Env) : COpd → AV
  | .tmp k => match env.get k with | some v => v | none => .tuple []
  | .const v => v
  | .glob id => .ptr id 0
  | .func f => .func (.func f) [] []

def evs (env : Env) : List COpd → List AV
  | [] => []
  | x :: r => ev env x :: evs env r

def putD (d : Option K) (v : AV) (env : Env) : Env :=
  match d with
  | some k => env.set k v
  | none => env

def gOk (env : Env) : Option (K × Bool) → Bool
  | none => true
  | some (k, b) => match ev env (.tmp k) with
    | .bool c => c == b
    | _ => false

def ofVals : List AV → AV
  | [v] => v
  | l => .tuple l

def evalRes (env : Env) (H : AH) : List CRes → Option (List AV)
  | [] => some []
  | x :: r => match (match x with
      | .tmp k => some (ev env (.tmp k))
      | .cell1 k => match ev env (.tmp k) with | .ptr id o => H.load1 id o | _ => none
      | .cellN k n => match ev env (.tmp k) with | .ptr id o => (match H.loadN id o n with | some l => some (.agg l) | none => none) | _ => none), evalRes env H r with
    | some v, some l => some (v :: l)
    | _, _ => none

/-- What a call comes to. -/
abbrev CallF := K → List AV → AH → Option (AV × AH)

def stepK (cf : CallF) (k : CK) (args : List AV) (H : AH) : Option (AV × AH) :=
  match k with
  | .p k => match evalP k args with | some v => some (v, H) | none => none
  | .r k => match evalR H k args with | some v => some (v, H) | none => none
  | .a k => match evalA H.nx k args with | some (blk, v) => some (v, H.put H.nx blk H.nx.succ) | none => none
  | .w k => evalW H k args
  | .call f => cf f args H
  | .callv => match args with
    | .func (.func f) first cap :: rest => cf (K.of f) (first ++ rest ++ cap) H
    | _ => none
  | .bad => none

def stepOp (cf : CallF) (c : COp) (env : Env) (H : AH) : Option (Env × AH) :=
  match gOk env c.guard with
  | true => match stepK cf c.kind (evs env c.args) H with
    | some (v, H') => some (putD c.dst v env, H')
    | none => none
  | false => some (putD c.dst (.tuple []) env, H)

def runOps (cf : CallF) : List COp → Env → AH → Option (Env × AH)
  | [], e, h => some (e, h)
  | c :: r, e, h => match stepOp cf c e h with
    | some (e', h') => runOps cf r e' h'
    | none => none

/-! ### A region that draws: in one order, and what was read looked at again behind each write -/

def CK.isR : CK → Bool | .r _ => true | _ => false
def CK.isA : CK → Bool | .a _ => true | _ => false
def CK.isW : CK → Bool | .w _ => true | .call _ => true | .callv => true | _ => false

mutual
def AV.beq : AV → AV → Bool
  | .bool a, .bool b => a == b
  | .int k n, .int k' m => decide (k = k') && eqB n m
  | .str n v, .str m u => Nat.beq n m && Nat.beq v u
  | .ptr a o, .ptr b p => K.beq a b && Nat.beq o p
  | .nilp, .nilp => true
  | .slice a o e l c x, .slice a' o' e' l' c' x' => K.beq a a' && Nat.beq o o' && Nat.beq e e' && Nat.beq l l' && Nat.beq c c' && (x == x')
  | .nils, .nils => true
  | .map a, .map b => K.beq a b
  | .nilm, .nilm => true
  | .nilf, .nilf => true
  | .iface t v, .iface u w => Nat.beq t u && AV.beq v w
  | .nili, .nili => true
  | .agg a, .agg b => AV.beqs a b
  | .tuple a, .tuple b => AV.beqs a b
  | _, _ => false
def AV.beqs : List AV → List AV → Bool
  | [], [] => true
  | a :: r, b :: s => AV.beq a b && AV.beqs r s
  | _, _ => false
end

structure Rd where
  idx : Nat
  k : RK
  args : List AV
  v : AV

def recheck (H : AH) (mask : Nat) : List Rd → Bool
  | [] => true
  | r :: l => (Nat.testBit mask r.idx || (match evalR H r.k r.args with | some v => AV.beq v r.v | none => false)) && recheck H mask l

/-- ids in reserve -/
def reserve : List Ent → K → K
  | [], k => k
  | e :: r, k => match e.op.kind with | .a _ => reserve r k.succ | _ => reserve r k

/-- The ids still in reserve are nobody's. -/
def deadFor (H : AH) : List Ent → K → Bool
  | [], _ => true
  | e :: r, k => match e.op.kind with | .a _ => !(H.get k).live && deadFor H r k.succ | _ => deadFor H r k

/-- One operation of a region that draws: the environment, the heap, the next id in reserve, what was read. -/
def stepD (cf : CallF) (e : Ent) (rest : List Ent) (env : Env) (H : AH) (id : K) (rds : List Rd) : Option (Env × AH × K × List Rd) :=
  match gOk env e.op.guard with
  | false => some (putD e.op.dst (.tuple []) env, H, (cond e.op.kind.isA id.succ id), rds)
  | true =>
    match e.op.kind with
    | .p k => match evalP k (evs env e.op.args) with
      | some v => some (putD e.op.dst v env, H, id, rds)
      | none => none
    | .r k => match evalR H k (evs env e.op.args) with
      | some v => some (putD e.op.dst v env, H, id, ⟨e.idx, k, evs env e.op.args, v⟩ :: rds)
      | none => none
    | .a k => match evalA id k (evs env e.op.args) with
      | some (blk, v) => some (putD e.op.dst v env, H.put id blk H.nx, id.succ, rds)
      | none => none
    | k => match stepK cf k (evs env e.op.args) H with
      | some (v, H') => cond (recheck H' e.mask rds && deadFor H' rest id) (some (putD e.op.dst v env, H', id, rds)) none
      | none => none

def runDraw (cf : CallF) : List Ent → Env → AH → K → List Rd → Option (Env × AH)
  | [], env, H, _, _ => some (env, H)
  | e :: r, env, H, id, rds => match stepD cf e r env H id rds with
    | some (env', H', id', rds') => runDraw cf r env' H' id' rds'
    | none => none

/-! ### The run -/

def callAt (rn : CCode → Env → AH → Option (Ex × Env × AH)) (tab : Tr AFn) : CallF := fun f args H =>
  match tab.get f with
  | none => none
  | some fn => match rn fn.code (Tr.setFrom 0 args .lf) H with
    | some (.exit _, _, _) => none
    | some (_, env, H') => match evalRes env H' fn.res with
      | some l => some (ofVals l, H')
      | none => none
    | none => none

abbrev R := Option (Ex × Env × AH)

def rOps : Option (Env × AH) → R
  | some (e, h) => some (.nrm, e, h)
  | none => none
def rThen (f : Env → AH → R) : R → R
  | some (.nrm, e, h) => f e h
  | some (.ret, e, h) => some (.ret, e, h)
  | some (.exit i, e, h) => some (.exit i, e, h)
  | none => none
def rCond (v : AV) (a b : R) : R :=
  match v with
  | .bool true => a
  | .bool false => b
  | _ => none
def rBlock (id : Nat) : R → R
  | some (.exit j, e, h) => cond (Nat.beq j id) (some (.nrm, e, h)) (some (.exit j, e, h))
  | some (.nrm, e, h) => some (.nrm, e, h)
  | some (.ret, e, h) => some (.ret, e, h)
  | none => none

def runBody (rn : CCode → Env → AH → R) (tab : Tr AFn) : CCode → Env → AH → R
  | .skip, env, H => some (.nrm, env, H)
  | .reg ops, env, H => rOps (runOps (callAt rn tab) ops env H)
  | .draw ents, env, H => rOps (runDraw (callAt rn tab) ents env ⟨H.h, reserve ents H.nx⟩ H.nx [])
  | .seq a b, env, H => rThen (rn b) (rn a env H)
  | .cond x a b, env, H => rCond (ev env x) (rn a env H) (rn b env H)
  | .block id b, env, H => rBlock id (rn b env H)
  | .loop b, env, H => rThen (rn (.loop b)) (rn b env H)
  | .exit id, env, H => some (.exit id, env, H)
  | .ret, env, H => some (.ret, env, H)
  | .bad, _, _ => none

def run (tab : Tr AFn) : Nat → CCode → Env → AH → R
  | 0 => fun _ _ _ => none
  | n + 1 => runBody (run tab n) tab

def call (tab : Tr AFn) (n : Nat) : CallF := callAt (run tab n) tab

/-! ### Compiling -/

structure Ctx where
  P : Program
  globs : List Nat
  pts : List Nat

def compOpd (globs : List Nat) : Operand → Option COpd
  | .tmp t => some (.tmp (K.of t))
  | .const v => match AV.ofConst v with | some a => some (.const a) | none => none
  | .global g => cond (memN g globs) (some (.glob (K.of g))) none
  | .func f => some (.func f)

def compOpds (globs : List Nat) : List Operand → Option (List COpd)
  | [] => some []
  | x :: r => match compOpd globs x, compOpds globs r with
    | some a, some l => some (a :: l)
    | _, _ => none

def compCall (P : Program) (o : Oper) : Option (CK × List Operand) :=
  match o.op with
  | .call ⟨.value (.func f), args, _⟩ => match P.funcs[f]? with
    | some fn => match fn.body with
      | some _ => cond (fn.name == "runtime.NumGoroutine") none (some (.call (K.of f), args.toList))
      | none => cond (fn.name == "internal/bytealg.IndexByteString" && (fn.origin == "" || fn.origin == "internal/bytealg.IndexByteString")) (some (.p .indexByte, args.toList)) none
    | none => none
  | .call ⟨.value x, args, _⟩ => some (.callv, x :: args.toList)
  | _ => none

def compKind (C : Ctx) (o : Oper) : CK × List Operand :=
  match compP C.P o with
  | some (k, xs) => (.p k, xs)
  | none => match compR C.P C.pts o with
    | some (k, xs) => (.r k, xs)
    | none => match compA C.P o with
      | some (k, xs) => (.a k, xs)
      | none => match compW C.P o with
        | some (k, xs) => (.w k, xs)
        | none => match compCall C.P o with
          | some r => r
          | none => (.bad, [])

def compGuard (nt : Nat) (ops : Array Oper) : Option (Nat × Bool) → Option (Option (K × Bool))
  | none => some none
  | some (j, b) => match ops[j]? with
    | some o => match o.dst with | some d => cond (Nat.blt d nt) (some (some (K.of d, b))) none | none => none
    | none => none

def dstOk (nt : Nat) : Option Nat → Bool
  | some d => Nat.blt d nt
  | none => true

def compOp (C : Ctx) (nt : Nat) (ops : Array Oper) (o : Oper) : COp :=
  match compGuard nt ops o.guard, dstOk nt o.dst with
  | some g, true => match compOpds C.globs (compKind C o).2 with
    | some as => ⟨o.dst.map K.of, (compKind C o).1, as, g⟩
    | none => ⟨o.dst.map K.of, .bad, [], g⟩
  | _, _ => ⟨none, .bad, [], none⟩

/-- Those ahead of each, in the order of their numbers. -/
def masksOf (ops : Array Oper) : List Nat :=
  ops.toList.foldl (fun acc o => acc ++ [o.after.toList.foldl (fun m e => cond (Region.binds .any e) (m ||| 2 ^ e.on ||| acc.getD e.on 0) m) 0]) []

end
end Go.Ax

/- Compiling code; what the run of one operation is worth. No condition. -/
set_option linter.unusedVariables false
set_option linter.unusedSimpArgs false
namespace Go.Ax
noncomputable section

/-! ### The order of a region that draws -/

def readsTmp (k : K) (c : COp) : Bool :=
  c.args.any (fun x => match x with | .tmp j => K.beq j k | _ => false) || (match c.guard with | some (j, _) => K.beq j k | none => false)

/-- Must one be ordered ahead of the other? (x stands earlier in the order that is run) -/
def need (x y : Ent) : Bool :=
  (match x.op.dst with
    | some d => readsTmp d y.op || (match y.op.dst with | some d' => K.beq d d' | none => false)
    | none => false) ||
  (match y.op.dst with
    | some d => readsTmp d x.op
    | none => false) ||
  ((y.op.kind.isR || y.op.kind.isW) && (x.op.kind.isA || x.op.kind.isW))

def maskAt (done : List Ent) (i : Nat) : Nat :=
  match done with
  | [] => 0
  | e :: r => cond (Nat.beq e.idx i) e.mask (maskAt r i)

def hasIdx (i : Nat) : List Ent → Bool
  | [] => false
  | e :: r => Nat.beq e.idx i || hasIdx i r

def maskOf (done : List Ent) : List Edge → Nat
  | [] => 0
  | e :: r => cond (Region.binds .any e) (Nat.lor (Nat.lor (Nat.pow 2 e.on) (maskAt done e.on)) (maskOf done r)) (maskOf done r)

def predsIn (done : List Ent) : List Edge → Bool
  | [] => true
  | e :: r => (!(Region.binds .any e) || hasIdx e.on done) && predsIn done r

def allNeed (e : Ent) : List Ent → Bool
  | [] => true
  | x :: r => (!(need x e) || Nat.testBit e.mask x.idx) && allNeed e r

/-- Every number below is there. -/
def allIdx (done : List Ent) : Nat → Bool
  | 0 => true
  | n + 1 => hasIdx n done && allIdx done n

def okEnts (ops : Array Oper) : List Ent → List Ent → Bool
  | [], done => allIdx done ops.size
  | e :: r, done =>
    (match ops[e.idx]? with
      | none => false
      | some o => !(hasIdx e.idx done) && Nat.beq e.mask (maskOf done o.after.toList) && predsIn done o.after.toList && allNeed e done) && okEnts ops r (e :: done)

/-- An order to run in (no word of it is trusted: okEnts looks). -/
def pick (ready : List Ent) (wmask : Option Nat) : Option Ent :=
  match ready.find? (fun e => !(e.op.kind.isA || e.op.kind.isW)) with
  | some e => some e
  | none => match ready.find? (fun e => e.op.kind.isW) with
    | some e => some e
    | none => match wmask with
      | some m => match ready.find? (fun e => Nat.testBit m e.idx) with
        | some e => some e
        | none => ready.head?
      | none => ready.head?

def sched : Nat → List (Ent × Nat) → Nat → List Ent → List Ent
  | 0, _, _, acc => acc.reverse
  | n + 1, left, done, acc =>
    let ready := (left.filter fun p => Nat.beq (Nat.land p.2 done) p.2).map (·.1)
    let wm := (left.find? fun p => p.1.op.kind.isW).map (·.1.mask)
    match pick ready wm with
    | some e => sched n (left.filter fun p => !(Nat.beq p.1.idx e.idx)) (Nat.lor done (Nat.pow 2 e.idx)) (e :: acc)
    | none => acc.reverse

def predMask : List Edge → Nat
  | [] => 0
  | e :: r => cond (Region.binds .any e) (Nat.lor (Nat.pow 2 e.on) (predMask r)) (predMask r)

def mkEnts0 (C : Ctx) (nt : Nat) (ops : Array Oper) : List Oper → Nat → List Ent → List (Ent × Nat)
  | [], _, _ => []
  | o :: r, i, done =>
    let e : Ent := ⟨i, compOp C nt ops o, maskOf done o.after.toList⟩
    (e, predMask o.after.toList) :: mkEnts0 C nt ops r (Nat.succ i) (e :: done)

def mkEnts (C : Ctx) (nt : Nat) (ops : Array Oper) : List Ent :=
  sched ops.size (mkEnts0 C nt ops ops.toList 0 []) 0 []

/-- The entries are what the operations are compiled to. -/
def entsOf (C : Ctx) (nt : Nat) (ops : Array Oper) (ents : List Ent) : List Ent :=
  ents.map fun e => ⟨e.idx, compOp C nt ops (ops.getD e.idx default), e.mask⟩

def compC (C : Ctx) (nt : Nat) : Code → CCode
  | .skip => .skip
  | .region _ ops false => .reg (ops.toList.map (compOp C nt ops))
  | .region _ ops true => cond (okEnts ops (entsOf C nt ops (mkEnts C nt ops)) []) (.draw (entsOf C nt ops (mkEnts C nt ops))) .bad
  | .seq a b => .seq (compC C nt a) (compC C nt b)
  | .cond c a b => match compOpd C.globs c with
    | some x => .cond x (compC C nt a) (compC C nt b)
    | none => .bad
  | .block id b => .block id (compC C nt b)
  | .loop b => .loop (compC C nt b)
  | .exit id => .exit id
  | .ret => .ret
  | _ => .bad

def compRes (P : Program) : List ResultVar → Option (List CRes)
  | [] => some []
  | .tmp t :: r => match compRes P r with | some l => some (.tmp (K.of t) :: l) | none => none
  | .cell a t :: r => match lay P t, compRes P r with
    | some (n, true), some l => some (.cellN (K.of a) n :: l)
    | some (_, false), some l => some (.cell1 (K.of a) :: l)
    | _, _ => none

def compFn (C : Ctx) (f : Nat) : Option AFn :=
  match C.P.funcs[f]? with
  | some fn => match fn.body, compRes C.P fn.results.toList with
    | some c, some r => some ⟨compC C fn.ntmps c, r⟩
    | _, _ => none
  | none => none

/-! ### Environments -/

section
variable {g g' : G} {env : Env} {tmps : Array Value} {nt : Nat}

/-- What the temporaries hold. -/
structure ERel (g : G) (nt : Nat) (env : Env) (tmps : Array Value) : Prop where
  val : ∀ t, VRel g (ev env (.tmp (K.of t))) (tmps.getD t undef)
  size : nt ≤ tmps.size

theorem ERel.mono (hg : g.le g') (h : ERel g nt env tmps) : ERel g' nt env tmps := ⟨fun t => (h.val t).mono hg, h.size⟩

/-- The variables at the package's level lie where they lie. -/
def GOk (globs : List Nat) (g : G) : Prop := ∀ k, memN k globs = true → ∃ S, g (K.of k) = some (k, 0, S)

theorem GOk.mono {globs : List Nat} (hg : g.le g') (h : GOk globs g) : GOk globs g' := fun k hk => let ⟨S, e⟩ := h k hk; ⟨S, hg _ _ e⟩

theorem ev_sound {globs : List Nat} (hG : GOk globs g) (hE : ERel g nt env tmps) {ds : List Deferred} {x : Operand} {c : COpd} (hc : compOpd globs x = some c) :
    VRel g (ev env c) ((⟨tmps, ds⟩ : Act).eval x) := by
  cases x with
  | tmp t =>
    simp only [compOpd, Option.some.injEq] at hc
    subst hc
    exact hE.val t
  | const v =>
    simp only [compOpd] at hc
    split at hc
    · rename_i a ha
      simp only [Option.some.injEq] at hc
      subst hc
      exact VRel.ofConst g v a ha
    · simp at hc
  | global k =>
    simp only [compOpd] at hc
    cases hm : memN k globs with
    | false => rw [hm] at hc; simp at hc
    | true =>
      rw [hm] at hc
      simp only [cond_true, Option.some.injEq] at hc
      subst hc
      obtain ⟨S, e⟩ := hG k hm
      exact .ptr e
  | func f =>
    simp only [compOpd, Option.some.injEq] at hc
    subst hc
    exact .func .nil .nil

theorem evs_sound {globs : List Nat} (hG : GOk globs g) (hE : ERel g nt env tmps) {ds : List Deferred} : ∀ {xs : List Operand} {cs : List COpd}, compOpds globs xs = some cs →
    VRels g (evs env cs) (xs.map (⟨tmps, ds⟩ : Act).eval)
  | [], cs, h => by simp only [compOpds, Option.some.injEq] at h; subst h; exact .nil
  | x :: r, cs, h => by
    simp only [compOpds] at h
    split at h
    · rename_i a l ha hl
      simp only [Option.some.injEq] at h
      subst h
      exact .cons (ev_sound hG hE ha) (evs_sound hG hE hl)
    · simp at h

theorem put_sound (hE : ERel g nt env tmps) {v : AV} {V : Value} (hv : VRel g v V) {ds : List Deferred} {d : Option Tmp} (hd : ∀ t, d = some t → t < nt) :
    ERel g nt (putD (d.map K.of) v env) ((⟨tmps, ds⟩ : Act).put d V).tmps := by
  cases d with
  | none => exact hE
  | some t =>
    have hlt := hd t rfl
    have hsz := hE.size
    refine ⟨fun j => ?_, ?_⟩
    · simp only [Option.map_some, putD, Act.put, ev, Tr.get_set]
      by_cases hj : K.of t = K.of j
      · have := K.of_inj hj
        subst this
        rw [if_pos rfl]
        have : (tmps.setIfInBounds t V).getD t undef = V := by
          simp [Array.getD_eq_getD_getElem?]
          intro hle
          have := Nat.lt_of_lt_of_le hlt hsz
          exact absurd this (Nat.not_lt.2 hle)
        rw [this]
        exact hv
      · rw [if_neg hj]
        have hne : t ≠ j := fun e => hj (by rw [e])
        have : (tmps.setIfInBounds t V).getD j undef = tmps.getD j undef := by
          simp [Array.getD_eq_getD_getElem?, Array.getElem?_setIfInBounds_ne hne]
        rw [this]
        exact hE.val j
    · simp only [Act.put, Array.size_setIfInBounds]
      exact hsz

theorem bool_iff {a : AV} {V : Value} (h : VRel g a V) (b : Bool) : (V = .bool b) ↔ (a = .bool b) := by
  constructor
  · intro e; subst e; cases h; rfl
  · intro e; subst e; cases h; rfl

/-- The guard. -/
theorem guard_sound (hE : ERel g nt env tmps) {ops : Array Oper} {o : Oper} {gd : Option (K × Bool)} (hc : compGuard nt ops o.guard = some gd) :
    Region.wanted o (yielded ops tmps) = gOk env gd := by
  unfold Region.wanted
  cases hg : o.guard with
  | none =>
    rw [hg] at hc
    simp only [compGuard, Option.some.injEq] at hc
    subst hc
    rfl
  | some q =>
    obtain ⟨j, b⟩ := q
    rw [hg] at hc
    simp only [compGuard] at hc
    split at hc
    · rename_i o' ho'
      split at hc
      · rename_i d hdd
        cases hb : Nat.blt d nt with
        | false => rw [hb] at hc; simp at hc
        | true =>
        rw [hb] at hc
        simp only [cond_true, Option.some.injEq] at hc
        subst hc
        have hlt : d < nt := by simpa using hb
        have hsz := hE.size
        have hv := hE.val d
        have hget : tmps[d]? = some (tmps.getD d undef) := by
          rw [Array.getD_eq_getD_getElem?, Array.getElem?_eq_getElem (Nat.lt_of_lt_of_le hlt hsz)]
          rfl
        simp only [yielded, ho', Option.bind_some, hdd, hget, gOk]
        cases hb : ev env (.tmp (K.of d)) with
        | bool c =>
          rw [hb] at hv
          have := (bool_iff hv c).2 rfl
          rw [this]
          rw [Bool.eq_iff_iff]
          simp
        | _ =>
          rw [hb] at hv
          have hnb : ∀ c, tmps.getD d undef ≠ .bool c := fun c e => by have := (bool_iff hv c).1 e; simp at this
          cases hV : tmps.getD d undef <;> first | rfl | exact absurd hV (hnb _)
      · simp at hc
    · simp at hc
end

end
end Go.Ax

/- What the run of one operation is worth. No condition. -/
set_option linter.unusedVariables false
set_option linter.unusedSimpArgs false
namespace Go.Ax
noncomputable section

/-- The table of functions is the program's. -/
structure TabOk (C : Ctx) (tab : Tr AFn) : Prop where
  fn : ∀ f a, tab.get f = some a → ∃ fn c r, C.P.funcs[f.toNat - 1]? = some fn ∧ fn.body = some c ∧ compRes C.P fn.results.toList = some r ∧ a = ⟨compC C fn.ntmps c, r⟩ ∧ fn.name ≠ "runtime.NumGoroutine"
  pts : ∀ u ∈ C.pts, ifOk C.P u = true
  mixed : C.P.follows .mixedOrders = true

/-- What a call's run is worth. -/
def CallOk (C : Ctx) (cf : CallF) : Prop :=
  ∀ f args H v H', cf f args H = some (v, H') → ∀ g w (Args : Array Value), GOk C.globs g → VRels g args Args.toList → Sim g H w →
    (∃ fn c, C.P.funcs[f.toNat - 1]? = some fn ∧ fn.body = some c ∧ fn.name ≠ "runtime.NumGoroutine") ∧
    Calls C.P (f.toNat - 1) Args w fun e w' => ∃ g' V, e = .returned V ∧ Step g H w g' H' w' ∧ VRel g' v V

section
variable {C : Ctx} {g : G} {env : Env} {tmps : Array Value} {ds : List Deferred} {nt : Nat} {H H' : AH} {w : World}

theorem find_indexByte (fn : Func) (h : fn.name = "internal/bytealg.IndexByteString") : Extern.find fn = some Extern.BytealgIndexByte.indexByte := by
  unfold Extern.find
  rw [h]
  rfl
theorem findNext_indexByte (fn : Func) (h : fn.name = "internal/bytealg.IndexByteString") (h2 : fn.origin = "" ∨ fn.origin = "internal/bytealg.IndexByteString") : Extern.findNext fn = none := by
  unfold Extern.findNext
  rcases h2 with h2 | h2 <;> rw [h, h2] <;> rfl

theorem idxB_spec (n v c : Nat) (hc : c < 256) : ∀ (f i u : Nat), f + i = n → u = v / 256 ^ i →
    (match ((List.range' i f).find? fun k => UInt8.ofNat (v / 256 ^ k % 256) == UInt8.ofNat c) with | some k => (k : Int) | none => -1) = idxB n u c f i
  | 0, i, u, h, hu => by simp [idxB]
  | f + 1, i, u, h, hu => by
    simp only [List.range'_succ, List.find?_cons, idxB]
    have e1 : (UInt8.ofNat (v / 256 ^ i % 256) == UInt8.ofNat c) = Nat.beq (Nat.mod u 256) c := by
      rw [Bool.eq_iff_iff, hu]
      simp only [beq_iff_eq, Nat.beq_eq]
      constructor
      · intro e
        have := congrArg UInt8.toNat e
        rw [UInt8.toNat_ofNat', UInt8.toNat_ofNat'] at this
        show v / 256 ^ i % 256 = c
        omega
      · intro e
        have e' : v / 256 ^ i % 256 = c := e
        rw [e']
    rw [e1]
    cases Nat.beq (Nat.mod u 256) c with
    | true => rfl
    | false =>
      simp only [cond_false]
      refine idxB_spec n v c hc f (i + 1) (Nat.div u 256) (by omega) ?_
      show u / 256 = v / 256 ^ (i + 1)
      rw [hu, Nat.div_div_eq_div_mul, Nat.pow_succ]

theorem indexByte_run {P : Program} {n v c : Nat} {S : ByteArray} (hs : SRel n v S) (hc : c < 256) (w : World) :
    (Extern.BytealgIndexByte.indexByte #[.string S, .int .u8 (c : Int)]).run P w = .ok (.int .i64 (idxB n v c n 0)) w := by
  have hget : ∀ i, i < n → S[i]! = UInt8.ofNat (v / 256 ^ i % 256) := by
    intro i hi
    have h1 := hs.getElem? hi
    have hsz : i < S.size := by rw [hs.size]; exact hi
    have : S[i]! = S[i] := getElem!_pos S i hsz
    rw [this]
    rw [List.getElem?_eq_some_iff] at h1
    obtain ⟨h', e⟩ := h1
    rw [← e]
    rfl
  have hf : ((List.range S.size).find? fun i => S[i]! == UInt8.ofNat c) = ((List.range' 0 n).find? fun k => UInt8.ofNat (v / 256 ^ k % 256) == UInt8.ofNat c) := by
    rw [hs.size, List.range_eq_range']
    have key : ∀ (l : List Nat), (∀ i ∈ l, i < n) → (l.find? fun i => S[i]! == UInt8.ofNat c) = (l.find? fun k => UInt8.ofNat (v / 256 ^ k % 256) == UInt8.ofNat c) := by
      intro l
      induction l with
      | nil => intro _; rfl
      | cons a l ih =>
        intro h
        simp only [List.find?_cons, hget a (h a (List.mem_cons_self ..)), ih (fun i hi => h i (List.mem_cons_of_mem _ hi))]
    exact key _ (fun i hi => by simp [List.mem_range'] at hi; omega)
  have hi := idxB_spec n v c hc n 0 v (by omega) (by simp)
  have e : Extern.BytealgIndexByte.indexByte #[.string S, .int .u8 (c : Int)] = (match (List.range S.size).find? (fun i => S[i]! == UInt8.ofNat c) with
    | some i => Sem.pure (goInt i)
    | none => Sem.pure (goInt (-1))) := rfl
  rw [e, hf]
  cases hh : ((List.range' 0 n).find? fun k => UInt8.ofNat (v / 256 ^ k % 256) == UInt8.ofNat c) with
  | some k => rw [hh] at hi; simp only [] at hi; simp [goInt, ← hi]
  | none => rw [hh] at hi; simp only [] at hi; simp [goInt, ← hi]

/-- What an operation is worth where it is not a call. -/
theorem stepK_quiet (hpts : ∀ u ∈ C.pts, ifOk C.P u = true) (hS : Sim g H w) {o : Oper} {cf : CallF} {k : CK} {xs : List Operand} (hk : compKind C o = (k, xs)) (hq : (match k with | .call _ => false | .callv => false | _ => true) = true)
    {ρ : Operand → Value} (hρ : ∀ f, ρ (.func f) = .func (.func f) #[] #[]) {args : List AV} {v : AV} (hv : VRels g args (xs.map ρ)) (he : stepK cf k args H = some (v, H')) : AnsU C.P g H w v H' (execOp ρ o) := by
  unfold compKind at hk
  split at hk
  · rename_i pk ys hc
    simp only [Prod.mk.injEq] at hk
    obtain ⟨rfl, rfl⟩ := hk
    simp only [stepK] at he
    split at he
    · rename_i v' hv'
      simp only [Option.some.injEq, Prod.mk.injEq] at he
      obtain ⟨rfl, rfl⟩ := he
      obtain ⟨V, hr, hw⟩ := compP_sound hc hv hv'
      exact ⟨g, V, w, .refl hS, hr, .inl (hw w)⟩
    · simp at he
  · split at hk
    · rename_i rk ys hc
      simp only [Prod.mk.injEq] at hk
      obtain ⟨rfl, rfl⟩ := hk
      simp only [stepK] at he
      split at he
      · rename_i v' hv'
        simp only [Option.some.injEq, Prod.mk.injEq] at he
        obtain ⟨rfl, rfl⟩ := he
        obtain ⟨V, hr, hw⟩ := compR_sound hS hpts hc hv hv'
        exact ⟨g, V, w, .refl hS, hr, .inl hw⟩
      · simp at he
    · split at hk
      · rename_i ak ys hc
        simp only [Prod.mk.injEq] at hk
        obtain ⟨rfl, rfl⟩ := hk
        simp only [stepK] at he
        split at he
        · rename_i blk v' hv'
          simp only [Option.some.injEq, Prod.mk.injEq] at he
          obtain ⟨rfl, rfl⟩ := he
          obtain ⟨hd, hn⟩ := get_nx hS
          obtain ⟨x, V, w', h1, h2, h3⟩ := compA_sound hS hn hd (nx' := H.nx.succ) (by rw [K.toNat_succ]; omega) (by rw [K.toNat_succ]; omega) hc hv hv'
          exact ⟨_, V, w', h1.toStep, h2, .inl h3⟩
        · simp at he
      · split at hk
        · rename_i wk ys hc
          simp only [Prod.mk.injEq] at hk
          obtain ⟨rfl, rfl⟩ := hk
          simp only [stepK] at he
          exact compW_sound hS hc hv he
        · split at hk
          · rename_i r hc
            obtain ⟨k', xs'⟩ := r
            simp only [Prod.mk.injEq] at hk
            obtain ⟨rfl, rfl⟩ := hk
            unfold compCall at hc
            split at hc
            · rename_i f as ts ho
              split at hc
              · rename_i fn hfn
                split at hc
                · cases hb : (fn.name == "runtime.NumGoroutine") with
                  | true => rw [hb] at hc; simp at hc
                  | false =>
                    rw [hb] at hc
                    simp only [cond_false, Option.some.injEq, Prod.mk.injEq] at hc
                    obtain ⟨rfl, rfl⟩ := hc
                    simp at hq
                · rename_i hbody
                  cases hb : (fn.name == "internal/bytealg.IndexByteString" && (fn.origin == "" || fn.origin == "internal/bytealg.IndexByteString")) with
                  | false => rw [hb] at hc; simp at hc
                  | true =>
                    rw [hb] at hc
                    simp only [cond_true, Option.some.injEq, Prod.mk.injEq] at hc
                    obtain ⟨rfl, rfl⟩ := hc
                    simp only [Bool.and_eq_true, Bool.or_eq_true, beq_iff_eq] at hb
                    obtain ⟨hname, horig⟩ := hb
                    simp only [stepK, evalP] at he
                    split at he
                    · rename_i v' hv'
                      simp only [Option.some.injEq, Prod.mk.injEq] at he
                      obtain ⟨rfl, rfl⟩ := he
                      unfold pIndexByte at hv'
                      split at hv'
                      · rename_i n u c
                        cases hcb : Nat.blt c 256 with
                        | false => rw [hcb] at hv'; simp at hv'
                        | true =>
                          rw [hcb] at hv'
                          simp only [cond_true, Option.some.injEq] at hv'
                          subst hv'
                          have hc256 : c < 256 := by simpa using hcb
                          cases hl : as.toList.map ρ with
                          | nil => rw [hl] at hv; cases hv
                          | cons X l1 =>
                            rw [hl] at hv
                            cases hv with | cons h1 tl =>
                            cases tl with | cons h2 tl =>
                            cases tl
                            cases h1 with | str h1 =>
                            cases h2
                            rename_i S
                            have hargs : as.map ρ = #[.string S, .int .u8 (c : Int)] := by
                              apply Array.toList_inj.1
                              rw [Array.toList_map, hl]
                              rfl
                            refine ⟨g, .int .i64 (idxB n u c n 0), w, .refl hS, .int _ _, .inl ?_⟩
                            have hnm : (fn.name == "runtime.NumGoroutine") = false := by rw [hname]; decide
                            have hres : execOp ρ o = Go.invoke (.fn (.func f) #[]) (as.map ρ) := by
                              simp [execOp, ho, resolve, hρ, Deferred.ofValue]
                            rw [hres, hargs]
                            simp only [Go.invoke, callFunc, Sem.run_bind, run_program, Result.andThen_ok, Array.append_empty, hfn, hnm, Bool.false_eq_true, if_false, hbody, Option.isNone_none, if_true, run_mark,
                              findNext_indexByte fn hname horig, find_indexByte fn hname]
                            simp only [Sem.run_bind, indexByte_run h1 hc256 w, Result.andThen_ok]
                            rfl
                      · simp at hv'
                    · simp at he
              · simp at hc
            · simp only [Option.some.injEq, Prod.mk.injEq] at hc
              obtain ⟨rfl, rfl⟩ := hc
              simp at hq
            · simp at hc
          · simp only [Prod.mk.injEq] at hk
            obtain ⟨rfl, rfl⟩ := hk
            simp [stepK] at he

end
end
end Go.Ax

/- What a run is worth: operations, regions in order. No condition. -/
set_option linter.unusedVariables false
set_option linter.unusedSimpArgs false
namespace Go.Ax
noncomputable section
section
variable {C : Ctx} {g : G} {env env' : Env} {tmps : Array Value} {ds : List Deferred} {nt : Nat} {H H' : AH} {w : World} {Q : Exit → Act → World → Prop}

theorem eval_func (a : Act) (f : FuncId) : a.eval (.func f) = .func (.func f) #[] #[] := rfl

theorem dstOk_lt {d : Option Nat} (h : dstOk nt d = true) : ∀ t, d = some t → t < nt := by
  intro t ht
  subst ht
  simpa [dstOk] using h

/-- What compOp's parts are, where it is not bad. -/
theorem compOp_parts {ops : Array Oper} {o : Oper} (h : (compOp C nt ops o).kind ≠ .bad) :
    ∃ xs as gd, compKind C o = ((compOp C nt ops o).kind, xs) ∧ compOpds C.globs xs = some as ∧ compGuard nt ops o.guard = some gd ∧ (∀ t, o.dst = some t → t < nt) ∧
      (compOp C nt ops o).args = as ∧ (compOp C nt ops o).guard = gd ∧ (compOp C nt ops o).dst = o.dst.map K.of := by
  cases hg : compGuard nt ops o.guard with
  | none => simp [compOp, hg] at h
  | some gd =>
    cases hd : dstOk nt o.dst with
    | false => simp [compOp, hg, hd] at h
    | true =>
      cases hx : compOpds C.globs (compKind C o).2 with
      | none => simp [compOp, hg, hd, hx] at h
      | some as =>
        have e : compOp C nt ops o = ⟨o.dst.map K.of, (compKind C o).1, as, gd⟩ := by simp [compOp, hg, hd, hx]
        rw [e]
        exact ⟨_, as, gd, rfl, hx, rfl, dstOk_lt hd, rfl, rfl, rfl⟩

/-- The guard, whatever the operation came to. -/
theorem compOp_guard {ops : Array Oper} {o : Oper} (h : gOk env (compOp C nt ops o).guard = false) :
    compGuard nt ops o.guard = some (compOp C nt ops o).guard ∧ (compOp C nt ops o).dst = o.dst.map K.of ∧ ∀ t, o.dst = some t → t < nt := by
  cases hg : compGuard nt ops o.guard with
  | none => simp [compOp, hg, gOk] at h
  | some gd =>
    cases hd : dstOk nt o.dst with
    | false => simp [compOp, hg, hd, gOk] at h
    | true =>
      cases hx : compOpds C.globs (compKind C o).2 with
      | none =>
        have e : compOp C nt ops o = ⟨o.dst.map K.of, .bad, [], gd⟩ := by simp [compOp, hg, hd, hx]
        rw [e]
        exact ⟨rfl, rfl, dstOk_lt hd⟩
      | some as =>
        have e : compOp C nt ops o = ⟨o.dst.map K.of, (compKind C o).1, as, gd⟩ := by simp [compOp, hg, hd, hx]
        rw [e]
        exact ⟨rfl, rfl, dstOk_lt hd⟩

theorem put_eta (tmps : Array Value) (ds : List Deferred) (d : Option Tmp) (V : Value) : (⟨tmps, ds⟩ : Act).put d V = ⟨((⟨tmps, ds⟩ : Act).put d V).tmps, ds⟩ := by
  cases d <;> rfl

theorem compKind_call {o : Oper} {f : K} {xs : List Operand} (h : compKind C o = (.call f, xs)) : ∃ f' as ts, o.op = .call ⟨.value (.func f'), as, ts⟩ ∧ f = K.of f' ∧ xs = as.toList := by
  unfold compKind at h
  split at h
  · simp at h
  · split at h
    · simp at h
    · split at h
      · simp at h
      · split at h
        · simp at h
        · split at h
          · rename_i r hc
            subst h
            unfold compCall at hc
            split at hc
            · rename_i f' as ts ho
              split at hc
              · rename_i fn hfn
                split at hc
                · cases hb : (fn.name == "runtime.NumGoroutine") with
                  | true => rw [hb] at hc; simp at hc
                  | false =>
                    rw [hb] at hc
                    simp only [cond_false, Option.some.injEq, Prod.mk.injEq, CK.call.injEq] at hc
                    exact ⟨f', as, ts, by assumption, hc.1.symm, hc.2.symm⟩
                · cases hb : (fn.name == "internal/bytealg.IndexByteString" && (fn.origin == "" || fn.origin == "internal/bytealg.IndexByteString")) with
                  | false => rw [hb] at hc; simp at hc
                  | true => rw [hb] at hc; simp at hc
              · simp at hc
            · simp at hc
            · simp at hc
          · simp at h

theorem compKind_callv {o : Oper} {xs : List Operand} (h : compKind C o = (.callv, xs)) : ∃ x as ts, o.op = .call ⟨.value x, as, ts⟩ ∧ xs = x :: as.toList := by
  unfold compKind at h
  split at h
  · simp at h
  · split at h
    · simp at h
    · split at h
      · simp at h
      · split at h
        · simp at h
        · split at h
          · rename_i r hc
            subst h
            unfold compCall at hc
            split at hc
            · rename_i f' as ts ho
              split at hc
              · rename_i fn hfn
                split at hc
                · cases hb : (fn.name == "runtime.NumGoroutine") with
                  | true => rw [hb] at hc; simp at hc
                  | false => rw [hb] at hc; simp at hc
                · cases hb : (fn.name == "internal/bytealg.IndexByteString" && (fn.origin == "" || fn.origin == "internal/bytealg.IndexByteString")) with
                  | false => rw [hb] at hc; simp at hc
                  | true => rw [hb] at hc; simp at hc
              · simp at hc
            · rename_i x as ts _ ho
              simp only [Option.some.injEq, Prod.mk.injEq, true_and] at hc
              exact ⟨x, as, ts, by assumption, hc.symm⟩
            · simp at hc
          · simp at h

theorem isFn {f : Nat} {first cap : List AV} {V : Value} (h : VRel g (.func (.func f) first cap) V) : ∃ F Cp, V = .func (.func f) F Cp ∧ VRels g first F.toList ∧ VRels g cap Cp.toList := by
  cases h with | func hf hc => exact ⟨_, _, rfl, hf, hc⟩

theorem call_enter {P : Program} {f : FuncId} {fn : Func} {c : Code} (hf : P.funcs[f]? = some fn) (hb : fn.body = some c) (hn : fn.name ≠ "runtime.NumGoroutine") (args : Array Value) (w : World) :
    (callFunc f args).run P w = .ok (.enter f args) w := by
  simp [callFunc, hf, hb, hn]

/-- ONE OPERATION. -/
theorem stepOp_sound {tab : Tr AFn} (hT : TabOk C tab) {cf : CallF} (hcf : CallOk C cf) (hG : GOk C.globs g) (hE : ERel g nt env tmps) (hS : Sim g H w) {ops : Array Oper} {i : Nat} {o : Oper} (ho : ops[i]? = some o)
    (he : stepOp cf (compOp C nt ops o) env H = some (env', H')) {N : Act → World → Prop}
    (hN : ∀ g' tmps' w', Step g H w g' H' w' → ERel g' nt env' tmps' → N ⟨tmps', ds⟩ w') : wpOp C.P ops Q i N ⟨tmps, ds⟩ w := by
  unfold stepOp at he
  cases hg : gOk env (compOp C nt ops o).guard with
  | false =>
    rw [hg] at he
    simp only [Option.some.injEq, Prod.mk.injEq] at he
    obtain ⟨rfl, rfl⟩ := he
    obtain ⟨h1, h2, h3⟩ := compOp_guard hg
    have hwant := guard_sound hE h1
    rw [hg] at hwant
    unfold wpOp
    rw [ho]
    simp only [hwant, Bool.false_eq_true, if_false]
    rw [put_eta]
    rw [h2] at hN
    exact hN g _ w (.refl hS) (put_sound hE (.tuple .nil) h3)
  | true =>
    rw [hg] at he
    simp only [] at he
    split at he
    · rename_i v H2 hst
      simp only [Option.some.injEq, Prod.mk.injEq] at he
      obtain ⟨rfl, rfl⟩ := he
      have hnb : (compOp C nt ops o).kind ≠ .bad := by
        intro hk
        rw [hk] at hst
        simp [stepK] at hst
      obtain ⟨xs, as, gd, hk, hxs, hgd, hlt, e1, e2, e3⟩ := compOp_parts hnb
      have hwant := guard_sound hE hgd
      rw [← e2, hg] at hwant
      have hv := evs_sound (ds := ds) hG hE hxs
      rw [e1] at hst
      unfold wpOp
      rw [ho]
      simp only [hwant, if_true]
      refine .inl ?_
      unfold Oper.wp
      rw [e3] at hN
      cases hkk : (compOp C nt ops o).kind with
      | bad => exact absurd hkk hnb
      | call f =>
        rw [hkk] at hk hst
        simp only [stepK] at hst
        obtain ⟨f', as', ts, hop, rfl, rfl⟩ := compKind_call hk
        have hargs : VRels g (evs env as) ((as'.map (⟨tmps, ds⟩ : Act).eval)).toList := by rw [Array.toList_map]; exact hv
        obtain ⟨⟨fn, c, hfn, hbd, hnm⟩, hc⟩ := hcf _ _ _ _ _ hst g w _ hG hargs hS
        rw [K.toNat_of, Nat.add_sub_cancel] at hfn hc
        have hrun : (execOp (⟨tmps, ds⟩ : Act).eval o).run C.P w = .ok (.enter f' (as'.map (⟨tmps, ds⟩ : Act).eval)) w := by
          simp only [execOp, hop]
          simp [resolve, eval_func, Deferred.ofValue, Go.invoke, call_enter hfn hbd hnm]
        rw [hrun]
        simp only [Oper.upon]
        refine hc.mono ?_
        rintro e w' ⟨g', V, rfl, hstep, hvr⟩
        simp only []
        rw [put_eta]
        exact hN g' _ w' hstep (put_sound (hE.mono hstep.le) hvr hlt)
      | callv =>
        rw [hkk] at hk hst
        simp only [stepK] at hst
        obtain ⟨x, as', ts, hop, rfl⟩ := compKind_callv hk
        split at hst
        · rename_i f first cap rest hev
          rw [hev] at hv
          simp only [List.map_cons] at hv
          cases hv with | cons h1 tl =>
          obtain ⟨F, Cp, hX, hF, hC⟩ := isFn h1
          have hargs : VRels g (first ++ rest ++ cap) ((F ++ as'.map (⟨tmps, ds⟩ : Act).eval ++ Cp)).toList := by
            rw [Array.toList_append, Array.toList_append, Array.toList_map]
            exact (hF.append tl).append hC
          obtain ⟨⟨fn, c, hfn, hbd, hnm⟩, hc⟩ := hcf _ _ _ _ _ hst g w _ hG hargs hS
          rw [K.toNat_of, Nat.add_sub_cancel] at hfn hc
          have hrun : (execOp (⟨tmps, ds⟩ : Act).eval o).run C.P w = .ok (.enter f (F ++ as'.map (⟨tmps, ds⟩ : Act).eval ++ Cp)) w := by
            simp only [execOp, hop]
            simp [resolve, hX, Deferred.ofValue, Go.invoke, call_enter hfn hbd hnm]
          rw [hrun]
          simp only [Oper.upon]
          refine hc.mono ?_
          rintro e w' ⟨g', V, rfl, hstep, hvr⟩
          simp only []
          rw [put_eta]
          exact hN g' _ w' hstep (put_sound (hE.mono hstep.le) hvr hlt)
        · simp at hst
      | _ =>
        rw [hkk] at hk hst
        obtain ⟨g', V, w', hstep, hvr, hrun⟩ := stepK_quiet hT.pts hS hk rfl (fun f => eval_func _ f) hv hst
        rcases hrun with hrun | ⟨rfl, hrun⟩
        · rw [hrun]
          simp only [Oper.upon]
          rw [put_eta]
          exact hN g' _ w' hstep (put_sound (hE.mono hstep.le) hvr hlt)
        · rw [hrun]
          simp only [Oper.upon]
          rw [put_eta]
          exact hN g' _ w' hstep (put_sound (hE.mono hstep.le) hvr hlt)
    · simp at he

/-- A REGION IN ITS ORDER. -/
theorem runOps_sound {tab : Tr AFn} (hT : TabOk C tab) {cf : CallF} (hcf : CallOk C cf) {ops : Array Oper} {N : Act → World → Prop} (hQ : ∀ a w, Q .normal a w = N a w) :
    ∀ (m i : Nat) (l : List Oper) (g : G) (env : Env) (H : AH) (tmps : Array Value) (w : World), l.length = m → (∀ k, k < m → ops[i + k]? = l[k]?) → GOk C.globs g → ERel g nt env tmps → Sim g H w →
      runOps cf (l.map (compOp C nt ops)) env H = some (env', H') →
      (∀ g' tmps' w', Step g H w g' H' w' → ERel g' nt env' tmps' → N ⟨tmps', ds⟩ w') →
      wpOps C.P ops Q (List.range' i m) ⟨tmps, ds⟩ w
  | 0, i, l, g, env, H, tmps, w, hl, _, hG, hE, hS, he, hN => by
    have : l = [] := by simpa using hl
    subst this
    simp only [List.map_nil, runOps, Option.some.injEq, Prod.mk.injEq] at he
    obtain ⟨rfl, rfl⟩ := he
    simp only [List.range'_zero, wpOps, hQ]
    exact hN g tmps w (.refl hS) hE
  | m + 1, i, [], g, env, H, tmps, w, hl, _, hG, hE, hS, he, hN => by simp at hl
  | m + 1, i, o :: l, g, env, H, tmps, w, hl, hget, hG, hE, hS, he, hN => by
    simp only [List.map_cons, runOps] at he
    split at he
    · rename_i env1 H1 hst
      rw [List.range'_succ, wpOps_cons]
      have ho : ops[i]? = some o := by simpa using hget 0 (by omega)
      refine stepOp_sound hT hcf hG hE hS ho hst ?_
      intro g1 tmps1 w1 hstep hE1
      refine runOps_sound hT hcf hQ m (i + 1) l g1 env1 H1 tmps1 w1 (by simpa using hl) ?_ (hG.mono hstep.le) hE1 hstep.sim he ?_
      · intro k hk
        have := hget (k + 1) (by omega)
        rw [List.getElem?_cons_succ] at this
        rw [← this]
        congr 1
        omega
      · intro g2 tmps2 w2 hstep2 hE2
        exact hN g2 tmps2 w2 (hstep.trans hstep2) hE2
    · simp at he

end
end
end Go.Ax

/- A region that draws: what its order cannot change. No condition. -/
set_option linter.unusedVariables false
set_option linter.unusedSimpArgs false
namespace Go.Ax
noncomputable section

/-! ### States with environments and heaps as functions -/

abbrev EF := K → AV
abbrev HF := K → ABlk

def evF (E : EF) : COpd → AV
  | .tmp k => E k
  | .const v => v
  | .glob id => .ptr id 0
  | .func f => .func (.func f) [] []

def gOkF (E : EF) : Option (K × Bool) → Bool
  | none => true
  | some (k, b) => match E k with
    | .bool c => c == b
    | _ => false

def putF (E : EF) (d : Option K) (v : AV) : EF := fun k => if d = some k then v else E k

def updH (h : HF) (id : K) (b : ABlk) : HF := fun k => if id = k then b else h k

/-- What lives in one lives in the other. -/
def Sub (H : AH) (h : HF) (nx : K) : Prop := (∀ id, (H.get id).live = true → h id = H.get id) ∧ H.nx = nx

def over (h : HF) (A B : AH) : HF := fun id => if (A.get id).live = true then B.get id else if (h id).live = true then h id else B.get id

abbrev Hp := HF × K

inductive HEff (cf : CallF) (e : Ent) (id : K) (rds : List Rd) (vs : List AV) : AV → Hp → Hp → Prop
  | p {k v hp} (hk : e.op.kind = .p k) (he : evalP k vs = some v) : HEff cf e id rds vs v hp hp
  | r {k v h nx} (H : AH) (hk : e.op.kind = .r k) (hs : Sub H h nx) (he : evalR H k vs = some v) : HEff cf e id rds vs v (h, nx) (h, nx)
  | a {k v blk h nx} (hk : e.op.kind = .a k) (he : evalA id k vs = some (blk, v)) : HEff cf e id rds vs v (h, nx) (updH h id blk, nx)
  | w {v h nx} (A B : AH) (hk : e.op.kind.isW = true) (hs : Sub A h nx) (he : stepK cf e.op.kind vs A = some (v, B))
      (hx : ∀ i, (h i).live = true → (A.get i).live = false → (B.get i).live = false)
      (hr : ∀ rd ∈ rds, Nat.testBit e.mask rd.idx = true ∨ evalR B rd.k rd.args = some rd.v) : HEff cf e id rds vs v (h, nx) (over h A B, B.nx)

structure St where
  E : EF
  hp : Hp

abbrev Pt := Ent × K

inductive SStep (cf : CallF) (rds : List Rd) (p : Pt) (s : St) : AV → Hp → Prop
  | skip (hg : gOkF s.E p.1.op.guard = false) : SStep cf rds p s (.tuple []) s.hp
  | run {v hp'} (hg : gOkF s.E p.1.op.guard = true) (he : HEff cf p.1 p.2 rds (p.1.op.args.map (evF s.E)) v s.hp hp') : SStep cf rds p s v hp'

def rdOf (p : Pt) (s : St) (v : AV) : List Rd :=
  match gOkF s.E p.1.op.guard, p.1.op.kind with
  | true, .r k => [⟨p.1.idx, k, p.1.op.args.map (evF s.E), v⟩]
  | _, _ => []

def DeadAll (l : List Pt) (h : HF) : Prop := ∀ p ∈ l, p.1.op.kind.isA = true → (h p.2).live = false

def SRun (cf : CallF) : List Rd → List Pt → St → St → Prop
  | _, [], s, t => s = t
  | rds, p :: r, s, t => ∃ v hp', SStep cf rds p s v hp' ∧ DeadAll r hp'.1 ∧ SRun cf (rdOf p s v ++ rds) r ⟨putF s.E p.1.op.dst v, hp'⟩ t

section
variable {cf : CallF}

theorem HEff.sub {e : Ent} {id : K} {rds rds' : List Rd} (h : ∀ x ∈ rds', x ∈ rds) {vs : List AV} {v : AV} {hp hp' : Hp} (a : HEff cf e id rds vs v hp hp') : HEff cf e id rds' vs v hp hp' := by
  cases a with
  | p hk he => exact .p hk he
  | r H hk hs he => exact .r H hk hs he
  | a hk he => exact .a hk he
  | w A B hk hs he hx hr => exact .w A B hk hs he hx (fun rd hrd => hr rd (h rd hrd))

theorem SStep.sub {rds rds' : List Rd} (h : ∀ x ∈ rds', x ∈ rds) {p : Pt} {s : St} {v : AV} {hp' : Hp} (a : SStep cf rds p s v hp') : SStep cf rds' p s v hp' := by
  cases a with
  | skip hg => exact .skip hg
  | run hg he => exact .run hg (he.sub h)

theorem SRun.sub : ∀ {l : List Pt} {rds rds' : List Rd} {s t : St}, (∀ x ∈ rds', x ∈ rds) → SRun cf rds l s t → SRun cf rds' l s t
  | [], _, _, _, _, _, h => h
  | p :: r, rds, rds', s, t, hs, ⟨v, hp', h1, h2, h3⟩ => ⟨v, hp', h1.sub hs, h2, SRun.sub (fun x hx => by
      simp only [List.mem_append] at hx ⊢
      exact hx.imp id (hs x)) h3⟩

/-! ### Two that are not ordered -/

theorem readsTmp_args {k : K} {c : COp} (h : readsTmp k c = false) {E : EF} {v : AV} : c.args.map (evF (putF E (some k) v)) = c.args.map (evF E) := by
  unfold readsTmp at h
  rw [Bool.or_eq_false_iff] at h
  apply List.map_congr_left
  intro x hx
  have := h.1
  rw [List.any_eq_false] at this
  have := this x hx
  cases x with
  | tmp j =>
    simp only [evF, putF]
    rw [if_neg]
    intro e
    simp only [Option.some.injEq] at e
    subst e
    exact this (K.beq_refl _)
  | _ => rfl

theorem readsTmp_guard {k : K} {c : COp} (h : readsTmp k c = false) {E : EF} {v : AV} : gOkF (putF E (some k) v) c.guard = gOkF E c.guard := by
  unfold readsTmp at h
  rw [Bool.or_eq_false_iff] at h
  have := h.2
  cases hg : c.guard with
  | none => rfl
  | some q =>
    obtain ⟨j, b⟩ := q
    rw [hg] at this
    simp only at this
    simp only [gOkF, putF]
    rw [if_neg]
    intro e
    simp only [Option.some.injEq] at e
    subst e
    rw [K.beq_refl] at this
    simp at this

structure Apart (x y : Ent) : Prop where
  rd : ∀ d, x.op.dst = some d → readsTmp d y.op = false
  rd' : ∀ d, y.op.dst = some d → readsTmp d x.op = false
  dst : ∀ d, x.op.dst = some d → y.op.dst ≠ some d
  kind : (y.op.kind.isR || y.op.kind.isW) = true → (x.op.kind.isA || x.op.kind.isW) = false

theorem Apart.of {x y : Ent} (h : need x y = false) : Apart x y := by
  unfold need at h
  simp only [Bool.or_eq_false_iff] at h
  obtain ⟨⟨h1, h2⟩, h3⟩ := h
  refine ⟨?_, ?_, ?_, ?_⟩
  · intro d hd
    rw [hd] at h1
    simp only [Bool.or_eq_false_iff] at h1
    exact h1.1
  · intro d hd
    rw [hd] at h2
    exact h2
  · intro d hd hd'
    rw [hd, hd'] at h1
    simp only [Bool.or_eq_false_iff] at h1
    rw [K.beq_refl] at h1
    simp at h1
  · intro hy
    rw [hy] at h3
    simpa using h3

theorem Apart.args {x y : Ent} (h : Apart x y) {E : EF} {v : AV} : y.op.args.map (evF (putF E x.op.dst v)) = y.op.args.map (evF E) := by
  cases hd : x.op.dst with
  | none => rfl
  | some d => exact readsTmp_args (h.rd d hd)

theorem Apart.guard {x y : Ent} (h : Apart x y) {E : EF} {v : AV} : gOkF (putF E x.op.dst v) y.op.guard = gOkF E y.op.guard := by
  cases hd : x.op.dst with
  | none => rfl
  | some d => exact readsTmp_guard (h.rd d hd)

theorem Apart.args' {x y : Ent} (h : Apart x y) {E : EF} {v : AV} : x.op.args.map (evF (putF E y.op.dst v)) = x.op.args.map (evF E) := by
  cases hd : y.op.dst with
  | none => rfl
  | some d => exact readsTmp_args (h.rd' d hd)

theorem Apart.guard' {x y : Ent} (h : Apart x y) {E : EF} {v : AV} : gOkF (putF E y.op.dst v) x.op.guard = gOkF E x.op.guard := by
  cases hd : y.op.dst with
  | none => rfl
  | some d => exact readsTmp_guard (h.rd' d hd)

theorem Apart.put {x y : Ent} (h : Apart x y) {E : EF} {v u : AV} : putF (putF E x.op.dst v) y.op.dst u = putF (putF E y.op.dst u) x.op.dst v := by
  funext k
  simp only [putF]
  by_cases hx : x.op.dst = some k
  · rw [if_pos hx, if_pos hx, if_neg (h.dst k hx)]
  · rw [if_neg hx, if_neg hx]

theorem dead_eq {b : ABlk} (h : b.live = false) : b = .dead := by cases b <;> first | rfl | (simp [ABlk.live] at h)

theorem isA_of {k : CK} {a : AK} (h : k = .a a) : k.isA = true := by rw [h]; rfl
theorem isR_of {k : CK} {a : RK} (h : k = .r a) : k.isR = true := by rw [h]; rfl

/-- Two effects in the other order. -/
theorem HEff.swap {x y : Ent} {ix iy : K} {rds rdx : List Rd} {vx vy : AV} {ax ay : List AV} {h0 h1 h2 : Hp}
    (hk : (y.op.kind.isR || y.op.kind.isW) = true → (x.op.kind.isA || x.op.kind.isW) = false)
    (hne : x.op.kind.isA = true → y.op.kind.isA = true → ix ≠ iy)
    (hd0 : y.op.kind.isA = true → (h0.1 iy).live = false) (hd1 : y.op.kind.isA = true → (h1.1 iy).live = false)
    (hm : Nat.testBit y.mask x.idx = false)
    (hrx : ∀ k, x.op.kind = .r k → (⟨x.idx, k, ax, vx⟩ : Rd) ∈ rdx) (hsub : ∀ r ∈ rds, r ∈ rdx)
    (hx : HEff cf x ix rds ax vx h0 h1) (hy : HEff cf y iy rdx ay vy h1 h2) :
    ∃ hi, HEff cf y iy rds ay vy h0 hi ∧ HEff cf x ix rds ax vx hi h2 := by
  cases hx with
  | p hkx hex => exact ⟨h2, hy.sub hsub, .p hkx hex⟩
  | @r k vx h nx H hkx hs hex =>
    cases hy with
    | p hky hey => exact ⟨_, .p hky hey, .r H hkx hs hex⟩
    | r H' hky hs' hey => exact ⟨_, .r H' hky hs' hey, .r H hkx hs hex⟩
    | a hky hey =>
      refine ⟨_, .a hky hey, .r H hkx ⟨fun i hi => ?_, hs.2⟩ hex⟩
      have hd := hd0 (isA_of hky)
      simp only [updH]
      rw [if_neg]
      · exact hs.1 i hi
      · intro e
        subst e
        have := hs.1 _ hi
        simp only at hd
        rw [this, hi] at hd
        simp at hd
    | w A B hky hs' hey hxx hr =>
      refine ⟨_, .w A B hky hs' hey hxx (fun rd hrd => hr rd (hsub rd hrd)), ?_⟩
      have hv := (hr _ (hrx k hkx)).resolve_left (by simp [hm])
      refine .r B hkx ⟨fun i hi => ?_, rfl⟩ hv
      simp only [over]
      by_cases hA : (A.get i).live = true
      · rw [if_pos hA]
      · rw [if_neg hA]
        by_cases hh : (h i).live = true
        · have := hxx i hh (by simpa using hA)
          rw [this] at hi
          simp at hi
        · rw [if_neg hh]
  | @a k vx blk h nx hkx hex =>
    have hAx := isA_of hkx
    cases hy with
    | p hky hey => exact ⟨_, .p hky hey, .a hkx hex⟩
    | r H' hky hs' hey => have := hk (by rw [isR_of hky]; rfl); rw [hAx] at this; simp at this
    | @a k' vy blk' h' nx' hky hey =>
      have hne' := hne hAx (isA_of hky)
      refine ⟨_, .a hky hey, ?_⟩
      have : updH (updH h ix blk) iy blk' = updH (updH h iy blk') ix blk := by
        funext i
        simp only [updH]
        by_cases h1 : iy = i
        · subst h1; rw [if_pos rfl, if_neg hne', if_pos rfl]
        · rw [if_neg h1, if_neg h1]
      rw [this]
      exact .a hkx hex
    | w A B hky hs' hey hxx hr => have := hk (by rw [hky]; simp); rw [hAx] at this; simp at this
  | @w vx h nx A B hkx hs hex hxx hr =>
    cases hy with
    | p hky hey => exact ⟨_, .p hky hey, .w A B hkx hs hex hxx hr⟩
    | r H' hky hs' hey => have := hk (by rw [isR_of hky]; rfl); rw [hkx] at this; simp at this
    | @a k' vy blk' h' nx' hky hey =>
      have hAy := isA_of hky
      have hd0 := hd0 hAy
      have hd1 := hd1 hAy
      simp only at hd0 hd1
      have hAd : (A.get iy).live = false := by
        cases hl : (A.get iy).live with
        | false => rfl
        | true => rw [hs.1 _ hl, hl] at hd0; simp at hd0
      have hBd : (B.get iy).live = false := by
        simp only [over] at hd1
        rw [if_neg (by simp [hAd]), if_neg (by simp [hd0])] at hd1
        exact hd1
      refine ⟨_, .a hky hey, ?_⟩
      have : updH (over h A B) iy blk' = over (updH h iy blk') A B := by
        funext i
        by_cases h1 : iy = i
        · subst h1
          have e1 : updH h iy blk' iy = blk' := if_pos rfl
          have e2 : updH (over h A B) iy blk' iy = blk' := if_pos rfl
          rw [e2]
          cases hl : blk'.live with
          | true => simp [over, hAd, e1, hl]
          | false => rw [dead_eq hl] at e1 ⊢; simp [over, hAd, e1, dead_eq hBd]
        · have e1 : updH h iy blk' i = h i := if_neg h1
          have e2 : updH (over h A B) iy blk' i = over h A B i := if_neg h1
          rw [e2]
          simp [over, e1]
      rw [this]
      refine .w A B hkx ⟨fun i hi => ?_, hs.2⟩ hex (fun i hi hAi => ?_) hr
      · simp only [updH]
        rw [if_neg]
        · exact hs.1 i hi
        · intro e; subst e; rw [hAd] at hi; simp at hi
      · simp only [updH] at hi
        by_cases h1 : iy = i
        · subst h1; exact hBd
        · rw [if_neg h1] at hi; exact hxx i hi hAi
    | w A' B' hky hs' hey hxx' hr' => have := hk (by rw [hky]; simp); rw [hkx] at this; simp at this

/-- Two steps in the other order. -/
theorem SStep.swap {x y : Pt} {rds : List Rd} {s : St} {vx vy : AV} {h1 h2 : Hp} (hap : Apart x.1 y.1) (hne : x.1.op.kind.isA = true → y.1.op.kind.isA = true → x.2 ≠ y.2)
    (hd0 : y.1.op.kind.isA = true → (s.hp.1 y.2).live = false) (hd1 : y.1.op.kind.isA = true → (h1.1 y.2).live = false) (hm : Nat.testBit y.1.mask x.1.idx = false)
    (hx : SStep cf rds x s vx h1) (hy : SStep cf (rdOf x s vx ++ rds) y ⟨putF s.E x.1.op.dst vx, h1⟩ vy h2) :
    ∃ hi, SStep cf rds y s vy hi ∧ SStep cf rds x ⟨putF s.E y.1.op.dst vy, hi⟩ vx h2 ∧ rdOf x ⟨putF s.E y.1.op.dst vy, hi⟩ vx = rdOf x s vx := by
  have hrd : ∀ hi : Hp, rdOf x ⟨putF s.E y.1.op.dst vy, hi⟩ vx = rdOf x s vx := by
    intro hi
    simp only [rdOf, hap.guard', hap.args']
  cases hx with
  | skip hgx =>
    cases hy with
    | skip hgy => exact ⟨_, .skip (by rw [← hap.guard]; exact hgy), .skip (by rw [hap.guard']; exact hgx), hrd _⟩
    | run hgy hey =>
      refine ⟨_, .run (by rw [← hap.guard]; exact hgy) ?_, .skip (by rw [hap.guard']; exact hgx), hrd _⟩
      rw [← hap.args]
      exact hey.sub (fun r hr => List.mem_append_right _ hr)
  | run hgx hex =>
    cases hy with
    | skip hgy =>
      refine ⟨_, .skip (by rw [← hap.guard]; exact hgy), .run (by rw [hap.guard']; exact hgx) ?_, hrd _⟩
      simp only [hap.args']
      exact hex
    | run hgy hey =>
      simp only [hap.args] at hey
      obtain ⟨hi, a1, a2⟩ := HEff.swap hap.kind hne hd0 hd1 hm (fun k hk => by
        apply List.mem_append_left
        simp only [rdOf, hgx, hk]
        exact List.mem_singleton.2 rfl) (fun r hr => List.mem_append_right _ hr) hex hey
      refine ⟨hi, .run (by rw [← hap.guard]; exact hgy) a1, .run (by rw [hap.guard']; exact hgx) ?_, hrd _⟩
      simp only [hap.args']
      exact a2

theorem SStep.dead {p : Pt} {rds : List Rd} {s : St} {v : AV} {hp : Hp} (h : SStep cf rds p s v hp) {j : K} (hj : (s.hp.1 j).live = false) (hne : p.1.op.kind.isA = true → p.2 ≠ j) (hw : p.1.op.kind.isW = false) : (hp.1 j).live = false := by
  cases h with
  | skip => exact hj
  | run hg he =>
    generalize s.hp = q at he hj
    cases he with
    | p => exact hj
    | r => exact hj
    | a hk he => simp only [updH]; rw [if_neg (hne (isA_of hk))]; exact hj
    | w A B hk => rw [hk] at hw; simp at hw

/-- One that nothing ahead of it is ordered ahead of: taken first. -/
theorem SRun.front {y : Pt} {post : List Pt} {t : St} : ∀ {pre : List Pt} {rds : List Rd} {s : St}, SRun cf rds (pre ++ y :: post) s t → DeadAll (pre ++ y :: post) s.hp.1 →
    (∀ x ∈ pre, Apart x.1 y.1) → (∀ x ∈ pre, Nat.testBit y.1.mask x.1.idx = false) → (∀ x ∈ pre ++ post, x.1.op.kind.isA = true → y.1.op.kind.isA = true → y.2 ≠ x.2) →
    ∃ v hi, SStep cf rds y s v hi ∧ DeadAll (pre ++ post) hi.1 ∧ SRun cf rds (pre ++ post) ⟨putF s.E y.1.op.dst v, hi⟩ t
  | [], rds, s, ⟨v, hi, h1, h2, h3⟩, hd, _, _, _ => ⟨v, hi, h1, h2, h3.sub (fun r hr => List.mem_append_right _ hr)⟩
  | x :: pre, rds, s, ⟨vx, hx, h1, h2, h3⟩, hd, hap, hm, hne => by
    obtain ⟨v, hxi, a1, a2, a3⟩ := SRun.front (s := ⟨putF s.E x.1.op.dst vx, hx⟩) h3 h2 (fun z hz => hap z (List.mem_cons_of_mem _ hz)) (fun z hz => hm z (List.mem_cons_of_mem _ hz))
      (fun z hz => hne z (List.mem_cons_of_mem _ hz))
    have hmem : y ∈ pre ++ y :: post := List.mem_append_right _ (List.mem_cons_self ..)
    have hapx := hap x (List.mem_cons_self ..)
    obtain ⟨hi, b1, b2, b3⟩ := SStep.swap hapx (fun ha hb e => hne x (List.mem_cons_self ..) ha hb e.symm) (hd y (List.mem_cons_of_mem _ hmem)) (h2 y hmem) (hm x (List.mem_cons_self ..)) h1 a1
    refine ⟨v, hi, b1, ?_, vx, hxi, b2, a2, ?_⟩
    · intro z hz hA
      have hz0 : z ∈ (x :: pre) ++ y :: post := by
        simp only [List.cons_append, List.mem_cons, List.mem_append] at hz ⊢
        rcases hz with h | h | h
        · exact .inl h
        · exact .inr (.inl h)
        · exact .inr (.inr (.inr h))
      cases hw : y.1.op.kind.isW with
      | false => exact b1.dead (hd z hz0 hA) (fun hy => hne z hz hA hy) hw
      | true =>
        -- what is ahead of a writer is no writer and takes no block
        have hk := hapx.kind (by rw [hw]; simp)
        rw [Bool.or_eq_false_iff] at hk
        rcases List.mem_cons.1 hz with h | h
        · rw [h, hk.1] at hA; simp at hA
        · -- x moved nothing
          have e : hxi.1 = hi.1 := by
            cases b2 with
            | skip => rfl
            | run hg he =>
              generalize hq : (⟨putF s.E y.1.op.dst v, hi⟩ : St).hp = q at he
              have hq' : hi = q := hq
              cases he with
              | p => rw [hq']
              | r => rw [hq']
              | a hk' => rw [isA_of hk'] at hk; simp at hk
              | w A B hk' => rw [hk'] at hk; simp at hk
          rw [← e]
          exact a2 z h hA
    · rw [b3, ← hapx.put]
      exact a3

end
end
end Go.Ax

/- A region that draws: its run in one order, and its states. No condition. -/
set_option linter.unusedVariables false
set_option linter.unusedSimpArgs false
namespace Go.Ax
noncomputable section

/-! ### What the one order's run is -/

mutual
theorem AV.beq_eq : ∀ (a b : AV), AV.beq a b = true → a = b
  | .bool x, b, h => by cases b <;> simp_all [AV.beq]
  | .int k n, b, h => by
    cases b <;> simp_all [AV.beq, eqB_eq]
  | .str n v, b, h => by cases b <;> simp_all [AV.beq]
  | .ptr a o, b, h => by
    cases b <;> simp_all [AV.beq]
    exact K.beq_eq h.1
  | .nilp, b, h => by cases b <;> simp_all [AV.beq]
  | .slice a o e l c x, b, h => by
    cases b <;> simp_all [AV.beq]
    exact K.beq_eq h.1.1.1.1.1
  | .nils, b, h => by cases b <;> simp_all [AV.beq]
  | .map a, b, h => by
    cases b <;> simp_all [AV.beq]
    exact K.beq_eq h
  | .nilm, b, h => by cases b <;> simp_all [AV.beq]
  | .func _ _ _, b, h => by cases b <;> simp_all [AV.beq]
  | .nilf, b, h => by cases b <;> simp_all [AV.beq]
  | .iface t v, b, h => by
    cases b <;> simp_all [AV.beq]
    exact AV.beq_eq _ _ h.2
  | .nili, b, h => by cases b <;> simp_all [AV.beq]
  | .agg l, b, h => by
    cases b <;> simp_all [AV.beq]
    exact AV.beqs_eq _ _ h
  | .tuple l, b, h => by
    cases b <;> simp_all [AV.beq]
    exact AV.beqs_eq _ _ h
theorem AV.beqs_eq : ∀ (a b : List AV), AV.beqs a b = true → a = b
  | [], b, h => by cases b <;> simp_all [AV.beqs]
  | x :: r, b, h => by
    cases b with
    | nil => simp [AV.beqs] at h
    | cons y s =>
      simp only [AV.beqs, Bool.and_eq_true] at h
      rw [AV.beq_eq _ _ h.1, AV.beqs_eq _ _ h.2]
end

theorem recheck_spec {H : AH} {m : Nat} : ∀ {rds : List Rd}, recheck H m rds = true → ∀ rd ∈ rds, Nat.testBit m rd.idx = true ∨ evalR H rd.k rd.args = some rd.v
  | [], _, rd, h => by simp at h
  | r :: l, h, rd, hm => by
    simp only [recheck, Bool.and_eq_true, Bool.or_eq_true] at h
    rcases List.mem_cons.1 hm with rfl | hm
    · refine h.1.imp id ?_
      intro h
      split at h
      · rename_i v hv
        rw [hv, AV.beq_eq _ _ h]
      · simp at h
    · exact recheck_spec h.2 rd hm

def envF (env : Env) : EF := fun k => ev env (.tmp k)

theorem ev_F (env : Env) (x : COpd) : ev env x = evF (envF env) x := by cases x <;> rfl
theorem evs_F (env : Env) : ∀ l : List COpd, evs env l = l.map (evF (envF env))
  | [] => rfl
  | x :: r => by simp only [evs, List.map_cons, evs_F env r, ev_F env x]
theorem gOk_F (env : Env) (g : Option (K × Bool)) : gOk env g = gOkF (envF env) g := by
  cases g with
  | none => rfl
  | some q => rfl
theorem put_F (d : Option K) (v : AV) (env : Env) : envF (putD d v env) = putF (envF env) d v := by
  funext k
  cases d with
  | none => rfl
  | some j =>
    simp only [envF, putD, ev, Tr.get_set, putF, Option.some.injEq]
    by_cases h : j = k <;> simp [h]

theorem get_put_F (H : AH) (id : K) (b : ABlk) (nx : K) : (H.put id b nx).get = updH H.get id b := by
  funext k
  rw [AH.get_put]
  rfl

def withIds : List Ent → K → List Pt
  | [], _ => []
  | e :: r, k => (e, k) :: withIds r (cond e.op.kind.isA k.succ k)

theorem withIds_le : ∀ {l : List Ent} {k : K} {p : Pt}, p ∈ withIds l k → k.toNat ≤ p.2.toNat
  | [], _, _, h => by simp [withIds] at h
  | e :: r, k, p, h => by
    rcases List.mem_cons.1 h with rfl | h
    · exact Nat.le_refl _
    · have := withIds_le h
      cases hA : e.op.kind.isA with
      | false => rw [hA] at this; exact this
      | true =>
        rw [hA] at this
        simp only [cond_true, K.toNat_succ] at this
        omega

theorem reserve_le : ∀ (l : List Ent) (k : K), k.toNat ≤ (reserve l k).toNat
  | [], _ => Nat.le_refl _
  | e :: r, k => by
    simp only [reserve]
    split
    · have := reserve_le r k.succ
      rw [K.toNat_succ] at this
      omega
    · exact reserve_le r k

theorem withIds_lt : ∀ {l : List Ent} {k : K} {p : Pt}, p ∈ withIds l k → p.1.op.kind.isA = true → p.2.toNat < (reserve l k).toNat
  | [], _, _, h, _ => by simp [withIds] at h
  | e :: r, k, p, h, hA => by
    simp only [reserve]
    rcases List.mem_cons.1 h with rfl | h
    · split
      · have := reserve_le r k.succ
        rw [K.toNat_succ] at this
        exact this
      · rename_i hn
        simp only at hA
        cases hk : e.op.kind with
        | a q => exact absurd hk (hn q)
        | _ => rw [hk] at hA; simp [CK.isA] at hA
    · split
      · rename_i q hk
        rw [isA_of hk] at h
        exact withIds_lt h hA
      · rename_i hn
        cases hk : e.op.kind.isA with
        | true =>
          cases hk' : e.op.kind with
          | a q => exact absurd hk' (hn q)
          | _ => rw [hk'] at hk; simp [CK.isA] at hk
        | false => rw [hk] at h; exact withIds_lt h hA

theorem withIds_mem : ∀ {l : List Ent} {k : K} {p : Pt}, p ∈ withIds l k → p.1 ∈ l
  | [], _, _, h => by simp [withIds] at h
  | e :: r, k, p, h => by
    rcases List.mem_cons.1 h with rfl | h
    · exact List.mem_cons_self ..
    · exact List.mem_cons_of_mem _ (withIds_mem h)

theorem mem_withIds : ∀ {l : List Ent} {k : K} {e : Ent}, e ∈ l → ∃ id, (e, id) ∈ withIds l k
  | [], _, _, h => by simp at h
  | x :: r, k, e, h => by
    rcases List.mem_cons.1 h with rfl | h
    · exact ⟨k, List.mem_cons_self ..⟩
    · obtain ⟨id, h⟩ := mem_withIds (k := cond x.op.kind.isA k.succ k) h
      exact ⟨id, List.mem_cons_of_mem _ h⟩

theorem withIds_pair {R : Ent → Ent → Prop} : ∀ {l : List Ent} {k : K}, List.Pairwise R l → List.Pairwise (fun x y : Pt => R x.1 y.1 ∧ (x.1.op.kind.isA = true → y.1.op.kind.isA = true → x.2 ≠ y.2)) (withIds l k)
  | [], _, _ => List.Pairwise.nil
  | e :: r, k, h => by
    rw [List.pairwise_cons] at h
    refine List.Pairwise.cons ?_ (withIds_pair h.2)
    intro y hy
    refine ⟨h.1 _ (withIds_mem hy), fun hA _ e1 => ?_⟩
    simp only at hA e1
    rw [hA] at hy
    have := withIds_le hy
    simp only [cond_true, K.toNat_succ] at this
    rw [e1] at this
    omega

theorem deadFor_spec {H : AH} : ∀ {l : List Ent} {k : K}, deadFor H l k = true → DeadAll (withIds l k) H.get
  | [], _, _ => by intro p hp; simp [withIds] at hp
  | e :: r, k, h => by
    simp only [deadFor] at h
    intro p hp hA
    split at h
    · rename_i q hk
      simp only [Bool.and_eq_true, Bool.not_eq_true'] at h
      simp only [withIds, isA_of hk, cond_true] at hp
      rcases List.mem_cons.1 hp with rfl | hp
      · exact h.1
      · exact deadFor_spec h.2 p hp hA
    · rename_i hn
      have hk : e.op.kind.isA = false := by
        cases hk : e.op.kind with
        | a q => exact absurd hk (hn q)
        | _ => rfl
      simp only [withIds, hk, cond_false] at hp
      rcases List.mem_cons.1 hp with rfl | hp
      · rw [hk] at hA; simp at hA
      · exact deadFor_spec h p hp hA

theorem over_self' (A B : AH) : over A.get A B = B.get := by
  funext k
  simp only [over]
  by_cases h : (A.get k).live = true
  · rw [if_pos h]
  · rw [if_neg h, if_neg h]

/-- THE ONE ORDER'S RUN. -/
theorem runDraw_run {cf : CallF} : ∀ (l : List Ent) (env env' : Env) (H H' : AH) (id : K) (rds : List Rd), runDraw cf l env H id rds = some (env', H') → DeadAll (withIds l id) H.get →
    SRun cf rds (withIds l id) ⟨envF env, (H.get, H.nx)⟩ ⟨envF env', (H'.get, H'.nx)⟩
  | [], env, env', H, H', id, rds, he, _ => by
    simp only [runDraw, Option.some.injEq, Prod.mk.injEq] at he
    obtain ⟨rfl, rfl⟩ := he
    rfl
  | e :: r, env, env', H, H', id, rds, he, hd => by
    simp only [runDraw] at he
    split at he
    · rename_i env1 H1 id1 rds1 hst
      unfold stepD at hst
      have hdt : DeadAll (withIds r (cond e.op.kind.isA id.succ id)) H.get := fun p hp => hd p (List.mem_cons_of_mem _ hp)
      have hgF := gOk_F env e.op.guard
      cases hg : gOk env e.op.guard with
      | false =>
        rw [hg] at hst hgF
        simp only [Option.some.injEq, Prod.mk.injEq] at hst
        obtain ⟨rfl, rfl, rfl, rfl⟩ := hst
        refine ⟨.tuple [], _, .skip hgF.symm, hdt, ?_⟩
        have := runDraw_run r _ _ _ _ _ _ he hdt
        simp only [rdOf, ← hgF, put_F] at this ⊢
        exact this
      | true =>
        rw [hg] at hst hgF
        simp only [evs_F] at hst
        split at hst
        · rename_i k hk
          split at hst
          · rename_i v hv
            simp only [Option.some.injEq, Prod.mk.injEq] at hst
            obtain ⟨rfl, rfl, rfl, rfl⟩ := hst
            have hA : e.op.kind.isA = false := by rw [hk]; rfl
            rw [hA] at hdt
            refine ⟨v, _, .run hgF.symm (.p hk hv), by rw [hA]; exact hdt, ?_⟩
            have := runDraw_run r _ _ _ _ _ _ he hdt
            simp only [rdOf, ← hgF, put_F, hk, withIds, hA, CK.isA] at this ⊢
            exact this
          · simp at hst
        · rename_i k hk
          split at hst
          · rename_i v hv
            simp only [Option.some.injEq, Prod.mk.injEq] at hst
            obtain ⟨rfl, rfl, rfl, rfl⟩ := hst
            have hA : e.op.kind.isA = false := by rw [hk]; rfl
            rw [hA] at hdt
            refine ⟨v, _, .run hgF.symm (.r H hk ⟨fun _ _ => rfl, rfl⟩ hv), by rw [hA]; exact hdt, ?_⟩
            have := runDraw_run r _ _ _ _ _ _ he hdt
            simp only [rdOf, ← hgF, put_F, hk, withIds, hA, CK.isA] at this ⊢
            exact this
          · simp at hst
        · rename_i k hk
          split at hst
          · rename_i blk v hv
            simp only [Option.some.injEq, Prod.mk.injEq] at hst
            obtain ⟨rfl, rfl, rfl, rfl⟩ := hst
            have hA : e.op.kind.isA = true := by rw [hk]; rfl
            rw [hA] at hdt
            simp only [cond_true] at hdt
            have hd1 : DeadAll (withIds r id.succ) (H.put id blk H.nx).get := by
              intro p hp hpA
              rw [AH.get_put, if_neg]
              · exact hdt p hp hpA
              · intro e1
                have := withIds_le hp
                rw [K.toNat_succ, ← e1] at this
                omega
            refine ⟨v, _, .run hgF.symm (.a hk hv), by rw [hA, ← get_put_F H id blk H.nx]; exact hd1, ?_⟩
            have := runDraw_run r _ _ _ _ _ _ he hd1
            simp only [rdOf, ← hgF, put_F, hk, withIds, hA, CK.isA, get_put_F] at this ⊢
            exact this
          · simp at hst
        · rename_i hn1 hn2 hn3
          split at hst
          · rename_i v H2 hv
            cases hc : (recheck H2 e.mask rds && deadFor H2 r id) with
            | false => rw [hc] at hst; simp at hst
            | true =>
              rw [hc] at hst
              simp only [cond_true, Option.some.injEq, Prod.mk.injEq] at hst
              obtain ⟨rfl, rfl, rfl, rfl⟩ := hst
              simp only [Bool.and_eq_true] at hc
              have hA : e.op.kind.isA = false := by
                cases hk : e.op.kind with
                | a q => exact absurd hk (hn3 q)
                | _ => rfl
              have hW : e.op.kind.isW = true := by
                cases hk : e.op.kind with
                | p q => exact absurd hk (hn1 q)
                | r q => exact absurd hk (hn2 q)
                | a q => exact absurd hk (hn3 q)
                | bad => rw [hk] at hv; simp [stepK] at hv
                | _ => rfl
              have hd1 := deadFor_spec hc.2
              have hover := over_self' H H2
              refine ⟨v, (over H.get H H2, H2.nx), .run hgF.symm (.w H H2 hW ⟨fun _ _ => rfl, rfl⟩ hv (fun i h1 h2 => by rw [h1] at h2; simp at h2) (recheck_spec hc.1)), by rw [hA, hover]; exact hd1, ?_⟩
              have := runDraw_run r _ _ _ _ _ _ he hd1
              have hrd : rdOf (e, id) ⟨envF env, (H.get, H.nx)⟩ v = [] := by
                simp only [rdOf, ← hgF]
                cases hk : e.op.kind with
                | r q => exact absurd hk (hn2 q)
                | _ => rfl
              rw [hrd, hover]
              simp only [put_F, withIds, hA] at this ⊢
              exact this
          · simp at hst
    · simp at he

/-! ### Heaps as functions -/

structure SimF (g : G) (h : HF) (nx : K) (w : World) : Prop where
  blk : ∀ id, (h id).live = true → ∃ B O S, g id = some (B, O, S) ∧ BRel g w B O S (h id)
  inj : ∀ id id' B x x', (h id).live = true → (h id').live = true → g id = some (B, x) → g id' = some (B, x') → id = id' ∨ RowsApart (h id) (h id') x x'
  size : ∀ id B x, g id = some (B, x) → B < w.heap.size
  fresh : ∀ id x, g id = some x → id.toNat < nx.toNat

structure StF (g : G) (h : HF) (w : World) (g' : G) (h' : HF) (w' : World) : Prop where
  le : g.le g'
  own : ∀ id B x, (h' id).live = true → g' id = some (B, x) → w.heap.size ≤ B ∨ (∃ id0 x0, (h id0).rw = true ∧ g id0 = some (B, x0)) ∨ ((h id).live = true ∧ h' id = h id ∧ g id = some (B, x))
  frame : ∀ B, B < w.heap.size → (∀ id x, (h id).rw = true → g id ≠ some (B, x)) → w'.heap[B]? = w.heap[B]?
  size : w.heap.size ≤ w'.heap.size
  os : w'.os = w.os
  tape : w'.tape = w.tape
  output : w'.output = w.output

section
variable {g g' g'' : G} {h h' h'' : HF} {nx : K} {w w' w'' : World} {A B H : AH}

theorem Sim.toF (s : Sim g H w) : SimF g H.get H.nx w := ⟨s.blk, s.inj, s.size, s.fresh⟩
theorem SimF.ofF (s : SimF g H.get H.nx w) : Sim g H w := ⟨s.blk, s.inj, s.size, s.fresh⟩

theorem SimF.sub (s : SimF g h nx w) (hs : Sub A h nx) : Sim g A w :=
  ⟨fun id hl => by have := s.blk id (by rw [hs.1 id hl]; exact hl); rw [hs.1 id hl] at this; exact this,
   fun id id' B x x' hl hl' e e' => by have := s.inj id id' B x x' (by rw [hs.1 id hl]; exact hl) (by rw [hs.1 id' hl']; exact hl') e e'; rw [hs.1 id hl, hs.1 id' hl'] at this; exact this,
   s.size, fun id x e => by rw [hs.2]; exact s.fresh id x e⟩

theorem StF.refl (g : G) (h : HF) (w : World) : StF g h w g h w := ⟨.refl g, fun id B x hl e => .inr (.inr ⟨hl, rfl, e⟩), fun _ _ _ => rfl, Nat.le_refl _, rfl, rfl, rfl⟩

theorem StF.trans (a : StF g h w g' h' w') (b : StF g' h' w' g'' h'' w'') : StF g h w g'' h'' w'' := by
  refine ⟨a.le.trans b.le, ?_, ?_, Nat.le_trans a.size b.size, b.os.trans a.os, b.tape.trans a.tape, b.output.trans a.output⟩
  · intro id B O hl hg
    rcases b.own id B O hl hg with h | ⟨i0, O0, hr0, hg0⟩ | ⟨h1, h2, h3⟩
    · exact .inl (Nat.le_trans a.size h)
    · rcases a.own i0 B O0 (ABlk.live_of_rw hr0) hg0 with h | ⟨i1, O1, hr1, hg1⟩ | ⟨h1, h2, h3⟩
      · exact .inl h
      · exact .inr (.inl ⟨i1, O1, hr1, hg1⟩)
      · exact .inr (.inl ⟨i0, O0, by rw [← h2]; exact hr0, h3⟩)
    · rcases a.own id B O h1 h3 with h | ⟨i1, O1, hr1, hg1⟩ | ⟨h4, h5, h6⟩
      · exact .inl h
      · exact .inr (.inl ⟨i1, O1, hr1, hg1⟩)
      · exact .inr (.inr ⟨h4, h2.trans h5, h6⟩)
  · intro B hB hn
    rw [b.frame B (Nat.lt_of_lt_of_le hB a.size) ?_, a.frame B hB hn]
    intro id O hrw hg
    rcases a.own id B O (ABlk.live_of_rw hrw) hg with h | ⟨i1, O1, hr1, hg1⟩ | ⟨h1, h2, h3⟩
    · omega
    · exact hn i1 O1 hr1 hg1
    · exact hn id O (by rw [← h2]; exact hrw) h3

theorem SimF.inj_rw (s : SimF g h nx w) {id id' : K} {B : Nat} {x x' : Nat × Nat} (hl : (h id).live = true) (h' : (h id').rw = true) (e : g id = some (B, x)) (e' : g id' = some (B, x')) : id = id' :=
  (s.inj id id' B x x' hl (ABlk.live_of_rw h') e e').resolve_right (fun a => by have := a.2.1; rw [h'] at this; simp at this)

theorem Step.to0 (s : Step g A w g' B w') : Step0 g A w g' B w' := ⟨s.sim, s.le, s.nx, s.own, s.frame, s.size, s.os, s.tape, s.output⟩

/-- A step of a part is a step of the whole. -/
theorem over_step (s : SimF g h nx w) (hs : Sub A h nx) (hx : ∀ i, (h i).live = true → (A.get i).live = false → (B.get i).live = false) (st : Step0 g A w g' B w') :
    SimF g' (over h A B) B.nx w' ∧ StF g h w g' (over h A B) w' := by
  have cases3 : ∀ id, (over h A B id).live = true → (over h A B id = B.get id ∧ (B.get id).live = true) ∨ (over h A B id = h id ∧ (h id).live = true ∧ (A.get id).live = false) := by
    intro id hl
    simp only [over] at hl ⊢
    by_cases h1 : (A.get id).live = true
    · rw [if_pos h1] at hl ⊢; exact .inl ⟨rfl, hl⟩
    · rw [if_neg h1] at hl ⊢
      by_cases h2 : (h id).live = true
      · rw [if_pos h2] at hl ⊢; exact .inr ⟨rfl, h2, by simpa using h1⟩
      · rw [if_neg h2] at hl ⊢; exact .inl ⟨rfl, hl⟩
  have hAh : ∀ id, (A.get id).live = true → (h id).live = true := fun id hl => by rw [hs.1 id hl]; exact hl
  -- what nobody of the part lies in
  have hfr : ∀ id B0 x, (h id).live = true → (A.get id).live = false → g id = some (B0, x) → w'.heap[B0]? = w.heap[B0]? := by
    intro id B0 x h1 h2 e
    refine st.frame B0 (s.size id B0 x e) ?_
    intro k y hrw e'
    have hlk := ABlk.live_of_rw hrw
    have := (s.inj_rw h1 (by rw [hs.1 k hlk]; exact hrw) e e').symm
    subst this
    rw [hlk] at h2
    simp at h2
  refine ⟨⟨?_, ?_, st.sim.size, st.sim.fresh⟩, ⟨st.le, ?_, ?_, st.size, st.os, st.tape, st.output⟩⟩
  · intro id hl
    rcases cases3 id hl with ⟨e, hB⟩ | ⟨e, h1, h2⟩
    · rw [e]; exact st.sim.blk id hB
    · rw [e]
      obtain ⟨B0, O, S, e1, hb⟩ := s.blk id h1
      exact ⟨B0, O, S, st.le _ _ e1, (hb.of_block (hfr id B0 _ h1 h2 e1)).mono st.le⟩
  · intro id id' B0 x x' hl hl' e e'
    have one : ∀ k k' y y', (h k).live = true → (A.get k).live = false → (B.get k').live = true → g' k = some (B0, y) → g' k' = some (B0, y') → RowsApart (h k) (B.get k') y y' := by
      intro k k' y y' h1 h2 hB e e'
      obtain ⟨b, O, S, e1, _⟩ := s.blk k h1
      have e2 := st.le _ _ e1
      rw [e] at e2
      simp only [Option.some.injEq, Prod.mk.injEq] at e2
      rw [← e2.1, ← e2.2] at e1
      rcases st.own k' B0 y' hB e' with hge | ⟨i0, x0, hrw0, e3⟩ | ⟨h3, h4, h5⟩
      · have := s.size k B0 _ e1
        omega
      · have hl0 := ABlk.live_of_rw hrw0
        have := s.inj_rw h1 (by rw [hs.1 i0 hl0]; exact hrw0) e1 e3
        subst this
        rw [hl0] at h2
        simp at h2
      · rcases s.inj k k' B0 _ _ h1 (hAh k' h3) e1 h5 with h6 | h6
        · subst h6
          rw [h3] at h2
          simp at h2
        · rw [h4, ← hs.1 k' h3]
          exact h6
    have flip : ∀ {b b' : ABlk} {x x' : Nat × Nat}, RowsApart b b' x x' → RowsApart b' b x' x := fun a => ⟨a.2.1, a.1, fun o o' h h' e => a.2.2 o' o h' h e.symm⟩
    rcases cases3 id hl with ⟨ee, hB⟩ | ⟨ee, h1, h2⟩
    · rcases cases3 id' hl' with ⟨ee', hB'⟩ | ⟨ee', h1', h2'⟩
      · rw [ee, ee']; exact st.sim.inj id id' B0 x x' hB hB' e e'
      · rw [ee, ee']; exact .inr (flip (one id' id x' x h1' h2' hB e' e))
    · rcases cases3 id' hl' with ⟨ee', hB'⟩ | ⟨ee', h1', h2'⟩
      · rw [ee, ee']; exact .inr (one id id' x x' h1 h2 hB' e e')
      · obtain ⟨b, O, S, e1, _⟩ := s.blk id h1
        obtain ⟨b', O', S', e1', _⟩ := s.blk id' h1'
        have e2 := st.le _ _ e1
        have e2' := st.le _ _ e1'
        rw [e] at e2
        rw [e'] at e2'
        simp only [Option.some.injEq, Prod.mk.injEq] at e2 e2'
        rw [← e2.1, ← e2.2] at e1
        rw [← e2'.1, ← e2'.2] at e1'
        rw [ee, ee']
        exact s.inj id id' B0 _ _ h1 h1' e1 e1'
  · intro id B0 x hl e
    rcases cases3 id hl with ⟨e0, hB⟩ | ⟨e0, h1, h2⟩
    · rw [e0]
      rcases st.own id B0 x hB e with hge | ⟨i0, x0, hrw0, e3⟩ | ⟨h3, h4, h5⟩
      · exact .inl hge
      · exact .inr (.inl ⟨i0, x0, by rw [hs.1 i0 (ABlk.live_of_rw hrw0)]; exact hrw0, e3⟩)
      · exact .inr (.inr ⟨hAh id h3, by rw [h4, hs.1 id h3], h5⟩)
    · rw [e0]
      obtain ⟨b, O, S, e1, _⟩ := s.blk id h1
      have e2 := st.le _ _ e1
      rw [e] at e2
      simp only [Option.some.injEq, Prod.mk.injEq] at e2
      rw [← e2.1, ← e2.2] at e1
      exact .inr (.inr ⟨h1, rfl, e1⟩)
  · intro B0 hB0 hn
    refine st.frame B0 hB0 (fun id x hrw => ?_)
    have hl := ABlk.live_of_rw hrw
    exact hn id x (by rw [hs.1 id hl]; exact hrw)

theorem over_self (hs : Sub A h nx) : over h A A = h := by
  funext k
  simp only [over]
  by_cases h1 : (A.get k).live = true
  · rw [if_pos h1, hs.1 k h1]
  · rw [if_neg h1]
    by_cases h2 : (h k).live = true
    · rw [if_pos h2]
    · rw [if_neg h2]
      exact (dead_eq (by simpa using h1)).trans (dead_eq (by simpa using h2)).symm

/-- Nothing. -/
def noneH (nx : K) : AH := ⟨.lf, nx⟩

theorem noneH_get (nx k : K) : (noneH nx).get k = .dead := by
  simp only [noneH, AH.get, Tr.get_lf]

theorem noneH_sub (h : HF) (nx : K) : Sub (noneH nx) h nx := ⟨fun id hl => by rw [noneH_get] at hl; simp [ABlk.live] at hl, rfl⟩

end
end
end Go.Ax

/- A region that draws: it is what its one order comes to. No condition. -/
set_option linter.unusedVariables false
set_option linter.unusedSimpArgs false
namespace Go.Ax
noncomputable section

section
variable {C : Ctx} {g : G} {env : Env} {tmps : Array Value} {ds : List Deferred} {nt : Nat} {w : World} {Q : Exit → Act → World → Prop} {cf : CallF}

theorem compKind_a {o : Oper} {k : AK} {xs : List Operand} (h : compKind C o = (.a k, xs)) : compA C.P o = some (k, xs) := by
  unfold compKind at h
  split at h
  · simp at h
  · split at h
    · simp at h
    · split at h
      · rename_i k' ys hc
        simp only [Prod.mk.injEq, CK.a.injEq] at h
        rw [hc, h.1, h.2]
      · split at h
        · simp at h
        · split at h
          · rename_i r hc
            subst h
            unfold compCall at hc
            split at hc
            · split at hc
              · rename_i fn hfn
                split at hc
                · cases hb : (fn.name == "runtime.NumGoroutine") with
                  | true => rw [hb] at hc; simp at hc
                  | false => rw [hb] at hc; simp at hc
                · cases hb : (fn.name == "internal/bytealg.IndexByteString" && (fn.origin == "" || fn.origin == "internal/bytealg.IndexByteString")) with
                  | false => rw [hb] at hc; simp at hc
                  | true => rw [hb] at hc; simp at hc
              · simp at hc
            · simp at hc
            · simp at hc
          · simp at h

/-- ONE STEP of a region that draws. -/
theorem sstep_sound {tab : Tr AFn} (hT : TabOk C tab) (hcf : CallOk C cf) {ops : Array Oper} {i : Nat} {o : Oper} (ho : ops[i]? = some o) {e : Ent} (hop : e.op = compOp C nt ops o) {id : K} {rds : List Rd}
    {s : St} {v : AV} {hp' : Hp} (hst : SStep cf rds (e, id) s v hp') (hG : GOk C.globs g) (hE : ERel g nt env tmps) (hEF : envF env = s.E) (hS : SimF g s.hp.1 s.hp.2 w)
    (hid : e.op.kind.isA = true → g id = none ∧ id.toNat < s.hp.2.toNat) {N : Act → World → Prop}
    (hN : ∀ g' tmps' w', SimF g' hp'.1 hp'.2 w' → StF g s.hp.1 w g' hp'.1 w' → (∀ j, j.toNat < s.hp.2.toNat → g j = none → (e.op.kind.isA = true → j ≠ id) → g' j = none) → s.hp.2.toNat ≤ hp'.2.toNat →
      ERel g' nt (putD e.op.dst v env) tmps' → N ⟨tmps', ds⟩ w') : wpOp C.P ops Q i N ⟨tmps, ds⟩ w := by
  -- by way of a part of the heap
  have via : ∀ A B : AH, Sub A s.hp.1 s.hp.2 → stepOp cf (compOp C nt ops o) env A = some (putD e.op.dst v env, B) → (∀ i, (s.hp.1 i).live = true → (A.get i).live = false → (B.get i).live = false) →
      over s.hp.1 A B = hp'.1 → B.nx = hp'.2 → wpOp C.P ops Q i N ⟨tmps, ds⟩ w := by
    intro A B hs he hx e1 e2
    refine stepOp_sound hT hcf hG hE (hS.sub hs) ho he ?_
    intro g' tmps' w' hstep hE'
    obtain ⟨h1, h2⟩ := over_step hS hs hx hstep.to0
    rw [e1] at h1 h2
    rw [e2] at h1
    refine hN g' tmps' w' h1 h2 (fun j hj hn _ => hstep.old j (by rw [hs.2]; exact hj) hn) ?_ hE'
    rw [← e2, ← hs.2]
    exact hstep.nx
  cases hst with
  | skip hg =>
    have hg' : gOk env (compOp C nt ops o).guard = false := by rw [gOk_F, hEF, ← hop]; exact hg
    refine via (noneH s.hp.2) (noneH s.hp.2) (noneH_sub _ _) ?_ (fun i _ h => h) (over_self (noneH_sub _ _)) rfl
    simp only [stepOp, hg', hop]
  | run hg he =>
    have hg' : gOk env (compOp C nt ops o).guard = true := by rw [gOk_F, hEF, ← hop]; exact hg
    simp only at he
    obtain ⟨E, q⟩ := s
    simp only at hEF he hS hid hN via
    rw [← hEF, ← evs_F, hop] at he
    cases he with
    | @p k v q hk hv =>
      rw [hop] at hk
      refine via _ _ (noneH_sub _ _) ?_ (fun i _ h => h) (over_self (noneH_sub _ _)) rfl
      simp only [stepOp, hg', hk, stepK, hv, hop]
    | r H hk hs hv =>
      rw [hop] at hk
      refine via H H hs ?_ (fun i _ h => h) (over_self hs) hs.2
      simp only [stepOp, hg', hk, stepK, hv, hop]
    | w A B hk hs hv hx hr =>
      rw [hop] at hk hv
      refine via A B hs ?_ hx rfl rfl
      simp only [stepOp, hg', hv, hop]
    | @a k v blk h nx hk hv =>
      have hk0 := hk
      rw [hop] at hk
      have hnb : (compOp C nt ops o).kind ≠ .bad := by rw [hk]; simp
      obtain ⟨xs, as, gd, hkk, hxs, hgd, hlt, e1, e2, e3⟩ := compOp_parts hnb
      have hwant := guard_sound hE hgd
      rw [← e2, hg'] at hwant
      have hvr := evs_sound (ds := ds) hG hE hxs
      rw [e1] at hv
      rw [hk] at hkk
      have hA : e.op.kind.isA = true := isA_of hk0
      obtain ⟨hn, hltid⟩ := hid hA
      have hsub := noneH_sub h nx
      have hd : (h id).live = false := by
        cases hl : (h id).live with
        | false => rfl
        | true => obtain ⟨B, O, S, e, _⟩ := hS.blk id hl; rw [hn] at e; simp at e
      obtain ⟨x, V, w', h1, h2, h3⟩ := compA_sound (hS.sub hsub) (nx' := nx) hn (by rw [noneH_get]; rfl) hltid (Nat.le_refl _) (compKind_a hkk) hvr hv
      obtain ⟨s1, s2⟩ := over_step hS hsub (B := (noneH nx).put id blk nx) (fun j hj _ => by
        rw [AH.get_put, if_neg (fun e => by subst e; rw [hd] at hj; simp at hj), noneH_get]; rfl) h1
      have eo : over h (noneH nx) ((noneH nx).put id blk nx) = updH h id blk := by
        funext j
        have h0 : ((noneH nx).get j).live = false := by rw [noneH_get]; rfl
        by_cases hj : id = j
        · subst hj
          simp [over, h0, hd, AH.get_put, updH]
        · cases hl : (h j).live with
          | true => simp [over, h0, updH, hj, hl]
          | false => simp [over, h0, AH.get_put, updH, hj, noneH_get, hl, dead_eq hl]
      rw [eo] at s1 s2
      unfold wpOp
      rw [ho]
      simp only [hwant, if_true]
      refine .inl ?_
      unfold Oper.wp
      rw [h3]
      simp only [Oper.upon]
      rw [put_eta]
      refine hN _ _ w' s1 s2 (fun j hj hnj hjid => by rw [G.put_ne g x (hjid hA)]; exact hnj) (Nat.le_refl _) ?_
      rw [hop, e3]
      exact put_sound (hE.mono h1.le) h2 hlt

/-! ### What okEnts looks at -/

theorem maskAt_bit {b i : Nat} : ∀ {l : List Ent}, Nat.testBit (maskAt l i) b = true → ∃ e ∈ l, e.idx = i ∧ Nat.testBit e.mask b = true
  | [], h => by simp [maskAt] at h
  | e :: r, h => by
    simp only [maskAt] at h
    cases hb : Nat.beq e.idx i with
    | true =>
      rw [hb] at h
      exact ⟨e, List.mem_cons_self .., Nat.eq_of_beq_eq_true hb, h⟩
    | false =>
      rw [hb] at h
      obtain ⟨e', h1, h2⟩ := maskAt_bit h
      exact ⟨e', List.mem_cons_of_mem _ h1, h2⟩

theorem maskOf_bit {b : Nat} {done : List Ent} : ∀ {l : List Edge}, Nat.testBit (maskOf done l) b = true → ∃ ed ∈ l, Region.binds .any ed = true ∧ (b = ed.on ∨ Nat.testBit (maskAt done ed.on) b = true)
  | [], h => by simp [maskOf] at h
  | e :: r, h => by
    simp only [maskOf] at h
    cases hb : Region.binds .any e with
    | true =>
      rw [hb] at h
      simp only [cond_true] at h
      have h' : Nat.testBit ((2 ^ e.on ||| maskAt done e.on) ||| maskOf done r) b = true := h
      rw [Nat.testBit_or, Nat.testBit_or, Nat.testBit_two_pow] at h'
      simp only [Bool.or_eq_true, decide_eq_true_eq] at h'
      rcases h' with (h | h) | h
      · exact ⟨e, List.mem_cons_self .., hb, .inl h.symm⟩
      · exact ⟨e, List.mem_cons_self .., hb, .inr h⟩
      · obtain ⟨ed, h1, h2⟩ := maskOf_bit h
        exact ⟨ed, List.mem_cons_of_mem _ h1, h2⟩
    | false =>
      rw [hb] at h
      obtain ⟨ed, h1, h2⟩ := maskOf_bit h
      exact ⟨ed, List.mem_cons_of_mem _ h1, h2⟩

theorem hasIdx_iff {i : Nat} : ∀ {l : List Ent}, hasIdx i l = true ↔ ∃ e ∈ l, e.idx = i
  | [] => by simp [hasIdx]
  | e :: r => by
    simp only [hasIdx, Bool.or_eq_true, hasIdx_iff (l := r), Nat.beq_eq, List.mem_cons, exists_eq_or_imp]

theorem allIdx_spec {l : List Ent} : ∀ {n : Nat}, allIdx l n = true → ∀ i, i < n → ∃ e ∈ l, e.idx = i
  | 0, _, i, h => by omega
  | n + 1, h, i, hi => by
    simp only [allIdx, Bool.and_eq_true] at h
    rcases Nat.lt_or_ge i n with h' | h'
    · exact allIdx_spec h.2 i h'
    · have : i = n := by omega
      subst this
      exact hasIdx_iff.1 h.1

theorem predsIn_spec {done : List Ent} : ∀ {l : List Edge}, predsIn done l = true → ∀ ed ∈ l, Region.binds .any ed = true → ∃ e ∈ done, e.idx = ed.on
  | [], _, ed, h, _ => by simp at h
  | x :: r, h, ed, hm, hb => by
    simp only [predsIn, Bool.and_eq_true, Bool.or_eq_true, Bool.not_eq_true'] at h
    rcases List.mem_cons.1 hm with rfl | hm
    · rcases h.1 with h | h
      · rw [hb] at h; simp at h
      · exact hasIdx_iff.1 h
    · exact predsIn_spec h.2 ed hm hb

theorem allNeed_spec {e : Ent} : ∀ {l : List Ent}, allNeed e l = true → ∀ x ∈ l, need x e = true → Nat.testBit e.mask x.idx = true
  | [], _, x, h, _ => by simp at h
  | y :: r, h, x, hm, hn => by
    simp only [allNeed, Bool.and_eq_true, Bool.or_eq_true, Bool.not_eq_true'] at h
    rcases List.mem_cons.1 hm with rfl | hm
    · rcases h.1 with h | h
      · rw [hn] at h; simp at h
      · exact h
    · exact allNeed_spec h.2 x hm hn

/-- x stands ahead of y. -/
structure Ahead (ops : Array Oper) (x y : Ent) : Prop where
  need : need x y = true → Nat.testBit y.mask x.idx = true
  ne : x.idx ≠ y.idx
  back : ∀ o, ops[x.idx]? = some o → ∀ ed ∈ o.after.toList, Region.binds .any ed = true → ed.on ≠ y.idx

structure EntOk (ops : Array Oper) (all : List Ent) (e : Ent) : Prop where
  op : ∃ o, ops[e.idx]? = some o ∧ (∀ b, Nat.testBit e.mask b = true → ∃ ed ∈ o.after.toList, Region.binds .any ed = true ∧ (b = ed.on ∨ ∃ e' ∈ all, e'.idx = ed.on ∧ Nat.testBit e'.mask b = true)) ∧
    (∀ ed ∈ o.after.toList, Region.binds .any ed = true → ed.on ≠ e.idx ∧ ∃ e' ∈ all, e'.idx = ed.on)

theorem okEnts_facts {ops : Array Oper} {all : List Ent} : ∀ (l done : List Ent), okEnts ops l done = true → (∀ e, e ∈ l ∨ e ∈ done → e ∈ all) →
    (∀ e ∈ l, EntOk ops all e) ∧ List.Pairwise (Ahead ops) l ∧ (∀ x ∈ done, ∀ y ∈ l, x.idx ≠ y.idx ∧ (need x y = true → Nat.testBit y.mask x.idx = true)) ∧ ∀ i, i < ops.size → ∃ e, (e ∈ l ∨ e ∈ done) ∧ e.idx = i
  | [], done, h, _ => by
    simp only [okEnts] at h
    refine ⟨fun e he => by simp at he, List.Pairwise.nil, fun x _ y hy => by simp at hy, fun i hi => ?_⟩
    obtain ⟨e, h1, h2⟩ := allIdx_spec h i hi
    exact ⟨e, .inr h1, h2⟩
  | e :: r, done, h, hall => by
    simp only [okEnts, Bool.and_eq_true] at h
    obtain ⟨h1, h2⟩ := h
    split at h1
    · simp at h1
    · rename_i o ho
      simp only [Bool.and_eq_true, Bool.not_eq_true', Nat.beq_eq] at h1
      obtain ⟨⟨⟨hi, hm⟩, hp⟩, hn⟩ := h1
      have hni : ∀ x ∈ done, x.idx ≠ e.idx := fun x hx e1 => by
        have := hasIdx_iff.2 ⟨x, hx, e1⟩
        rw [hi] at this
        simp at this
      obtain ⟨f1, f2, f3, f4⟩ := okEnts_facts (all := all) r (e :: done) h2 (fun x hx => hall x (by
        rcases hx with hx | hx
        · exact .inl (List.mem_cons_of_mem _ hx)
        · rcases List.mem_cons.1 hx with rfl | hx
          · exact .inl (List.mem_cons_self ..)
          · exact .inr hx))
      have hpred := predsIn_spec hp
      refine ⟨?_, ?_, ?_, ?_⟩
      · intro x hx
        rcases List.mem_cons.1 hx with rfl | hx
        · refine ⟨o, ho, fun b hb => ?_, fun ed hed hbd => ?_⟩
          · rw [hm] at hb
            obtain ⟨ed, a1, a2, a3⟩ := maskOf_bit hb
            refine ⟨ed, a1, a2, a3.imp id (fun h => ?_)⟩
            obtain ⟨e', b1, b2, b3⟩ := maskAt_bit h
            exact ⟨e', hall e' (.inr b1), b2, b3⟩
          · obtain ⟨e', b1, b2⟩ := hpred ed hed hbd
            exact ⟨fun e1 => hni e' b1 (b2.trans e1), e', hall e' (.inr b1), b2⟩
        · exact f1 x hx
      · refine List.Pairwise.cons (fun y hy => ?_) f2
        obtain ⟨a1, a2⟩ := f3 e (List.mem_cons_self ..) y hy
        refine ⟨a2, a1, fun o' ho' ed hed hbd e1 => ?_⟩
        rw [ho] at ho'
        simp only [Option.some.injEq] at ho'
        subst ho'
        obtain ⟨e', b1, b2⟩ := hpred ed hed hbd
        exact (f3 e' (List.mem_cons_of_mem _ b1) y hy).1 (b2.trans e1)
      · intro x hx y hy
        rcases List.mem_cons.1 hy with rfl | hy
        · exact ⟨hni x hx, allNeed_spec hn x hx⟩
        · exact f3 x (List.mem_cons_of_mem _ hx) y hy
      · intro i hi
        obtain ⟨e', h1, h2⟩ := f4 i hi
        refine ⟨e', ?_, h2⟩
        rcases h1 with h1 | h1
        · exact .inl (List.mem_cons_of_mem _ h1)
        · rcases List.mem_cons.1 h1 with rfl | h1
          · exact .inl (List.mem_cons_self ..)
          · exact .inr h1

end
end
end Go.Ax


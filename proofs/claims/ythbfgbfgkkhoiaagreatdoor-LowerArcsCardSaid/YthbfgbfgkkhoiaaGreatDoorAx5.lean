/- A region that draws, whole; what a run is worth. No condition. -/
import Derived.Test.YthbfgbfgkkhoiaaGreatDoorAx4
import Derived.LoopN
import Derived.Below
import Derived.LaidLaws
import Derived.FnData
import Derived.OpenShut
import Derived.HandedShaped
import Derived.Handed
set_option linter.unusedVariables false
set_option linter.unusedSimpArgs false
namespace Go.Ax
noncomputable section

section
variable {C : Ctx} {ds : List Deferred} {nt : Nat} {Q : Exit → Act → World → Prop} {cf : CallF}

theorem pairwise_cases {α : Type} {R : α → α → Prop} : ∀ {l : List α}, List.Pairwise R l → ∀ x ∈ l, ∀ y ∈ l, x = y ∨ R x y ∨ R y x
  | [], _, x, hx, _, _ => by simp at hx
  | a :: l, h, x, hx, y, hy => by
    rw [List.pairwise_cons] at h
    rcases List.mem_cons.1 hx with e1 | hx'
    · rcases List.mem_cons.1 hy with e2 | hy'
      · exact .inl (e1.trans e2.symm)
      · exact .inr (.inl (e1 ▸ h.1 y hy'))
    · rcases List.mem_cons.1 hy with e2 | hy'
      · exact .inr (.inr (e2 ▸ h.1 x hx'))
      · exact pairwise_cases h.2 x hx' y hy'

theorem ready_iff {ops : Array Oper} {listed : Array Bool} {i : Nat} : i ∈ Region.ready .any ops listed ↔ i < ops.size ∧ listed.getD i true = false ∧ ∃ o, ops[i]? = some o ∧ ∀ ed ∈ o.after.toList, Region.binds .any ed = true → listed.getD ed.on false = true := by
  unfold Region.ready
  rw [List.mem_filter, List.mem_range]
  simp only [Bool.and_eq_true, Bool.not_eq_true']
  refine and_congr_right fun hi => and_congr_right fun _ => ?_
  cases ho : ops[i]? with
  | none => simp
  | some o =>
    simp only [Option.map_some, Option.getD_some, ← Array.all_toList, List.all_eq_true, Bool.or_eq_true, Bool.not_eq_true', Option.some.injEq, exists_eq_left']
    refine forall_congr' fun ed => forall_congr' fun _ => ?_
    cases Region.binds .any ed <;> simp

/-- Whatever the order. -/
theorem wpAny_run {tab : Tr AFn} (hT : TabOk C tab) (hcf : CallOk C cf) {ops : Array Oper} {ents : List Ent} {full : List Pt} {t : St} {b0 : Nat}
    (hmem : ∀ p ∈ full, p.1 ∈ ents) (hfull : ∀ e ∈ ents, ∃ id, (e, id) ∈ full) (hop : ∀ e ∈ ents, ∀ o, ops[e.idx]? = some o → e.op = compOp C nt ops o) (hok : ∀ e ∈ ents, EntOk ops ents e)
    (hpair : List.Pairwise (fun x y : Pt => Ahead ops x.1 y.1 ∧ (x.1.op.kind.isA = true → y.1.op.kind.isA = true → x.2 ≠ y.2)) full)
    (hevery : ∀ i, i < ops.size → ∃ e ∈ ents, e.idx = i) (hb0 : ∀ p ∈ full, b0 ≤ p.2.toNat) :
    ∀ (fuel : Nat) (l : List Pt) (listed : Array Bool) (s : St) (g : G) (env : Env) (tmps : Array Value) (w : World), l.length ≤ fuel → l.Sublist full → listed.size = ops.size →
      (∀ p ∈ full, p ∈ l ↔ listed.getD p.1.idx true = false) →
      (∀ e ∈ ents, listed.getD e.idx false = true → ∀ b, Nat.testBit e.mask b = true → listed.getD b false = true) →
      SRun cf [] l s t → DeadAll l s.hp.1 → GOk C.globs g → ERel g nt env tmps → envF env = s.E → SimF g s.hp.1 s.hp.2 w → b0 ≤ s.hp.2.toNat →
      (∀ p ∈ l, p.1.op.kind.isA = true → g p.2 = none ∧ p.2.toNat < s.hp.2.toNat) →
      (∀ g' env' tmps' w', SimF g' t.hp.1 t.hp.2 w' → StF g s.hp.1 w g' t.hp.1 w' → (∀ j, j.toNat < b0 → g j = none → g' j = none) → s.hp.2.toNat ≤ t.hp.2.toNat → ERel g' nt env' tmps' → envF env' = t.E → Q .normal ⟨tmps', ds⟩ w') →
      wpAny C.P .any ops Q fuel listed ⟨tmps, ds⟩ w := by
  have getD_tf : ∀ (listed : Array Bool) (i : Nat), listed.getD i true = false → listed.getD i false = false ∧ i < listed.size := by
    intro listed i h
    rw [Array.getD_eq_getD_getElem?] at h ⊢
    cases hx : listed[i]? with
    | none => rw [hx] at h; simp at h
    | some b =>
      rw [hx] at h
      simp only [Option.getD_some] at h ⊢
      exact ⟨h, (Array.getElem?_eq_some_iff.1 hx).1⟩
  have idxLt : ∀ e ∈ ents, e.idx < ops.size := by
    intro e he
    obtain ⟨o, ho, _⟩ := (hok e he).op
    exact (Array.getElem?_eq_some_iff.1 ho).1
  have getD_ft : ∀ (listed : Array Bool) (i : Nat), listed.size = ops.size → i < ops.size → listed.getD i true ≠ false → listed.getD i false = true := by
    intro listed i hsz hi h
    rw [Array.getD_eq_getD_getElem?] at h ⊢
    have hlt : i < listed.size := by omega
    rw [Array.getElem?_eq_getElem hlt] at h ⊢
    simpa using h
  have pairNe : ∀ p ∈ full, ∀ q ∈ full, p.1.idx = q.1.idx → p = q := by
    intro p hp q hq e
    rcases pairwise_cases hpair p hp q hq with h | h | h
    · exact h
    · exact absurd e h.1.ne
    · exact absurd e.symm h.1.ne
  -- when all is listed
  have fin : ∀ (l : List Pt) (listed : Array Bool) (s : St) (g : G) (env : Env) (tmps : Array Value) (w : World), l = [] → SRun cf [] l s t → ERel g nt env tmps → envF env = s.E → SimF g s.hp.1 s.hp.2 w →
      (∀ g' env' tmps' w', SimF g' t.hp.1 t.hp.2 w' → StF g s.hp.1 w g' t.hp.1 w' → (∀ j, j.toNat < b0 → g j = none → g' j = none) → s.hp.2.toNat ≤ t.hp.2.toNat → ERel g' nt env' tmps' → envF env' = t.E → Q .normal ⟨tmps', ds⟩ w') →
      Q .normal ⟨tmps, ds⟩ w := by
    intro l listed s g env tmps w hl hrun hE hEF hS hQ
    subst hl
    have e : s = t := hrun
    subst e
    exact hQ g env tmps w hS (.refl _ _ _) (fun _ _ h => h) (Nat.le_refl _) hE hEF
  intro fuel
  induction fuel with
  | zero =>
    intro l listed s g env tmps w hlen hsub hsz hlist hclosed hrun hdead hG hE hEF hS hb hres hQ
    have hl : l = [] := List.eq_nil_of_length_eq_zero (by omega)
    refine ⟨?_, fin l listed s g env tmps w hl hrun hE hEF hS hQ⟩
    rw [List.eq_nil_iff_forall_not_mem]
    intro i hi
    obtain ⟨h1, h2, _⟩ := ready_iff.1 hi
    obtain ⟨e, he, rfl⟩ := hevery i h1
    obtain ⟨id, hid⟩ := hfull e he
    have := (hlist _ hid).2 h2
    rw [hl] at this
    simp at this
  | succ fuel ih =>
    intro l listed s g env tmps w hlen hsub hsz hlist hclosed hrun hdead hG hE hEF hS hb hres hQ
    refine ⟨fun hnil => fin l listed s g env tmps w ?_ hrun hE hEF hS hQ, fun i hi => ?_⟩
    · -- the first that is left is ready
      cases l with
      | nil => rfl
      | cons p r =>
        exfalso
        have hpf : p ∈ full := hsub.subset (List.mem_cons_self ..)
        have hpe := hmem p hpf
        obtain ⟨o, ho, _, hed⟩ := (hok _ hpe).op
        have hpw := hpair.sublist hsub
        rw [List.pairwise_cons] at hpw
        have : p.1.idx ∈ Region.ready .any ops listed := by
          refine ready_iff.2 ⟨idxLt _ hpe, (hlist p hpf).1 (List.mem_cons_self ..), o, ho, fun ed h1 h2 => ?_⟩
          obtain ⟨n1, e', he', n2⟩ := hed ed h1 h2
          rw [← n2]
          obtain ⟨id', hid'⟩ := hfull e' he'
          refine getD_ft listed _ hsz (idxLt _ he') (fun hun => ?_)
          have hin := (hlist _ hid').2 hun
          rcases List.mem_cons.1 hin with h | h
          · rw [← h] at n1
            exact n1 n2.symm
          · exact (hpw.1 _ h).1.back o ho ed h1 h2 n2.symm
        rw [hnil] at this
        simp at this
    · obtain ⟨h1, h2, o, ho, h3⟩ := ready_iff.1 hi
      obtain ⟨e, he, rfl⟩ := hevery i h1
      obtain ⟨id, hidf⟩ := hfull e he
      have hin := (hlist _ hidf).2 h2
      obtain ⟨pre, post, rfl⟩ := List.append_of_mem hin
      -- what is ordered ahead of it is listed
      have hbits : ∀ b, Nat.testBit e.mask b = true → listed.getD b false = true := by
        intro b hb
        obtain ⟨o', ho', hm, _⟩ := (hok e he).op
        rw [ho] at ho'
        simp only [Option.some.injEq] at ho'
        subst ho'
        obtain ⟨ed, a1, a2, a3⟩ := hm b hb
        have hl := h3 ed a1 a2
        rcases a3 with rfl | ⟨e', b1, b2, b3⟩
        · exact hl
        · rw [← b2] at hl
          exact hclosed e' b1 hl b b3
      have hpw := hpair.sublist hsub
      rw [List.pairwise_append] at hpw
      obtain ⟨hpw1, hpw2, hpw3⟩ := hpw
      rw [List.pairwise_cons] at hpw2
      have hbit0 : ∀ x ∈ pre, Nat.testBit e.mask x.1.idx = false := by
        intro x hx
        cases hb : Nat.testBit e.mask x.1.idx with
        | false => rfl
        | true =>
          have a1 := hbits _ hb
          have a2 := (getD_tf _ _ ((hlist x (hsub.subset (List.mem_append_left _ hx))).1 (List.mem_append_left _ hx))).1
          rw [a1] at a2
          simp at a2
      obtain ⟨v, hi, hst, hd', hrun'⟩ := SRun.front hrun hdead (fun x hx => Apart.of (by
          cases hn : need x.1 e with
          | false => rfl
          | true =>
            have := (hpw3 x hx (e, id) (List.mem_cons_self ..)).1.need hn
            rw [hbit0 x hx] at this
            simp at this)) hbit0 (fun x hx hA hB => by
          rcases List.mem_append.1 hx with hx | hx
          · exact fun e1 => (hpw3 x hx (e, id) (List.mem_cons_self ..)).2 hA hB e1.symm
          · exact (hpw2.1 x hx).2 hB hA)
      have hneq : ∀ p ∈ pre ++ post, p.1.idx ≠ e.idx := by
        intro p hp
        rcases List.mem_append.1 hp with hp | hp
        · exact (hpw3 p hp (e, id) (List.mem_cons_self ..)).1.ne
        · exact fun e1 => (hpw2.1 p hp).1.ne e1.symm
      have hsub' : (pre ++ post).Sublist (pre ++ (e, id) :: post) := List.Sublist.append (List.Sublist.refl _) (List.sublist_cons_self _ _)
      refine sstep_sound hT hcf ho (hop e he o ho) hst hG hE hEF hS (fun hA => hres _ hin hA) ?_
      intro g' tmps' w' hS' hF' hold hnx hE'
      refine ih (pre ++ post) _ ⟨putF s.E e.op.dst v, hi⟩ g' (putD e.op.dst v env) tmps' w' ?_ (hsub'.trans hsub) (by simpa using hsz) ?_ ?_ hrun' hd' (hG.mono hF'.le) hE' (by rw [put_F, hEF]) hS' (Nat.le_trans hb hnx) ?_ ?_
      · simp only [List.length_append, List.length_cons] at hlen ⊢; omega
      · intro p hp
        have hset : (listed.setIfInBounds e.idx true).getD p.1.idx true = if e.idx = p.1.idx then true else listed.getD p.1.idx true := by
          rw [Array.getD_eq_getD_getElem?, Array.getD_eq_getD_getElem?, Array.getElem?_setIfInBounds]
          by_cases h : e.idx = p.1.idx
          · rw [if_pos h, if_pos h]; split <;> rfl
          · rw [if_neg h, if_neg h]
        rw [hset]
        by_cases h : e.idx = p.1.idx
        · rw [if_pos h]
          constructor
          · intro hp'; exact absurd h.symm (hneq p hp')
          · intro h'; simp at h'
        · rw [if_neg h, ← hlist p hp]
          simp only [List.mem_append, List.mem_cons]
          constructor
          · intro h'; exact h'.imp (fun h => h) .inr
          · rintro (h' | rfl | h')
            · exact .inl h'
            · exact absurd rfl h
            · exact .inr h'
      · have hset : ∀ b, (listed.setIfInBounds e.idx true).getD b false = true ↔ (b = e.idx ∨ listed.getD b false = true) := by
          intro b
          rw [Array.getD_eq_getD_getElem?, Array.getD_eq_getD_getElem?, Array.getElem?_setIfInBounds]
          by_cases h : e.idx = b
          · subst h
            rw [if_pos rfl, if_pos (by omega)]
            simp
          · rw [if_neg h]
            constructor
            · exact .inr
            · rintro (h' | h')
              · exact absurd h'.symm h
              · exact h'
        intro e' he' hl b hb
        rw [hset] at hl ⊢
        rcases hl with hl | hl
        · obtain ⟨id', hid'⟩ := hfull e' he'
          have := pairNe (e', id') hid' (e, id) hidf hl
          simp only [Prod.mk.injEq] at this
          rw [this.1] at hb
          exact .inr (hbits b hb)
        · exact .inr (hclosed e' he' hl b hb)
      · intro p hp hA
        obtain ⟨a1, a2⟩ := hres p (hsub'.subset hp) hA
        refine ⟨hold p.2 a2 a1 (fun hAe e1 => ?_), Nat.lt_of_lt_of_le a2 hnx⟩
        rcases List.mem_append.1 hp with hp | hp
        · exact (hpw3 p hp (e, id) (List.mem_cons_self ..)).2 hA hAe e1
        · exact (hpw2.1 p hp).2 hAe hA e1.symm
      · intro g2 env2 tmps2 w2 a1 a2 a3 a4 a5 a6
        refine hQ g2 env2 tmps2 w2 a1 (hF'.trans a2) (fun j hj hn => a3 j hj (hold j (Nat.lt_of_lt_of_le hj hb) hn (fun hA e1 => ?_))) (Nat.le_trans hnx a4) a5 a6
        have := hb0 _ hidf
        rw [e1] at hj
        simp only at this
        omega

/-- A REGION THAT DRAWS. -/
theorem draw_sound {tab : Tr AFn} (hT : TabOk C tab) (hcf : CallOk C cf) {ops : Array Oper} {rid : Nat} {ents0 : List Ent} {g : G} {env env' : Env} {H H' : AH} {tmps : Array Value} {w : World}
    (hok : okEnts ops (entsOf C nt ops ents0) [] = true) (hG : GOk C.globs g) (hE : ERel g nt env tmps) (hS : Sim g H w)
    (he : runDraw cf (entsOf C nt ops ents0) env ⟨H.h, reserve (entsOf C nt ops ents0) H.nx⟩ H.nx [] = some (env', H'))
    (hQ : ∀ g' env2 tmps' w', Step g H w g' H' w' → ERel g' nt env2 tmps' → envF env2 = envF env' → Q .normal ⟨tmps', ds⟩ w') :
    (Code.region rid ops true).wp C.P Q ⟨tmps, ds⟩ w := by
  refine wp_region_any hT.mixed ?_
  generalize hents : entsOf C nt ops ents0 = ents at hok he
  have hopE : ∀ e ∈ ents, ∀ o, ops[e.idx]? = some o → e.op = compOp C nt ops o := by
    intro e hem o ho
    rw [← hents] at hem
    unfold entsOf at hem
    rw [List.mem_map] at hem
    obtain ⟨x, _, rfl⟩ := hem
    simp only [Array.getD_eq_getD_getElem?] at ho ⊢
    rw [ho]
    rfl
  obtain ⟨f1, f2, _, f4⟩ := okEnts_facts (all := ents) ents [] hok (fun e h => by simpa using h)
  let w1 : World := { w with drawn := w.drawn + 1 }
  let H1 : AH := ⟨H.h, reserve ents H.nx⟩
  have hS1 : Sim g H1 w1 := ⟨(hS.of_heap (w' := w1) rfl).blk, (hS.of_heap (w' := w1) rfl).inj, (hS.of_heap (w' := w1) rfl).size, fun id x e => Nat.lt_of_lt_of_le (hS.fresh id x e) (reserve_le ents H.nx)⟩
  have hnone : ∀ id : K, H.nx.toNat ≤ id.toNat → g id = none := by
    intro id hid
    cases hg : g id with
    | none => rfl
    | some x => have := hS.fresh id x hg; omega
  have hdead : DeadAll (withIds ents H.nx) H1.get := by
    intro p hp _
    have := hnone p.2 (withIds_le hp)
    cases hl : (H1.get p.2).live with
    | false => rfl
    | true => obtain ⟨B, O, S, e, _⟩ := hS1.blk _ hl; rw [this] at e; simp at e
  have hrun := runDraw_run ents env env' H1 H' H.nx [] he hdead
  refine wpAny_run (ents := ents) (full := withIds ents H.nx) (b0 := H.nx.toNat) hT hcf (fun p hp => withIds_mem hp) (fun e h => mem_withIds h) hopE f1 (withIds_pair f2)
    (fun i hi => by obtain ⟨e, h1, h2⟩ := f4 i hi; exact ⟨e, by simpa using h1, h2⟩) (fun p hp => withIds_le hp) ops.size (withIds ents H.nx) _ _ g env tmps w1 ?_ (List.Sublist.refl _) (by simp) ?_ ?_ hrun hdead hG hE rfl hS1.toF (reserve_le ents H.nx) ?_ ?_
  · -- no more than there are numbers
    have hlen : ∀ (l : List Ent) (k : K), (withIds l k).length = l.length := by
      intro l
      induction l with
      | nil => intro k; rfl
      | cons e r ih => intro k; simp [withIds, ih]
    rw [hlen]
    have : ∀ (n : Nat) (l : List Ent), List.Pairwise (fun x y : Ent => x.idx ≠ y.idx) l → (∀ e ∈ l, e.idx < n) → l.length ≤ n := by
      intro n
      induction n with
      | zero => intro l _ h; cases l with
        | nil => simp
        | cons a l => have := h a (List.mem_cons_self ..); omega
      | succ n ih =>
        intro l hp hlt
        have h1 := ih (l.filter fun e => e.idx != n) (hp.sublist List.filter_sublist) (fun e he => by
          rw [List.mem_filter] at he
          have := hlt e he.1
          have h2 : e.idx ≠ n := by simpa using he.2
          omega)
        have h2 : l.length ≤ (l.filter fun e => e.idx != n).length + 1 := by
          clear h1 ih hlt
          induction l with
          | nil => simp
          | cons a l ih2 =>
            rw [List.pairwise_cons] at hp
            by_cases ha : a.idx = n
            · have : l.filter (fun e => e.idx != n) = l := by
                rw [List.filter_eq_self]
                intro b hb
                have := hp.1 b hb
                simp only [bne_iff_ne, ne_eq]
                omega
              rw [List.filter_cons_of_neg (by simp [ha]), this]
              simp
            · rw [List.filter_cons_of_pos (by simp [ha])]
              have := ih2 hp.2
              simp only [List.length_cons]
              omega
        omega
    refine this ops.size ents (f2.imp (fun {x y} h => h.ne)) (fun e he => ?_)
    obtain ⟨o, ho, _⟩ := (f1 e he).op
    exact (Array.getElem?_eq_some_iff.1 ho).1
  · intro p hp
    refine ⟨fun _ => ?_, fun _ => hp⟩
    obtain ⟨o, ho, _⟩ := (f1 p.1 (withIds_mem hp)).op
    have := (Array.getElem?_eq_some_iff.1 ho).1
    rw [Array.getD_eq_getD_getElem?, Array.getElem?_replicate, if_pos this]
    rfl
  · intro e _ h
    rw [Array.getD_eq_getD_getElem?, Array.getElem?_replicate] at h
    split at h <;> simp at h
  · intro p hp hA
    exact ⟨hnone p.2 (withIds_le hp), withIds_lt hp hA⟩
  · intro g' env2 tmps' w' a1 a2 a3 a4 a5 a6
    refine hQ g' env2 tmps' w' ⟨a1.ofF, a2.le, Nat.le_trans (reserve_le ents H.nx) a4, a2.own, a2.frame, a2.size, a2.os, a2.tape, a2.output, a3⟩ a5 a6

end
end
end Go.Ax

/- What a run is worth; what a call's run is worth. No condition. -/
set_option linter.unusedVariables false
set_option linter.unusedSimpArgs false
namespace Go.Ax
noncomputable section

section
variable {C : Ctx} {tab : Tr AFn}

theorem ERel.congr {g : G} {nt : Nat} {env env' : Env} {tmps : Array Value} (e : envF env' = envF env) (h : ERel g nt env tmps) : ERel g nt env' tmps :=
  ⟨fun t => by have := congrFun e (K.of t); unfold envF at this; rw [this]; exact h.val t, h.size⟩

def Ex.to : Ex → Exit
  | .nrm => .normal
  | .ret => .ret
  | .exit i => .exit i

/-- What is behind a run, whatever it is asked for. -/
def After (C : Ctx) (nt : Nat) (ds : List Deferred) (g : G) (H : AH) (w : World) (x : Ex) (env' : Env) (H' : AH) (Q : Exit → Act → World → Prop) : Prop :=
  ∀ g' tmps' w', Step g H w g' H' w' → ERel g' nt env' tmps' → Q x.to ⟨tmps', ds⟩ w'

theorem rThen_some {f : Env → AH → R} {r : R} {x : Ex} {env' : Env} {H' : AH} (h : rThen f r = some (x, env', H')) :
    (∃ e1 H1, r = some (.nrm, e1, H1) ∧ f e1 H1 = some (x, env', H')) ∨ (x ≠ .nrm ∧ r = some (x, env', H')) := by
  unfold rThen at h
  split at h
  · exact .inl ⟨_, _, rfl, h⟩
  · simp only [Option.some.injEq, Prod.mk.injEq] at h; obtain ⟨rfl, rfl, rfl⟩ := h; exact .inr ⟨by simp, rfl⟩
  · simp only [Option.some.injEq, Prod.mk.injEq] at h; obtain ⟨rfl, rfl, rfl⟩ := h; exact .inr ⟨by simp, rfl⟩
  · simp at h

/-- What run at one level of fuel is worth. -/
def RunOk (C : Ctx) (tab : Tr AFn) (n : Nat) : Prop :=
  ∀ (nt : Nat) (c : Code) (env env' : Env) (H H' : AH) (x : Ex), run tab n (compC C nt c) env H = some (x, env', H') →
    ∀ (g : G) (tmps : Array Value) (ds : List Deferred) (w : World) (Q : Exit → Act → World → Prop), GOk C.globs g → ERel g nt env tmps → Sim g H w → After C nt ds g H w x env' H' Q → c.wp C.P Q ⟨tmps, ds⟩ w

def LoopOk (C : Ctx) (tab : Tr AFn) (n : Nat) : Prop :=
  ∀ (nt : Nat) (c : Code) (env env' : Env) (H H' : AH) (x : Ex), run tab n (.loop (compC C nt c)) env H = some (x, env', H') →
    ∀ (g : G) (tmps : Array Value) (ds : List Deferred) (w : World) (Q : Exit → Act → World → Prop), GOk C.globs g → ERel g nt env tmps → Sim g H w → After C nt ds g H w x env' H' Q → Code.rounds C.P c Q n ⟨tmps, ds⟩ w

theorem then_of {next : Act → World → Prop} {Q : Exit → Act → World → Prop} {x : Ex} (hx : x ≠ .nrm) {a : Act} {w : World} (h : Q x.to a w) : Exit.then next Q x.to a w := by
  cases x with
  | nrm => exact absurd rfl hx
  | ret => exact h
  | exit i => exact h

def resOne (tmps : Array Value) : ResultVar → Sem Value
  | .tmp t => pure (tmps.getD t undef)
  | .cell a t => do loadVar t (← asAddr (tmps.getD a undef))

theorem results_run {g : G} {H : AH} {w : World} {nt : Nat} {env : Env} {tmps : Array Value} (hS : Sim g H w) (hE : ERel g nt env tmps) : ∀ (rs : List ResultVar) (cr : List CRes) (l : List AV),
    compRes C.P rs = some cr → evalRes env H cr = some l →
    ∃ Vs : List Value, VRels g l Vs ∧ (rs.mapM (resOne tmps)).run C.P w = Result.ok Vs w
  | [], cr, l, hc, he => by
    simp only [compRes, Option.some.injEq] at hc
    subst hc
    simp only [evalRes, Option.some.injEq] at he
    subst he
    exact ⟨[], .nil, rfl⟩
  | .tmp t :: rs, cr, l, hc, he => by
    simp only [compRes] at hc
    split at hc
    · rename_i cr' hcr'
      simp only [Option.some.injEq] at hc
      subst hc
      simp only [evalRes] at he
      split at he
      · rename_i v l' hv hl'
        simp only [Option.some.injEq] at hv he
        subst hv he
        obtain ⟨Vs, h1, h2⟩ := results_run hS hE rs cr' l' hcr' hl'
        exact ⟨_, .cons (hE.val t) h1, by simp only [List.mapM_cons, resOne, Sem.run_bind, Sem.run_pure, Result.andThen_ok, h2]⟩
      · simp at he
    · simp at hc
  | .cell a t :: rs, cr, l, hc, he => by
    simp only [compRes] at hc
    split at hc
    · rename_i n cr' hl hcr'
      simp only [Option.some.injEq] at hc
      subst hc
      simp only [evalRes] at he
      split at he
      · rename_i v l' hv hl'
        simp only [Option.some.injEq] at he
        subst he
        obtain ⟨Vs, h1, h2⟩ := results_run hS hE rs cr' l' hcr' hl'
        split at hv
        · rename_i id o hev
          split at hv
          · rename_i l2 hll
            simp only [Option.some.injEq] at hv
            subst hv
            have hva := hE.val a
            rw [hev] at hva
            have e0 : resOne tmps (.cell a t) = (do loadVar t (← asAddr (tmps.getD a undef))) := rfl
            generalize tmps.getD a undef = X at hva e0
            cases hva with | ptr hg =>
            obtain ⟨B', O', S', Vs', hg', hr, hlen, hcc⟩ := loadN_run (P := C.P) hS hll
            rw [hg] at hg'
            simp only [Option.some.injEq, Prod.mk.injEq] at hg'
            obtain ⟨rfl, rfl, rfl⟩ := hg'
            have e1 : (resOne tmps (.cell a t)).run C.P w = .ok (.agg Vs'.toArray) w := by rw [e0]; simp [asAddr, loadVar, (lay_run hl w).1, (lay_run hl w).2, hcc]
            exact ⟨_, .cons (.agg (C := Vs'.toArray) hr) h1, by simp only [List.mapM_cons, Sem.run_bind, e1, Result.andThen_ok, h2, Sem.run_pure]⟩
          · simp at hv
        · simp at hv
      · simp at he
    · rename_i n cr' hl hcr'
      simp only [Option.some.injEq] at hc
      subst hc
      simp only [evalRes] at he
      split at he
      · rename_i v l' hv hl'
        simp only [Option.some.injEq] at he
        subst he
        obtain ⟨Vs, h1, h2⟩ := results_run hS hE rs cr' l' hcr' hl'
        split at hv
        · rename_i id o hev
          have hva := hE.val a
          rw [hev] at hva
          have e0 : resOne tmps (.cell a t) = (do loadVar t (← asAddr (tmps.getD a undef))) := rfl
          generalize tmps.getD a undef = X at hva e0
          cases hva with | ptr hg =>
          obtain ⟨B', O', S', V, hg', hr, hcc⟩ := load1_sound hS hv
          rw [hg] at hg'
          simp only [Option.some.injEq, Prod.mk.injEq] at hg'
          obtain ⟨rfl, rfl, rfl⟩ := hg'
          have e1 : (resOne tmps (.cell a t)).run C.P w = .ok V w := by rw [e0]; simp [asAddr, loadVar, (lay_run hl w).1, hcc]
          exact ⟨_, .cons hr h1, by simp only [List.mapM_cons, Sem.run_bind, e1, Result.andThen_ok, h2, Sem.run_pure]⟩
        · simp at hv
      · simp at he
    · simp at hc

theorem VRels.at' {g : G} : ∀ {l : List AV} {Vs : List Value}, VRels g l Vs → ∀ i : Nat, (∃ (v : AV) (V : Value), l[i]? = some v ∧ Vs[i]? = some V ∧ VRel g v V) ∨ (l[i]? = none ∧ Vs[i]? = none)
  | _, _, .nil, i => .inr ⟨by simp, by simp⟩
  | _, _, .cons h t, 0 => .inl ⟨_, _, rfl, rfl, h⟩
  | _, _, .cons h t, i + 1 => by simpa using VRels.at' t i

theorem args_rel {g : G} {args : List AV} {Args : Array Value} {fn' : Func} (hA : VRels g args Args.toList) : ERel g fn'.ntmps (Tr.setFrom 0 args .lf) (Args ++ Array.replicate (fn'.ntmps - Args.size) undef) := by
  refine ⟨fun t => ?_, by simp; omega⟩
  simp only [ev, Tr.get_setFrom]
  rw [Array.getD_eq_getD_getElem?]
  rcases VRels.at' hA t with ⟨u, U, h1, h2, h3⟩ | ⟨h1, h2⟩
  · have hlt : t < args.length := by
      rcases Nat.lt_or_ge t args.length with h | h
      · exact h
      · rw [List.getElem?_eq_none h] at h1; simp at h1
    rw [if_pos ⟨Nat.zero_le _, by omega⟩, Nat.sub_zero, h1]
    rw [Array.getElem?_toList] at h2
    have h2' := (Array.getElem?_eq_some_iff.1 h2)
    rw [Array.getElem?_append_left h2'.1, h2]
    exact h3
  · have hge : args.length ≤ t := List.getElem?_eq_none_iff.1 h1
    rw [if_neg (by omega), Tr.get_lf]
    rw [Array.getElem?_toList] at h2
    have hge' := Array.getElem?_eq_none_iff.1 h2
    rw [Array.getElem?_append_right hge', Array.getElem?_replicate]
    have e0 : (if t - Args.size < fn'.ntmps - Args.size then some undef else none).getD undef = undef := by split <;> rfl
    rw [e0]
    exact .tuple .nil

theorem results_all {g : G} {H : AH} {w : World} {env : Env} {tmps : Array Value} {fn' : Func} (hS : Sim g H w) (hE : ERel g fn'.ntmps env tmps) {r : List CRes} {l : List AV}
    (hres : compRes C.P fn'.results.toList = some r) (hl : evalRes env H r = some l) : ∃ V, (results fn' tmps).run C.P w = .ok V w ∧ VRel g (ofVals l) V := by
  obtain ⟨Vs, h1, h2⟩ := results_run (C := C) hS hE fn'.results.toList r l hres hl
  refine ⟨(if h : Vs.toArray.size = 1 then Vs.toArray[0] else .tuple Vs.toArray), ?_, ?_⟩
  · have e0 : results fn' tmps = (do
        let vs ← fn'.results.mapM (resOne tmps)
        pure (if h : vs.size = 1 then vs[0] else .tuple vs)) := by
      unfold results
      congr 1
    rw [e0, ← Array.toArray_toList (xs := fn'.results), List.mapM_toArray]
    simp only [Sem.run_bind, map_eq_pure_bind, h2, Result.andThen_ok, Sem.run_pure]
  · cases h1 with
    | nil => exact .tuple .nil
    | cons ha ht =>
      cases ht with
      | nil => exact ha
      | cons hb ht' => exact .tuple (.cons ha (.cons hb ht'))

/-- A CALL. -/
theorem callAt_ok (hT : TabOk C tab) {n : Nat} (hr : RunOk C tab n) : CallOk C (callAt (run tab n) tab) := by
  intro f args H v H' he g w Args hG hA hS
  unfold callAt at he
  split at he
  · simp at he
  · rename_i fn htab
    obtain ⟨fn', c, r, hf, hb, hres, rfl, hnm⟩ := hT.fn f fn htab
    refine ⟨⟨fn', c, hf, hb, hnm⟩, ?_⟩
    simp only at he
    have key : ∀ (x : Ex) (env : Env), run tab n (compC C fn'.ntmps c) (Tr.setFrom 0 args .lf) H = some (x, env, H') → (∀ i, x ≠ .exit i) → ∀ l, evalRes env H' r = some l → v = ofVals l →
        Calls C.P (f.toNat - 1) Args w fun e w' => ∃ g' V, e = .returned V ∧ Step g H w g' H' w' ∧ VRel g' v V := by
      intro x env hrun hx l hl hv
      refine calls_of_wp hf hb (hr fn'.ntmps c _ _ _ _ _ hrun g _ [] w _ hG ?_ hS ?_)
      · exact args_rel hA
      · intro g' tmps' w' hstep hE'
        obtain ⟨V, hres', hval⟩ := results_all (C := C) (fn' := fn') hstep.sim hE' hres hl
        rw [← hv] at hval
        cases x with
        | nrm => exact ⟨rfl, _, hres', g', _, rfl, hstep, hval⟩
        | ret => exact ⟨rfl, _, hres', g', _, rfl, hstep, hval⟩
        | exit i => exact absurd rfl (hx i)
    split at he
    · simp at he
    · rename_i x env H2 hrun hx
      split at he
      · rename_i l hl
        simp only [Option.some.injEq, Prod.mk.injEq] at he
        obtain ⟨rfl, rfl⟩ := he
        exact key _ env hx (fun i e => hrun i e) l hl rfl
      · simp at he
    · simp at he

/-- ALL RUNS. -/
theorem run_ok (hT : TabOk C tab) : ∀ n, RunOk C tab n ∧ LoopOk C tab n
  | 0 => ⟨fun nt c env env' H H' x h => by simp [run] at h, fun nt c env env' H H' x h => by simp [run] at h⟩
  | n + 1 => by
    obtain ⟨ih, ihl⟩ := run_ok hT n
    have hcf := callAt_ok hT ih
    have loop : LoopOk C tab (n + 1) := by
      intro nt c env env' H H' x he g tmps ds w Q hG hE hS hQ
      have he' : rThen (run tab n (.loop (compC C nt c))) (run tab n (compC C nt c) env H) = some (x, env', H') := he
      show c.wp C.P (Exit.then (Code.rounds C.P c Q n) Q) ⟨tmps, ds⟩ w
      rcases rThen_some he' with ⟨e1, H1, h1, h2⟩ | ⟨hx, h1⟩
      · refine ih nt c _ _ _ _ _ h1 g tmps ds w _ hG hE hS ?_
        intro g1 tmps1 w1 hs1 hE1
        refine ihl nt c _ _ _ _ _ h2 g1 tmps1 ds w1 Q (hG.mono hs1.le) hE1 hs1.sim ?_
        intro g2 tmps2 w2 hs2 hE2
        exact hQ g2 tmps2 w2 (hs1.trans hs2) hE2
      · refine ih nt c _ _ _ _ _ h1 g tmps ds w _ hG hE hS ?_
        intro g1 tmps1 w1 hs1 hE1
        exact then_of hx (hQ g1 tmps1 w1 hs1 hE1)
    refine ⟨?_, loop⟩
    intro nt c env env' H H' x he g tmps ds w Q hG hE hS hQ
    have he' : runBody (run tab n) tab (compC C nt c) env H = some (x, env', H') := he
    cases c with
    | skip =>
      simp only [compC, runBody, Option.some.injEq, Prod.mk.injEq] at he'
      obtain ⟨rfl, rfl, rfl⟩ := he'
      exact wp_skip (hQ g tmps w (.refl hS) hE)
    | region id ops draws =>
      cases draws with
      | false =>
        simp only [compC, runBody] at he'
        unfold rOps at he'
        split at he'
        · rename_i e1 H1 hr
          simp only [Option.some.injEq, Prod.mk.injEq] at he'
          obtain ⟨rfl, rfl, rfl⟩ := he'
          refine wp_region ?_
          rw [List.range_eq_range']
          refine runOps_sound hT hcf (N := Q .normal) (fun _ _ => rfl) ops.size 0 ops.toList g env H tmps w (by simp) (fun k hk => by simp) hG hE hS hr ?_
          intro g' tmps' w' hs hE'
          exact hQ g' tmps' w' hs hE'
        · simp at he'
      | true =>
        simp only [compC] at he'
        cases hok : okEnts ops (entsOf C nt ops (mkEnts C nt ops)) [] with
        | false => rw [hok] at he'; simp [runBody] at he'
        | true =>
          rw [hok] at he'
          simp only [cond_true, runBody] at he'
          unfold rOps at he'
          split at he'
          · rename_i e1 H1 hr
            simp only [Option.some.injEq, Prod.mk.injEq] at he'
            obtain ⟨rfl, rfl, rfl⟩ := he'
            refine draw_sound hT hcf hok hG hE hS hr ?_
            intro g' env2 tmps' w' hs hE' e
            exact hQ g' tmps' w' hs (hE'.congr e.symm)
          · simp at he'
    | seq a b =>
      simp only [compC, runBody] at he'
      refine wp_seq ?_
      rcases rThen_some he' with ⟨e1, H1, h1, h2⟩ | ⟨hx, h1⟩
      · refine ih nt a _ _ _ _ _ h1 g tmps ds w _ hG hE hS ?_
        intro g1 tmps1 w1 hs1 hE1
        refine ih nt b _ _ _ _ _ h2 g1 tmps1 ds w1 Q (hG.mono hs1.le) hE1 hs1.sim ?_
        intro g2 tmps2 w2 hs2 hE2
        exact hQ g2 tmps2 w2 (hs1.trans hs2) hE2
      · refine ih nt a _ _ _ _ _ h1 g tmps ds w _ hG hE hS ?_
        intro g1 tmps1 w1 hs1 hE1
        exact then_of hx (hQ g1 tmps1 w1 hs1 hE1)
    | cond o a b =>
      simp only [compC] at he'
      split at he'
      · rename_i y hy
        simp only [runBody] at he'
        have hv := ev_sound (ds := ds) hG hE hy
        unfold rCond at he'
        split at he'
        · rename_i hb
          rw [hb] at hv
          exact wp_cond_true ((bool_iff hv true).2 rfl) (ih nt a _ _ _ _ _ he' g tmps ds w Q hG hE hS hQ)
        · rename_i hb
          rw [hb] at hv
          exact wp_cond_false ((bool_iff hv false).2 rfl) (ih nt b _ _ _ _ _ he' g tmps ds w Q hG hE hS hQ)
        · simp at he'
      · simp [runBody] at he'
    | block id b =>
      simp only [compC, runBody] at he'
      refine wp_block ?_
      unfold rBlock at he'
      split at he'
      · rename_i j e1 H1 hr
        refine ih nt b _ _ _ _ _ hr g tmps ds w _ hG hE hS ?_
        intro g1 tmps1 w1 hs1 hE1
        cases hj : Nat.beq j id with
        | true =>
          rw [hj] at he'
          simp only [cond_true, Option.some.injEq, Prod.mk.injEq] at he'
          obtain ⟨rfl, rfl, rfl⟩ := he'
          show (if j = id then _ else _)
          rw [if_pos (Nat.eq_of_beq_eq_true hj)]
          exact hQ g1 tmps1 w1 hs1 hE1
        | false =>
          rw [hj] at he'
          simp only [cond_false, Option.some.injEq, Prod.mk.injEq] at he'
          obtain ⟨rfl, rfl, rfl⟩ := he'
          show (if j = id then _ else _)
          rw [if_neg (Nat.ne_of_beq_eq_false hj)]
          exact hQ g1 tmps1 w1 hs1 hE1
      · rename_i e1 H1 hr
        simp only [Option.some.injEq, Prod.mk.injEq] at he'
        obtain ⟨rfl, rfl, rfl⟩ := he'
        exact ih nt b _ _ _ _ _ hr g tmps ds w _ hG hE hS (fun g1 tmps1 w1 hs1 hE1 => hQ g1 tmps1 w1 hs1 hE1)
      · rename_i e1 H1 hr
        simp only [Option.some.injEq, Prod.mk.injEq] at he'
        obtain ⟨rfl, rfl, rfl⟩ := he'
        exact ih nt b _ _ _ _ _ hr g tmps ds w _ hG hE hS (fun g1 tmps1 w1 hs1 hE1 => hQ g1 tmps1 w1 hs1 hE1)
      · simp at he'
    | loop b => exact wp_loop_rounds (n + 1) (loop nt b env env' H H' x he g tmps ds w Q hG hE hS hQ)
    | exit id =>
      simp only [compC, runBody, Option.some.injEq, Prod.mk.injEq] at he'
      obtain ⟨rfl, rfl, rfl⟩ := he'
      exact wp_exit (hQ g tmps w (.refl hS) hE)
    | ret =>
      simp only [compC, runBody, Option.some.injEq, Prod.mk.injEq] at he'
      obtain ⟨rfl, rfl, rfl⟩ := he'
      exact wp_ret (hQ g tmps w (.refl hS) hE)
    | _ => simp [compC, runBody] at he'

/-- A CALL's RUN, at any fuel. -/
theorem call_ok (hT : TabOk C tab) (n : Nat) : CallOk C (call tab n) := callAt_ok hT (run_ok hT n).1

end
end
end Go.Ax

/- The executor's fast layer: code as functions. No condition. -/
set_option linter.unusedVariables false
set_option linter.unusedSimpArgs false
namespace Go.Ax
noncomputable section
noncomputable section

/-! ### What a run comes to -/

inductive FR where
  | no
  | nrm (e : Env) (h : AH)
  | ret (e : Env) (h : AH)
  | ext (i : Nat) (e : Env) (h : AH)

def FR.of : Ex → Env → AH → FR
  | .nrm, e, h => .nrm e h
  | .ret, e, h => .ret e h
  | .exit i, e, h => .ext i e h

abbrev FV := Env → AV
abbrev FK := Env → AH → FR
abbrev FStep := CallF → FK → FK
abbrev FC := CallF → FK

def FR.then (r : FR) : FK → FR :=
  FR.rec (motive := fun _ => FK → FR) (fun _ => .no) (fun e h f => f e h) (fun e h _ => .ret e h) (fun i e h _ => .ext i e h) r

def FR.block (r : FR) : Nat → FR :=
  FR.rec (motive := fun _ => Nat → FR) (fun _ => .no) (fun e h _ => .nrm e h) (fun e h _ => .ret e h) (fun i e h id => cond (Nat.beq i id) (.nrm e h) (.ext i e h)) r

/-! ### Operands -/

def tO (k : K) : FV := fun env => Option.rec (motive := fun _ => AV) (.tuple []) (fun v => v) (env.get k)
def cO (v : AV) : FV := fun _ => v
def gO (id : K) : FV := fun _ => .ptr id 0
def fO (f : Nat) : FV := fun _ => .func (.func f) [] []

def trO : COpd → FV
  | .tmp k => tO k
  | .const v => cO v
  | .glob id => gO id
  | .func f => fO f

def evL (l : List FV) : Env → List AV :=
  List.rec (motive := fun _ => Env → List AV) (fun _ => []) (fun x _ ih env => x env :: ih env) l

theorem trO_eq (x : COpd) (env : Env) : trO x env = ev env x := by
  cases x with
  | tmp k => simp only [trO, tO, ev]; cases env.get k <;> rfl
  | _ => rfl

theorem evL_eq (env : Env) : ∀ l : List COpd, evL (l.map trO) env = evs env l
  | [] => rfl
  | x :: r => by
    have := evL_eq env r
    simp only [List.map_cons, evL, evs] at this ⊢
    rw [trO_eq, this]

/-! ### Values taken apart -/

def intE (v : AV) : (IntKind → Int → Option AV) → Option AV :=
  AV.rec (motive_1 := fun _ => (IntKind → Int → Option AV) → Option AV) (motive_2 := fun _ => PUnit)
    (fun _ _ => none) (fun k n f => f k n) (fun _ _ _ => none) (fun _ _ _ => none) (fun _ => none) (fun _ _ _ _ _ _ _ => none) (fun _ => none) (fun _ _ => none) (fun _ => none)
    (fun _ _ _ _ _ _ => none) (fun _ => none) (fun _ _ _ _ => none) (fun _ => none) (fun _ _ _ => none) (fun _ _ _ => none) PUnit.unit (fun _ _ _ _ => PUnit.unit) v

def boolE (v : AV) : (Bool → Option AV) → Option AV :=
  AV.rec (motive_1 := fun _ => (Bool → Option AV) → Option AV) (motive_2 := fun _ => PUnit)
    (fun b f => f b) (fun _ _ _ => none) (fun _ _ _ => none) (fun _ _ _ => none) (fun _ => none) (fun _ _ _ _ _ _ _ => none) (fun _ => none) (fun _ _ => none) (fun _ => none)
    (fun _ _ _ _ _ _ => none) (fun _ => none) (fun _ _ _ _ => none) (fun _ => none) (fun _ _ _ => none) (fun _ _ _ => none) PUnit.unit (fun _ _ _ _ => PUnit.unit) v

def ptrE (v : AV) : (K → Nat → Option AV) → Option AV :=
  AV.rec (motive_1 := fun _ => (K → Nat → Option AV) → Option AV) (motive_2 := fun _ => PUnit)
    (fun _ _ => none) (fun _ _ _ => none) (fun _ _ _ => none) (fun k n f => f k n) (fun _ => none) (fun _ _ _ _ _ _ _ => none) (fun _ => none) (fun _ _ => none) (fun _ => none)
    (fun _ _ _ _ _ _ => none) (fun _ => none) (fun _ _ _ _ => none) (fun _ => none) (fun _ _ _ => none) (fun _ _ _ => none) PUnit.unit (fun _ _ _ _ => PUnit.unit) v

def strE (v : AV) : (Nat → Nat → Option AV) → Option AV :=
  AV.rec (motive_1 := fun _ => (Nat → Nat → Option AV) → Option AV) (motive_2 := fun _ => PUnit)
    (fun _ _ => none) (fun _ _ _ => none) (fun n v f => f n v) (fun _ _ _ => none) (fun _ => none) (fun _ _ _ _ _ _ _ => none) (fun _ => none) (fun _ _ => none) (fun _ => none)
    (fun _ _ _ _ _ _ => none) (fun _ => none) (fun _ _ _ _ => none) (fun _ => none) (fun _ _ _ => none) (fun _ _ _ => none) PUnit.unit (fun _ _ _ _ => PUnit.unit) v

def boolR (v : AV) : FR → FR → FR :=
  AV.rec (motive_1 := fun _ => FR → FR → FR) (motive_2 := fun _ => PUnit)
    (fun b x y => Bool.rec y x b) (fun _ _ _ _ => .no) (fun _ _ _ _ => .no) (fun _ _ _ _ => .no) (fun _ _ => .no) (fun _ _ _ _ _ _ _ _ => .no) (fun _ _ => .no) (fun _ _ _ => .no) (fun _ _ => .no)
    (fun _ _ _ _ _ _ _ => .no) (fun _ _ => .no) (fun _ _ _ _ _ => .no) (fun _ _ => .no) (fun _ _ _ _ => .no) (fun _ _ _ _ => .no) PUnit.unit (fun _ _ _ _ => PUnit.unit) v

/-- A guard's value: is it this one? -/
def boolG (v : AV) : Bool → Bool :=
  AV.rec (motive_1 := fun _ => Bool → Bool) (motive_2 := fun _ => PUnit)
    (fun b c => Bool.rec (cond c false true) c b) (fun _ _ _ => false) (fun _ _ _ => false) (fun _ _ _ => false) (fun _ => false) (fun _ _ _ _ _ _ _ => false) (fun _ => false) (fun _ _ => false) (fun _ => false)
    (fun _ _ _ _ _ _ => false) (fun _ => false) (fun _ _ _ _ => false) (fun _ => false) (fun _ _ _ => false) (fun _ _ _ => false) PUnit.unit (fun _ _ _ _ => PUnit.unit) v

def kIdx (k : IntKind) : Nat := IntKind.rec 0 1 2 3 4 5 6 7 k
def kEq (a b : IntKind) : Bool := Nat.beq (kIdx a) (kIdx b)
theorem kEq_eq (a b : IntKind) : decide (a = b) = kEq a b := by cases a <;> cases b <;> rfl

def gAdd (k : IntKind) (a : Int) (k' : IntKind) (b : Int) : Option AV := cond (kEq k k') (some (.int k (wrapF k (Int.add a b)))) none
def gSub (k : IntKind) (a : Int) (k' : IntKind) (b : Int) : Option AV := cond (kEq k k') (some (.int k (wrapF k (Int.sub a b)))) none
def gMul (k : IntKind) (a : Int) (k' : IntKind) (b : Int) : Option AV := cond (kEq k k') (some (.int k (wrapF k (Int.mul a b)))) none
def gEql (k : IntKind) (a : Int) (k' : IntKind) (b : Int) : Option AV := cond (kEq k k') (some (.bool (eqB a b))) none
def gNeq (k : IntKind) (a : Int) (k' : IntKind) (b : Int) : Option AV := cond (kEq k k') (some (.bool (!(eqB a b)))) none
def gLss (k : IntKind) (a : Int) (k' : IntKind) (b : Int) : Option AV := cond (kEq k k') (some (.bool (ltB a b))) none
def gLeq (k : IntKind) (a : Int) (k' : IntKind) (b : Int) : Option AV := cond (kEq k k') (some (.bool (leB a b))) none
def gGtr (k : IntKind) (a : Int) (k' : IntKind) (b : Int) : Option AV := cond (kEq k k') (some (.bool (ltB b a))) none
def gGeq (k : IntKind) (a : Int) (k' : IntKind) (b : Int) : Option AV := cond (kEq k k') (some (.bool (leB b a))) none

/-- Whole numbers apart: both not negative. -/
def natNat (a b : Int) (f : Nat → Nat → Option AV) (d : Option AV) : Option AV := Int.rec (fun n => Int.rec (fun m => f n m) (fun _ => d) b) (fun _ => d) a

def tmodF (a b : Int) : Int := Int.rec (fun n => Int.rec (fun m => .ofNat (Nat.mod n m)) (fun m => Int.tmod a (.negSucc m)) b) (fun n => Int.tmod (.negSucc n) b) a
theorem tmodF_eq (a b : Int) : tmodF a b = Int.tmod a b := by cases a <;> cases b <;> rfl

def isZ (b : Int) : Bool := Int.rec (fun n => Nat.beq n 0) (fun _ => false) b
theorem isZ_eq (b : Int) : isZ b = decide (b = 0) := by
  cases b with
  | ofNat n =>
    cases n with
    | zero => rfl
    | succ n => rw [decide_eq_false (by simp; omega)]; rfl
  | negSucc n => simp [isZ]

def gRem (k : IntKind) (a : Int) (k' : IntKind) (b : Int) : Option AV := cond (kEq k k') (cond (isZ b) none (some (.int k (tmodF a b)))) none
theorem gRem_eq (k : IntKind) (a : Int) (k' : IntKind) (b : Int) : gRem k a k' b = intBin .rem k a k' b := by
  simp only [gRem, intBin, ← kEq_eq, isZ_eq, Go.binOp]
  by_cases hk : k = k'
  · subst hk
    simp only [decide_true, cond_true, ne_eq, not_true_eq_false, if_false, Go.Op.intDiv]
    by_cases hb : b = 0
    · subst hb; rfl
    · simp only [hb, decide_false, cond_false, if_false, tmodF_eq]; rfl
  · simp only [hk, decide_false, cond_false, ne_eq, not_false_eq_true, if_true]; rfl

def tdivF (a b : Int) : Int := Int.rec (fun n => Int.rec (fun m => .ofNat (Nat.div n m)) (fun m => Int.tdiv a (.negSucc m)) b) (fun n => Int.tdiv (.negSucc n) b) a
theorem tdivF_eq (a b : Int) : tdivF a b = Int.tdiv a b := by cases a <;> cases b <;> rfl

def gQuo (k : IntKind) (a : Int) (k' : IntKind) (b : Int) : Option AV := cond (kEq k k') (cond (isZ b) none (some (.int k (wrapF k (tdivF a b))))) none
theorem gQuo_eq (k : IntKind) (a : Int) (k' : IntKind) (b : Int) : gQuo k a k' b = intBin .quo k a k' b := by
  simp only [gQuo, intBin, ← kEq_eq, isZ_eq, Go.binOp]
  by_cases hk : k = k'
  · subst hk
    simp only [decide_true, cond_true, ne_eq, not_true_eq_false, if_false, Go.Op.intDiv]
    by_cases hb : b = 0
    · subst hb; rfl
    · simp only [hb, decide_false, cond_false, if_false, tdivF_eq, wrapF_eq]; rfl
  · simp only [hk, decide_false, cond_false, ne_eq, not_false_eq_true, if_true]; rfl

/-- How many bits, as a power. -/
def pow2 (k : IntKind) : Nat := IntKind.rec 256 65536 4294967296 18446744073709551616 256 65536 4294967296 18446744073709551616 k
theorem pow2_eq (k : IntKind) : pow2 k = 2 ^ k.bits := by cases k <;> rfl

def gBits (f : Nat → Nat → Nat) (op : BinOp) (k : IntKind) (a : Int) (k' : IntKind) (b : Int) : Option AV :=
  cond (kEq k k') (natNat a b (fun n m => cond (Nat.blt n (pow2 k)) (cond (Nat.blt m (pow2 k)) (some (.int k (wrapF k (.ofNat (f n m))))) (intBin op k a k' b)) (intBin op k a k' b)) (intBin op k a k' b)) (intBin op k a k' b)

theorem ofInt_nat {w n : Nat} (h : n < 2 ^ w) : (BitVec.ofInt w (Int.ofNat n)).toNat = n := by
  rw [BitVec.toNat_ofInt]
  have : (Int.ofNat n % ((2 ^ w : Nat) : Int)) = (n : Int) := Int.emod_eq_of_lt (Int.natCast_nonneg n) (Int.ofNat_lt.2 h)
  rw [this]
  rfl

theorem gBits_eq (f : Nat → Nat → Nat) (op : BinOp) (k : IntKind) (a : Int) (k' : IntKind) (b : Int)
    (h : ∀ n m, n < 2 ^ k.bits → m < 2 ^ k.bits → Go.binOp op 0 (.int k (.ofNat n)) (.int k (.ofNat m)) = Sem.pure (.int k (k.wrap (.ofNat (f n m)))))
    (hop : ∀ a b, intBin op k a k b = ofSem (Go.binOp op 0 (.int k a) (.int k b))) : gBits f op k a k' b = intBin op k a k' b := by
  unfold gBits
  rw [← kEq_eq]
  by_cases hk : k = k'
  · subst hk
    simp only [decide_true, cond_true]
    cases a with
    | negSucc n => rfl
    | ofNat n =>
      cases b with
      | negSucc m => rfl
      | ofNat m =>
        show cond _ _ _ = _
        cases h1 : Nat.blt n (pow2 k) with
        | false => rfl
        | true =>
          cases h2 : Nat.blt m (pow2 k) with
          | false => rfl
          | true =>
            simp only [cond_true]
            rw [hop, h n m (by rw [← pow2_eq]; simpa using h1) (by rw [← pow2_eq]; simpa using h2), wrapF_eq]
            rfl
  · simp only [hk, decide_false, cond_false]

def gAnd : IntKind → Int → IntKind → Int → Option AV := gBits Nat.land .and
def gOr : IntKind → Int → IntKind → Int → Option AV := gBits Nat.lor .or
def gXor : IntKind → Int → IntKind → Int → Option AV := gBits Nat.xor .xor

theorem gAnd_eq (k : IntKind) (a : Int) (k' : IntKind) (b : Int) : gAnd k a k' b = intBin .and k a k' b :=
  gBits_eq _ _ _ _ _ _ (fun n m hn hm => by
    simp only [Go.binOp, ne_eq, not_true_eq_false, if_false, Go.Op.intBits, BitVec.toNat_and, ofInt_nat hn, ofInt_nat hm]; rfl) (fun _ _ => rfl)
theorem gOr_eq (k : IntKind) (a : Int) (k' : IntKind) (b : Int) : gOr k a k' b = intBin .or k a k' b :=
  gBits_eq _ _ _ _ _ _ (fun n m hn hm => by
    simp only [Go.binOp, ne_eq, not_true_eq_false, if_false, Go.Op.intBits, BitVec.toNat_or, ofInt_nat hn, ofInt_nat hm]; rfl) (fun _ _ => rfl)
theorem gXor_eq (k : IntKind) (a : Int) (k' : IntKind) (b : Int) : gXor k a k' b = intBin .xor k a k' b :=
  gBits_eq _ _ _ _ _ _ (fun n m hn hm => by
    simp only [Go.binOp, ne_eq, not_true_eq_false, if_false, Go.Op.intBits, BitVec.toNat_xor, ofInt_nat hn, ofInt_nat hm]; rfl) (fun _ _ => rfl)

def bitsN (k : IntKind) : Nat := IntKind.rec 8 16 32 64 8 16 32 64 k
theorem bitsN_eq (k : IntKind) : bitsN k = k.bits := by cases k <;> rfl

def gShl (k : IntKind) (a : Int) (k' : IntKind) (b : Int) : Option AV :=
  natNat a b (fun n m => cond (Nat.ble m (bitsN k)) (some (.int k (wrapF k (.ofNat (Nat.mul n (Nat.pow 2 m)))))) (intBin .shl k a k' b)) (intBin .shl k a k' b)
def gShr (k : IntKind) (a : Int) (k' : IntKind) (b : Int) : Option AV :=
  natNat a b (fun n m => cond (Nat.ble m (bitsN k)) (some (.int k (.ofNat (Nat.div n (Nat.pow 2 m))))) (intBin .shr k a k' b)) (intBin .shr k a k' b)

theorem gShl_eq (k : IntKind) (a : Int) (k' : IntKind) (b : Int) : gShl k a k' b = intBin .shl k a k' b := by
  cases a with
  | negSucc n => rfl
  | ofNat n =>
    cases b with
    | negSucc m => rfl
    | ofNat m =>
      show cond _ _ _ = _
      cases h : Nat.ble m (bitsN k) with
      | false => rfl
      | true =>
        have h' : m ≤ k.bits := by rw [← bitsN_eq]; simpa using h
        simp only [cond_true, intBin, Go.binOp, Go.Op.shift]
        have hm : ¬ (Int.ofNat m < 0) := by simp
        have e1 : min (Int.ofNat m).toNat k.bits = m := Nat.min_eq_left h'
        rw [if_neg hm, wrapF_eq]
        simp only [e1]
        have e2 : Int.ofNat (Nat.mul n (Nat.pow 2 m)) = Int.ofNat n * 2 ^ m := by
          show ((n * 2 ^ m : Nat) : Int) = _
          rw [Int.natCast_mul, Int.natCast_pow]; rfl
        rw [e2]
        rfl

theorem gShr_eq (k : IntKind) (a : Int) (k' : IntKind) (b : Int) : gShr k a k' b = intBin .shr k a k' b := by
  cases a with
  | negSucc n => rfl
  | ofNat n =>
    cases b with
    | negSucc m => rfl
    | ofNat m =>
      show cond _ _ _ = _
      cases h : Nat.ble m (bitsN k) with
      | false => rfl
      | true =>
        have h' : m ≤ k.bits := by rw [← bitsN_eq]; simpa using h
        simp only [cond_true, intBin, Go.binOp, Go.Op.shift]
        have hm : ¬ (Int.ofNat m < 0) := by simp
        have e1 : min (Int.ofNat m).toNat k.bits = m := Nat.min_eq_left h'
        rw [if_neg hm]
        simp only [e1]
        have e2 : Int.ofNat (Nat.div n (Nat.pow 2 m)) = Int.fdiv (Int.ofNat n) (2 ^ m) := by
          have : (2 : Int) ^ m = Int.ofNat (2 ^ m) := by rw [Int.ofNat_eq_natCast, Int.natCast_pow]; rfl
          rw [this]
          have h2 : (2 ^ m : Nat) ≠ 0 := Nat.pos_iff_ne_zero.1 (Nat.pow_pos (by decide))
          generalize hq : (2 ^ m : Nat) = q at h2 ⊢
          have hq' : Nat.pow 2 m = q := hq
          rw [hq']
          cases q with
          | zero => exact absurd rfl h2
          | succ q =>
            cases n with
            | zero => show Int.ofNat (0 / (q + 1)) = 0; rw [Nat.zero_div]; rfl
            | succ n => rfl
        rw [e2]
        rfl

def trI : BinOp → IntKind → Int → IntKind → Int → Option AV
  | .add => gAdd | .sub => gSub | .mul => gMul | .eql => gEql | .neq => gNeq | .lss => gLss | .leq => gLeq | .gtr => gGtr | .geq => gGeq
  | .rem => gRem | .quo => gQuo | .and => gAnd | .or => gOr | .xor => gXor | .shl => gShl | .shr => gShr
  | op => intBin op

theorem trI_eq (op : BinOp) (k : IntKind) (a : Int) (k' : IntKind) (b : Int) : trI op k a k' b = intBin op k a k' b := by
  cases op <;> first
    | exact gRem_eq .. | exact gQuo_eq .. | exact gAnd_eq .. | exact gOr_eq .. | exact gXor_eq .. | exact gShl_eq .. | exact gShr_eq ..
    | simp only [trI, gAdd, gSub, gMul, gEql, gNeq, gLss, gLeq, gGtr, gGeq, intBin, kEq_eq]

def f2I (g : IntKind → Int → IntKind → Int → Option AV) (x y : AV) : Option AV := intE x fun k a => intE y fun k' b => g k a k' b
def f2S (op : BinOp) (x y : AV) : Option AV := strE x fun n v => strE y fun m u => strBin op n v m u
def f3Pick (x y z : AV) : Option AV := boolE x fun b => some (cond b y z)
def f1Not (x : AV) : Option AV := boolE x fun b => some (.bool (cond b false true))
def f1Load (H : AH) (x : AV) : Option AV := ptrE x fun id o => H.load1 id o
def f1FieldAddr (off : Nat) (x : AV) : Option AV := ptrE x fun id o => some (.ptr id (Nat.add o off))


/-! ### Values taken apart, whatever is made of them -/

section
variable {α : Type}
def slE (v : AV) (d n : α) : (K → Nat → Nat → Nat → Nat → Bool → α) → α :=
  AV.rec (motive_1 := fun _ => (K → Nat → Nat → Nat → Nat → Bool → α) → α) (motive_2 := fun _ => PUnit)
    (fun _ _ => d) (fun _ _ _ => d) (fun _ _ _ => d) (fun _ _ _ => d) (fun _ => d) (fun a b c e f g h => h a b c e f g) (fun _ => n) (fun _ _ => d) (fun _ => d)
    (fun _ _ _ _ _ _ => d) (fun _ => d) (fun _ _ _ _ => d) (fun _ => d) (fun _ _ _ => d) (fun _ _ _ => d) PUnit.unit (fun _ _ _ _ => PUnit.unit) v
def tupE (v : AV) (d : α) : (List AV → α) → α :=
  AV.rec (motive_1 := fun _ => (List AV → α) → α) (motive_2 := fun _ => PUnit)
    (fun _ _ => d) (fun _ _ _ => d) (fun _ _ _ => d) (fun _ _ _ => d) (fun _ => d) (fun _ _ _ _ _ _ _ => d) (fun _ => d) (fun _ _ => d) (fun _ => d)
    (fun _ _ _ _ _ _ => d) (fun _ => d) (fun _ _ _ _ => d) (fun _ => d) (fun _ _ _ => d) (fun l _ h => h l) PUnit.unit (fun _ _ _ _ => PUnit.unit) v
def aggE (v : AV) (d : α) : (List AV → α) → α :=
  AV.rec (motive_1 := fun _ => (List AV → α) → α) (motive_2 := fun _ => PUnit)
    (fun _ _ => d) (fun _ _ _ => d) (fun _ _ _ => d) (fun _ _ _ => d) (fun _ => d) (fun _ _ _ _ _ _ _ => d) (fun _ => d) (fun _ _ => d) (fun _ => d)
    (fun _ _ _ _ _ _ => d) (fun _ => d) (fun _ _ _ _ => d) (fun _ => d) (fun l _ h => h l) (fun _ _ _ => d) PUnit.unit (fun _ _ _ _ => PUnit.unit) v
def ptrA (v : AV) (d : α) : (K → Nat → α) → α :=
  AV.rec (motive_1 := fun _ => (K → Nat → α) → α) (motive_2 := fun _ => PUnit)
    (fun _ _ => d) (fun _ _ _ => d) (fun _ _ _ => d) (fun k n f => f k n) (fun _ => d) (fun _ _ _ _ _ _ _ => d) (fun _ => d) (fun _ _ => d) (fun _ => d)
    (fun _ _ _ _ _ _ => d) (fun _ => d) (fun _ _ _ _ => d) (fun _ => d) (fun _ _ _ => d) (fun _ _ _ => d) PUnit.unit (fun _ _ _ _ => PUnit.unit) v
/-- One cell, and no struct. -/
def oneE (v : AV) (y n : α) : α :=
  AV.rec (motive_1 := fun _ => α) (motive_2 := fun _ => PUnit)
    (fun _ => y) (fun _ _ => y) (fun _ _ => y) (fun _ _ => y) y (fun _ _ _ _ _ _ => y) y (fun _ => y) y
    (fun _ _ _ _ _ => y) y (fun _ _ _ => y) y (fun _ _ => n) (fun _ _ => n) PUnit.unit (fun _ _ _ _ => PUnit.unit) v
def natE (i : Int) (d : α) (f : Nat → α) : α := Int.rec (motive := fun _ => α) f (fun _ => d) i
def consE (l : List α) (d : Option α) : Option α := List.rec (motive := fun _ => Option α) d (fun x _ _ => some x) l
end

def nthL (i : Nat) : List AV → Option AV :=
  Nat.rec (motive := fun _ => List AV → Option AV) (fun l => List.rec (motive := fun _ => Option AV) none (fun x _ _ => some x) l) (fun _ ih l => List.rec (motive := fun _ => Option AV) none (fun _ r _ => ih r) l) i
theorem nthL_eq : ∀ (i : Nat) (l : List AV), nthL i l = l[i]?
  | 0, [] => rfl
  | 0, x :: r => rfl
  | i + 1, [] => rfl
  | i + 1, x :: r => by
    rw [List.getElem?_cons_succ, ← nthL_eq i r]
    rfl

def f1LenStr (x : AV) : Option AV := strE x fun n _ => some (.int .i64 (.ofNat n))
def f1LenSl (x : AV) : Option AV := slE x none (some (.int .i64 (.ofNat 0))) fun _ _ _ l _ _ => some (.int .i64 (.ofNat l))
def f1Ext (i : Nat) (x : AV) : Option AV := tupE x none (nthL i)
def f2IdxStr (x y : AV) : Option AV := strE x fun n v => intE y fun _ i => natE i none fun i => cond (Nat.blt i n) (some (.int .u8 (.ofNat (Nat.mod (Nat.div v (Nat.pow 256 i)) 256)))) none
def f2IdxAddrSl (esz : Nat) (x y : AV) : Option AV := slE x none none fun id o _ len _ _ => intE y fun _ i => natE i none fun i => cond (Nat.blt i len) (some (.ptr id (Nat.add o (Nat.mul i esz)))) none
def f2IdxAddrArr (n esz : Nat) (x y : AV) : Option AV := ptrA x none fun id o => intE y fun _ i => natE i none fun i => cond (Nat.blt i n) (some (.ptr id (Nat.add o (Nat.mul i esz)))) none
def f1Conv (k : IntKind) (x : AV) : Option AV := intE x fun _ n => some (.int k (wrapF k n))
def f1Iface (t : Nat) (x : AV) : Option AV := some (.iface t x)
def f1Field (off : Nat) (x : AV) : Option AV := aggE x none (nthL off)
def f2SlLo (x a : AV) : Option AV := strE x fun n v => intE a fun _ a => natE a none fun a => cond (Nat.ble a n) (some (.str (Nat.sub n a) (Nat.mod (Nat.div v (Nat.pow 256 a)) (Nat.pow 256 (Nat.sub n a))))) none
def f2SlHi (x b : AV) : Option AV := strE x fun n v => intE b fun _ b => natE b none fun b => cond (Nat.ble b n) (some (.str (Nat.sub b 0) (Nat.mod (Nat.div v (Nat.pow 256 0)) (Nat.pow 256 (Nat.sub b 0))))) none
def f3SlLH (x a b : AV) : Option AV := strE x fun n v => intE a fun _ a => natE a none fun a => intE b fun _ b => natE b none fun b =>
  cond (Nat.ble b n) (cond (Nat.ble a b) (some (.str (Nat.sub b a) (Nat.mod (Nat.div v (Nat.pow 256 a)) (Nat.pow 256 (Nat.sub b a))))) none) none
def f1NilCheck (x : AV) : Option AV :=
  AV.rec (motive_1 := fun _ => Option AV → Option AV) (motive_2 := fun _ => PUnit)
    (fun _ y => y) (fun _ _ y => y) (fun _ _ y => y) (fun k n _ => some (.ptr k n)) (fun y => y) (fun _ _ _ _ _ _ y => y) (fun y => y) (fun _ y => y) (fun y => y)
    (fun _ _ _ _ _ y => y) (fun y => y) (fun t v _ _ => some (.iface t v)) (fun y => y) (fun _ _ y => y) (fun _ _ y => y) PUnit.unit (fun _ _ _ _ => PUnit.unit) x (pNilCheck [x])

theorem f1LenStr_eq (x : AV) : f1LenStr x = pLenStr [x] := by cases x <;> rfl
theorem f1LenSl_eq (x : AV) : f1LenSl x = pLenSl [x] := by cases x <;> rfl
theorem f1Ext_eq (i : Nat) (x : AV) : f1Ext i x = pExtract i [x] := by cases x <;> first | rfl | exact nthL_eq i _
theorem f2IdxStr_eq (x y : AV) : f2IdxStr x y = pIdxStr [x, y] := by
  cases x <;> first | rfl | (cases y <;> first | rfl | (rename_i i; cases i <;> rfl))
theorem f2IdxAddrSl_eq (e : Nat) (x y : AV) : f2IdxAddrSl e x y = pIdxAddrSl e [x, y] := by
  cases x <;> first | rfl | (cases y <;> first | rfl | (rename_i i; cases i <;> rfl))
theorem f2IdxAddrArr_eq (n e : Nat) (x y : AV) : f2IdxAddrArr n e x y = pIdxAddrArr n e [x, y] := by
  cases x <;> first | rfl | (cases y <;> first | rfl | (rename_i i; cases i <;> rfl))
theorem f1FieldAddr_eq (o : Nat) (x : AV) : f1FieldAddr o x = pFieldAddr o [x] := by cases x <;> rfl
theorem f1Conv_eq (k : IntKind) (x : AV) : f1Conv k x = pConv k [x] := by cases x <;> rfl
theorem f1Field_eq (off n : Nat) (x : AV) : f1Field off x = pField off n false [x] := by cases x <;> first | rfl | exact nthL_eq off _
theorem f1NilCheck_eq (x : AV) : f1NilCheck x = pNilCheck [x] := by cases x <;> rfl
theorem ble_refl' (n : Nat) : Nat.ble n n = true := by rw [Nat.ble_eq]; exact Nat.le_refl n
theorem zero_ble (n : Nat) : Nat.ble 0 n = true := by rw [Nat.ble_eq]; exact Nat.zero_le n
theorem f2SlLo_eq (x a : AV) : f2SlLo x a = pSliceStr true false [x, a] := by
  cases x <;> first | rfl | skip
  rename_i n v
  cases a <;> first | rfl | skip
  rename_i k i
  cases i <;> first | rfl | skip
  rename_i i
  show cond (Nat.ble i n) _ _ = _
  simp only [pSliceStr, boundsA, optB, Option.isNone, cond_true, ble_refl', Bool.true_and]
  cases Nat.ble i n <;> rfl
theorem f2SlHi_eq (x b : AV) : f2SlHi x b = pSliceStr false true [x, b] := by
  cases x <;> first | rfl | skip
  rename_i n v
  cases b <;> first | rfl | skip
  rename_i k i
  cases i <;> first | rfl | skip
  rename_i i
  show cond (Nat.ble i n) _ _ = _
  simp only [pSliceStr, boundsA, optB, zero_ble, Bool.and_true]
  cases Nat.ble i n <;> rfl
theorem f3SlLH_eq (x a b : AV) : f3SlLH x a b = pSliceStr true true [x, a, b] := by
  cases x <;> first | rfl | skip
  rename_i n v
  cases a <;> first | rfl | skip
  rename_i k i
  cases i <;> first | rfl | skip
  rename_i i
  cases b <;> first | rfl | skip
  rename_i k' j
  cases j <;> first | rfl | skip
  rename_i j
  show cond (Nat.ble j n) (cond (Nat.ble i j) _ _) _ = _
  simp only [pSliceStr, boundsA, optB]
  cases Nat.ble j n <;> cases Nat.ble i j <;> rfl

/-- All parts of a struct are given, in order: their cells, one behind the other. -/
def catA (sizes : List Nat) : List AV → Option (List AV) :=
  List.rec (motive := fun _ => List AV → Option (List AV)) (fun l => List.rec (motive := fun _ => Option (List AV)) (some []) (fun _ _ _ => none) l)
    (fun n _ ih l => List.rec (motive := fun _ => Option (List AV)) none (fun v r _ =>
      cond (Nat.beq n 1)
        (oneE v (Option.rec (motive := fun _ => Option (List AV)) none (fun cs => some (v :: cs)) (ih r)) (cond (Nat.beq v.cells.length n) (Option.rec (motive := fun _ => Option (List AV)) none (fun cs => some (v.cells ++ cs)) (ih r)) none))
        (cond (Nat.beq v.cells.length n) (Option.rec (motive := fun _ => Option (List AV)) none (fun cs => some (v.cells ++ cs)) (ih r)) none)) l) sizes

theorem catA_nil (l : List AV) : catA [] l = match l with | [] => some [] | _ => none := by cases l <;> rfl
theorem catA_cons (n : Nat) (ns : List Nat) (v : AV) (r : List AV) : catA (n :: ns) (v :: r) = cond (Nat.beq v.cells.length n) (match catA ns r with | some cs => some (v.cells ++ cs) | none => none) none := by
  have e : catA (n :: ns) (v :: r) = cond (Nat.beq n 1)
        (oneE v (Option.rec (motive := fun _ => Option (List AV)) none (fun cs => some (v :: cs)) (catA ns r)) (cond (Nat.beq v.cells.length n) (Option.rec (motive := fun _ => Option (List AV)) none (fun cs => some (v.cells ++ cs)) (catA ns r)) none))
        (cond (Nat.beq v.cells.length n) (Option.rec (motive := fun _ => Option (List AV)) none (fun cs => some (v.cells ++ cs)) (catA ns r)) none) := rfl
  rw [e]
  have g : (Option.rec (motive := fun _ => Option (List AV)) none (fun cs => some (v.cells ++ cs)) (catA ns r)) = match catA ns r with | some cs => some (v.cells ++ cs) | none => none := by cases catA ns r <;> rfl
  cases hn : Nat.beq n 1 with
  | false => simp only [cond_false]; rw [g]
  | true =>
    have := Nat.eq_of_beq_eq_true hn
    subst this
    simp only [cond_true]
    cases v <;> first
      | (show cond _ _ _ = cond _ _ _; rw [g])
      | (cases catA ns r <;> rfl)

/-- The places are all parts in order. -/
def inOrder : Nat → List (Nat × Nat) → Option (List Nat × Nat)
  | o, [] => some ([], o)
  | o, (off, sz) :: r => cond (Nat.beq off o) (match inOrder (Nat.add o sz) r with | some (l, e) => some (sz :: l, e) | none => none) none

theorem inOrder_fill : ∀ (ps : List (Nat × Nat)) (o : Nat) (ns : List Nat) (e : Nat), inOrder o ps = some (ns, e) → o ≤ e ∧ ∀ (l pre z : List AV), pre.length = o → pre.length + z.length = e →
    fillA ps l (pre ++ z) = match catA ns l with | some cs => some (pre ++ cs) | none => none
  | [], o, ns, e, h => by
    simp only [inOrder, Option.some.injEq, Prod.mk.injEq] at h
    obtain ⟨rfl, rfl⟩ := h
    refine ⟨Nat.le_refl _, fun l pre z hp hz => ?_⟩
    have hz0 : z = [] := List.eq_nil_of_length_eq_zero (by omega)
    subst hz0
    cases l with
    | nil => simp [fillA, catA_nil]
    | cons v r => simp [fillA, catA_nil]
  | (off, sz) :: ps, o, ns, e, h => by
    simp only [inOrder] at h
    cases hb : Nat.beq off o with
    | false => rw [hb] at h; simp at h
    | true =>
      rw [hb] at h
      simp only [cond_true] at h
      have ho := Nat.eq_of_beq_eq_true hb
      cases hr : inOrder (Nat.add o sz) ps with
      | none => rw [hr] at h; simp at h
      | some q =>
        obtain ⟨l1, e1⟩ := q
        rw [hr] at h
        simp only [Option.some.injEq, Prod.mk.injEq] at h
        obtain ⟨rfl, rfl⟩ := h
        obtain ⟨hle, ih⟩ := inOrder_fill ps _ l1 e1 hr
        have hle' : o + sz ≤ e1 := hle
        refine ⟨by omega, fun l pre z hp hz => ?_⟩
        cases l with
        | nil => simp [fillA, catA]
        | cons v r =>
          rw [catA_cons]
          simp only [fillA]
          cases hc : Nat.beq v.cells.length sz with
          | false => simp
          | true =>
            have hv := Nat.eq_of_beq_eq_true hc
            have hfit : Nat.ble (Nat.add off sz) (pre ++ z).length = true := by
              rw [Nat.ble_eq, List.length_append]
              show off + sz ≤ _
              omega
            rw [hfit]
            simp only [Bool.and_self, cond_true]
            have es : splice off v.cells (pre ++ z) = (pre ++ v.cells) ++ z.drop v.cells.length := by
              unfold splice
              have h1 : (pre ++ z).take off = pre := List.take_left' (by omega)
              have h2 : (pre ++ z).drop (Nat.add off v.cells.length) = z.drop v.cells.length := by
                show (pre ++ z).drop (off + v.cells.length) = _
                have : off + v.cells.length = pre.length + v.cells.length := by omega
                rw [this, ← List.drop_drop, List.drop_left' rfl]
              rw [h1, h2]
            rw [es, ih r (pre ++ v.cells) (z.drop v.cells.length) (by rw [List.length_append, hp, hv]; rfl) (by rw [List.length_append, List.length_drop]; omega)]
            cases catA l1 r with
            | none => rfl
            | some cs => simp

/-- A struct built whole. -/
def wholeOf (zero : List AV) (places : List (Nat × Nat)) : Option (List Nat) :=
  match inOrder 0 places with
  | some (ns, e) => cond (Nat.beq e zero.length) (some ns) none
  | none => none

theorem wholeOf_fill {zero : List AV} {places : List (Nat × Nat)} {ns : List Nat} (h : wholeOf zero places = some ns) (l : List AV) : fillA places l zero = catA ns l := by
  unfold wholeOf at h
  cases hi : inOrder 0 places with
  | none => rw [hi] at h; simp at h
  | some q =>
    obtain ⟨ns', e⟩ := q
    rw [hi] at h
    simp only at h
    cases hb : Nat.beq e zero.length with
    | false => rw [hb] at h; simp at h
    | true =>
      rw [hb] at h
      simp only [cond_true, Option.some.injEq] at h
      subst h
      have := (inOrder_fill places 0 ns' e hi).2 l [] zero rfl (by simp [Nat.eq_of_beq_eq_true hb])
      rw [List.nil_append] at this
      rw [this]
      cases catA ns' l <;> rfl

def fBuild (ns : List Nat) (l : List AV) : Option AV := Option.rec (motive := fun _ => Option AV) none (fun cs => some (.agg cs)) (catA ns l)
theorem fBuild_eq {zero : List AV} {places : List (Nat × Nat)} {ns : List Nat} (h : wholeOf zero places = some ns) (l : List AV) : fBuild ns l = pBuild zero places l := by
  unfold fBuild pBuild
  rw [wholeOf_fill h]
  cases catA ns l <;> rfl
def fBuildSl (esz len : Nat) (ns : List Nat) (id : K) (l : List AV) : Option (ABlk × AV) := Option.rec (motive := fun _ => Option (ABlk × AV)) none (fun cs => some (mkCells cs, .slice id 0 esz len len true)) (catA ns l)
theorem fBuildSl_eq {zero : List AV} {places : List (Nat × Nat)} {ns : List Nat} (h : wholeOf zero places = some ns) (esz len : Nat) (id : K) (l : List AV) : fBuildSl esz len ns id l = aBuildSlice esz len zero places id l := by
  unfold fBuildSl aBuildSlice
  rw [wholeOf_fill h]
  cases catA ns l <;> rfl

/-! ### Memory -/

def blkE {α : Type} (b : Option ABlk) (d : α) : (Nat → Tr AV → Bool → α) → α :=
  Option.rec (motive := fun _ => (Nat → Tr AV → Bool → α) → α) (fun _ => d) (fun b => ABlk.rec (motive := fun _ => (Nat → Tr AV → Bool → α) → α) (fun sz c rw f => f sz c rw) (fun _ _ _ => d) (fun _ => d) b) b

def fLoad1 (H : AH) (x : AV) : Option AV := ptrA x none fun id o => blkE (H.h.get id) none fun sz c _ => cond (Nat.blt o sz) (c.get (K.of o)) none
theorem fLoad1_eq (H : AH) (x : AV) : fLoad1 H x = rLoad1 H [x] := by
  cases x <;> first
    | rfl
    | skip
  rename_i id o
  show blkE (H.h.get id) none _ = H.load1 id o
  unfold AH.load1 AH.get
  cases H.h.get id with
  | none => rfl
  | some b => cases b <;> rfl

/-- One cell stored. -/
def fStore1 (H : AH) (p v : AV) : Option (AV × AH) :=
  oneE v (ptrA p none fun id o => blkE (H.h.get id) none fun sz c rw => cond rw (cond (Nat.ble (Nat.add o 1) sz) (some (.tuple [], ⟨H.h.set id (.cells sz (c.set (K.of o) v) true), H.nx⟩)) none) none) (wStore 1 H [p, v])
theorem fStore1_eq (H : AH) (p v : AV) : fStore1 H p v = wStore 1 H [p, v] := by
  have key : ∀ (id : K) (o : Nat) (v : AV), v.cells = [v] → v.one = true → (blkE (H.h.get id) none fun sz c rw => cond rw (cond (Nat.ble (Nat.add o 1) sz) (some (.tuple [], (⟨H.h.set id (.cells sz (c.set (K.of o) v) true), H.nx⟩ : AH))) none) none) = wStore 1 H [.ptr id o, v] := by
    intro id o v hc ho
    simp only [wStore, hc, List.length_cons, List.length_nil, Nat.zero_add]
    rw [show Nat.beq 1 1 = true from rfl, cond_true]
    unfold AH.storeN AH.get
    cases H.h.get id with
    | none => rfl
    | some b =>
      cases b with
      | map => rfl
      | dead => rfl
      | cells sz c rw =>
        cases rw with
        | false => rfl
        | true =>
          simp only [blkE, cond_true, List.length_cons, List.length_nil, Nat.zero_add, allOne, ho, Bool.and_true, Bool.true_and]
          cases Nat.ble (Nat.add o 1) sz <;> rfl
  unfold fStore1
  cases p with
  | ptr id o => cases v <;> first | exact key id o _ rfl rfl | rfl
  | _ => cases v <;> rfl

/-! ### append -/

def appNil (es bytes : Nat) (H : AH) (n : Nat) (new : List AV) : Option (AV × AH) :=
  cond (Nat.beq n 0) (some (.nils, H))
    (cond (Nat.ble n 70368744177664 && Nat.ble (Nat.mul (Nat.add (Nat.mul 2 n) 1000) bytes) 281474976710656)
      (some (.slice H.nx 0 es n n false, H.put H.nx (mkCells new) H.nx.succ)) none)
def appIn (es : Nat) (H : AH) (id : K) (off len cap : Nat) (ex : Bool) (n : Nat) (new : List AV) : Option (AV × AH) :=
  Option.rec (motive := fun _ => Option (AV × AH)) none (fun H' => some (.slice id off es (Nat.add len n) cap ex, H')) (H.storeN id (Nat.add off (Nat.mul len es)) new)
/-- Cells that may all be stored. -/
def allOneF (l : List AV) : Bool := List.rec (motive := fun _ => Bool) true (fun v _ ih => oneE v ih false) l
theorem allOneF_eq (l : List AV) : allOneF l = allOne l := by
  induction l with
  | nil => rfl
  | cons v r ih =>
    have e : allOneF (v :: r) = oneE v (allOneF r) false := rfl
    rw [e, ih]
    cases v <;> simp [oneE, allOne, AV.one]
def appFin (es : Nat) (H : AH) (id : K) (ex ok : Bool) (m : Nat) (blk : ABlk) : Option (AV × AH) :=
  cond ex (some (.slice H.nx 0 es m m false, ⟨H.h.set H.nx blk, H.nx.succ⟩))
    (cond ok (some (.slice H.nx 0 es m m false, ⟨(H.h.set id .dead).set H.nx blk, H.nx.succ⟩)) none)
def appGrow (es : Nat) (H : AH) (id : K) (off len : Nat) (ex : Bool) (n : Nat) (new : List AV) : Option (AV × AH) :=
  blkE (H.h.get id) none fun sz c rw => cond (Nat.ble (Nat.add off (Nat.mul len es)) sz)
    (cond (Nat.beq off 0) (appFin es H id ex (cond rw (allOneF new) false) (Nat.add len n) (.cells (Nat.add (Nat.mul len es) new.length) (Tr.setFrom (Nat.mul len es) new c) true))
      (Option.rec (motive := fun _ => Option (AV × AH)) none (fun l => appFin es H id ex (cond rw (allOneF new) false) (Nat.add len n) (mkCells (l ++ new))) (c.getFrom off (Nat.mul len es)))) none
def appSl (es bytes : Nat) (H : AH) (s : AV) (n : Nat) (new : List AV) (id : K) (off es' len cap : Nat) (ex : Bool) : Option (AV × AH) :=
  cond (Nat.beq es' es)
    (cond (Nat.beq n 0) (some (s, H))
      (cond (Nat.ble (Nat.add len n) cap) (appIn es H id off len cap ex n new)
        (cond (Nat.ble (Nat.add len n) 70368744177664 && Nat.ble (Nat.mul (Nat.add (Nat.mul 2 (Nat.add len n)) 1000) bytes) 281474976710656) (appGrow es H id off len ex n new) none))) none
def fAppend (es bytes : Nat) (H : AH) (s x : AV) : Option (AV × AH) :=
  Option.rec (motive := fun _ => Option (AV × AH)) none (fun p => slE s none (appNil es bytes H p.1 p.2) (appSl es bytes H s p.1 p.2)) (newCells H es x)

theorem appGrow_eq (es : Nat) (H : AH) (id : K) (off len : Nat) (ex : Bool) (n : Nat) (new : List AV) : appGrow es H id off len ex n new =
    (match appBlk H id off (Nat.mul len es) new with
      | some blk => cond (ex || ((H.get id).rw && allOne new)) (some (.slice H.nx 0 es (Nat.add len n) (Nat.add len n) false, (cond ex H (H.kill id)).put H.nx blk H.nx.succ)) none
      | none => none) := by
  unfold appGrow appBlk AH.get
  cases H.h.get id with
  | none => rfl
  | some b =>
    cases b with
    | map => rfl
    | dead => rfl
    | cells sz c rw =>
      simp only [blkE]
      cases Nat.ble (Nat.add off (Nat.mul len es)) sz with
      | false => rfl
      | true =>
        simp only [cond_true]
        cases Nat.beq off 0 with
        | true =>
          simp only [cond_true, appFin, allOneF_eq]
          cases ex <;> cases rw <;> cases allOne new <;> rfl
        | false =>
          simp only [cond_false]
          cases c.getFrom off (Nat.mul len es) with
          | none => rfl
          | some l =>
            simp only [appFin, allOneF_eq]
            cases ex <;> cases rw <;> cases allOne new <;> rfl

theorem fAppend_eq (es bytes : Nat) (H : AH) (s x : AV) : fAppend es bytes H s x = wAppend es bytes H [s, x] := by
  unfold fAppend
  simp only [wAppend]
  cases newCells H es x with
  | none => rfl
  | some p =>
    obtain ⟨n, new⟩ := p
    cases s <;> first
      | rfl
      | (simp only [slE, appSl, appGrow_eq, appIn]
         congr 3
         cases H.storeN _ _ new <;> rfl)

/-! ### One operation -/

def vThen (r : Option AV) : (AV → FR) → FR := Option.rec (motive := fun _ => (AV → FR) → FR) (fun _ => .no) (fun v f => f v) r
def pThen (r : Option (AV × AH)) : (AV → AH → FR) → FR := Option.rec (motive := fun _ => (AV → AH → FR) → FR) (fun _ => .no) (fun p => Prod.rec (fun v h f => f v h) p) r
def aThen (r : Option (ABlk × AV)) : (ABlk → AV → FR) → FR := Option.rec (motive := fun _ => (ABlk → AV → FR) → FR) (fun _ => .no) (fun p => Prod.rec (fun v h f => f v h) p) r
def eThen (r : Option (Env × AH)) : FK → FR := Option.rec (motive := fun _ => FK → FR) (fun _ => .no) (fun p => Prod.rec (fun v h f => f v h) p) r

def oMov (d : K) (x : FV) : FStep := fun _ k env H => k (env.set d (x env)) H
def o1 (d : K) (f : AV → Option AV) (x : FV) : FStep := fun _ k env H => vThen (f (x env)) fun v => k (env.set d v) H
def o2 (d : K) (f : AV → AV → Option AV) (x y : FV) : FStep := fun _ k env H => vThen (f (x env) (y env)) fun v => k (env.set d v) H
def o3 (d : K) (f : AV → AV → AV → Option AV) (x y z : FV) : FStep := fun _ k env H => vThen (f (x env) (y env) (z env)) fun v => k (env.set d v) H
def oN (d : Option K) (f : List AV → Option AV) (xs : List FV) : FStep := fun _ k env H => vThen (f (evL xs env)) fun v => k (putD d v env) H
def oL (d : K) (f : AH → AV → Option AV) (x : FV) : FStep := fun _ k env H => vThen (f H (x env)) fun v => k (env.set d v) H
def oR (d : Option K) (r : RK) (xs : List FV) : FStep := fun _ k env H => vThen (evalR H r (evL xs env)) fun v => k (putD d v env) H
def oA (d : Option K) (a : AK) (xs : List FV) : FStep := fun _ k env H => aThen (evalA H.nx a (evL xs env)) fun blk v => k (putD d v env) (H.put H.nx blk H.nx.succ)
def oW (d : Option K) (w : WK) (xs : List FV) : FStep := fun _ k env H => pThen (evalW H w (evL xs env)) fun v H' => k (putD d v env) H'
def oC (d : Option K) (f : K) (xs : List FV) : FStep := fun cf k env H => pThen (cf f (evL xs env) H) fun v H' => k (putD d v env) H'
def oV (d : Option K) (xs : List FV) : FStep := fun cf k env H => pThen (stepK cf .callv (evL xs env) H) fun v H' => k (putD d v env) H'
def oL2 (d : Option K) (f : AH → AV → AV → Option (AV × AH)) (x y : FV) : FStep := fun _ k env H => pThen (f H (x env) (y env)) fun v H' => k (putD d v env) H'
def oAf (d : Option K) (f : K → List AV → Option (ABlk × AV)) (xs : List FV) : FStep := fun _ k env H => aThen (f H.nx (evL xs env)) fun blk v => k (putD d v env) (H.put H.nx blk H.nx.succ)
/-! The same, where the place is given as a function. -/
def oMovS (s : AV → Env → Env) (x : FV) : FStep := fun _ k env H => k (s (x env) env) H
def o1S (s : AV → Env → Env) (f : AV → Option AV) (x : FV) : FStep := fun _ k env H => vThen (f (x env)) fun v => k (s v env) H
def o2S (s : AV → Env → Env) (f : AV → AV → Option AV) (x y : FV) : FStep := fun _ k env H => vThen (f (x env) (y env)) fun v => k (s v env) H
def o3S (s : AV → Env → Env) (f : AV → AV → AV → Option AV) (x y z : FV) : FStep := fun _ k env H => vThen (f (x env) (y env) (z env)) fun v => k (s v env) H
def oNS (s : AV → Env → Env) (f : List AV → Option AV) (xs : List FV) : FStep := fun _ k env H => vThen (f (evL xs env)) fun v => k (s v env) H
def oLS (s : AV → Env → Env) (f : AH → AV → Option AV) (x : FV) : FStep := fun _ k env H => vThen (f H (x env)) fun v => k (s v env) H
def oRS (s : AV → Env → Env) (r : RK) (xs : List FV) : FStep := fun _ k env H => vThen (evalR H r (evL xs env)) fun v => k (s v env) H
def oAS (s : AV → Env → Env) (a : AK) (xs : List FV) : FStep := fun _ k env H => aThen (evalA H.nx a (evL xs env)) fun blk v => k (s v env) (H.put H.nx blk H.nx.succ)
def oAfS (s : AV → Env → Env) (f : K → List AV → Option (ABlk × AV)) (xs : List FV) : FStep := fun _ k env H => aThen (f H.nx (evL xs env)) fun blk v => k (s v env) (H.put H.nx blk H.nx.succ)
def oWS (s : AV → Env → Env) (w : WK) (xs : List FV) : FStep := fun _ k env H => pThen (evalW H w (evL xs env)) fun v H' => k (s v env) H'
def oL2S (s : AV → Env → Env) (f : AH → AV → AV → Option (AV × AH)) (x y : FV) : FStep := fun _ k env H => pThen (f H (x env) (y env)) fun v H' => k (s v env) H'
def oCS (s : AV → Env → Env) (f : K) (xs : List FV) : FStep := fun cf k env H => pThen (cf f (evL xs env) H) fun v H' => k (s v env) H'
def oVS (s : AV → Env → Env) (xs : List FV) : FStep := fun cf k env H => pThen (stepK cf .callv (evL xs env) H) fun v H' => k (s v env) H'
def oGS (g : FV) (b : Bool) (d : AV → Env → Env) (s : FStep) : FStep := fun cf k env H => Bool.rec (k (d (.tuple []) env) H) (s cf k env H) (boolG (g env) b)
def oGN (g : FV) (b : Bool) (s : FStep) : FStep := fun cf k env H => Bool.rec (k env H) (s cf k env H) (boolG (g env) b)
def oBad : FStep := fun _ _ _ _ => .no
/-- Under a guard. -/
def oG (g : K) (b : Bool) (d : Option K) (s : FStep) : FStep := fun cf k env H => Bool.rec (k (putD d (.tuple []) env) H) (s cf k env H) (boolG (tO g env) b)
/-- One, then another. -/
def oS (s t : FStep) : FStep := fun cf k env H => s cf (t cf k) env H
def oE : FStep := fun _ k env H => k env H

def trP (d : Option K) (k : PK) (args : List COpd) : FStep :=
  match d, k, args with
  | some d, .id, [x] => oMov d (trO x)
  | some d, .int op, [x, y] => o2 d (f2I (trI op)) (trO x) (trO y)
  | some d, .str op, [x, y] => o2 d (f2S op) (trO x) (trO y)
  | some d, .pick, [x, y, z] => o3 d f3Pick (trO x) (trO y) (trO z)
  | some d, .not, [x] => o1 d f1Not (trO x)
  | some d, .lenStr, [x] => o1 d f1LenStr (trO x)
  | some d, .lenSl, [x] => o1 d f1LenSl (trO x)
  | some d, .extract i, [x] => o1 d (f1Ext i) (trO x)
  | some d, .idxStr, [x, y] => o2 d f2IdxStr (trO x) (trO y)
  | some d, .idxAddrSl e, [x, y] => o2 d (f2IdxAddrSl e) (trO x) (trO y)
  | some d, .idxAddrArr n e, [x, y] => o2 d (f2IdxAddrArr n e) (trO x) (trO y)
  | some d, .fieldAddr o, [x] => o1 d (f1FieldAddr o) (trO x)
  | some d, .conv k, [x] => o1 d (f1Conv k) (trO x)
  | some d, .mkIface t, [x] => o1 d (f1Iface t) (trO x)
  | some d, .field off _ false, [x] => o1 d (f1Field off) (trO x)
  | some d, .nilCheck, [x] => o1 d f1NilCheck (trO x)
  | some d, .sliceStr true false, [x, y] => o2 d f2SlLo (trO x) (trO y)
  | some d, .sliceStr false true, [x, y] => o2 d f2SlHi (trO x) (trO y)
  | some d, .sliceStr true true, [x, y, z] => o3 d f3SlLH (trO x) (trO y) (trO z)
  | d, .build zero places, args => match wholeOf zero places with
    | some ns => oN d (fBuild ns) (args.map trO)
    | none => oN d (evalP (.build zero places)) (args.map trO)
  | d, k, args => oN d (evalP k) (args.map trO)

def trR (d : Option K) (k : RK) (args : List COpd) : FStep :=
  match d, k, args with
  | some d, .load1, [x] => oL d fLoad1 (trO x)
  | d, k, args => oR d k (args.map trO)

def trA (d : Option K) (k : AK) (args : List COpd) : FStep :=
  match k with
  | .buildSlice e n zero places => match wholeOf zero places with
    | some ns => oAf d (fBuildSl e n ns) (args.map trO)
    | none => oA d (.buildSlice e n zero places) (args.map trO)
  | k => oA d k (args.map trO)

def trW (d : Option K) (k : WK) (args : List COpd) : FStep :=
  match k, args with
  | .store 1, [x, y] => oL2 d fStore1 (trO x) (trO y)
  | .append e b, [x, y] => oL2 d (fAppend e b) (trO x) (trO y)
  | k, args => oW d k (args.map trO)

def trK (d : Option K) (k : CK) (args : List COpd) : FStep :=
  match k with
  | .p k => trP d k args
  | .r k => trR d k args
  | .a k => trA d k args
  | .w k => trW d k args
  | .call f => oC d f (args.map trO)
  | .callv => oV d (args.map trO)
  | .bad => oBad

def trOp (c : COp) : FStep :=
  match c.guard with
  | none => trK c.dst c.kind c.args
  | some (g, b) => oG g b c.dst (trK c.dst c.kind c.args)

def trOps : List COp → FStep
  | [] => oE
  | [c] => trOp c
  | c :: r => oS (trOp c) (trOps r)

/-- A step is what these operations come to. -/
def SOk (s : FStep) (l : List COp) : Prop := ∀ cf k env H, s cf k env H = eThen (runOps cf l env H) k

/-- A step is what this kind comes to. -/
def KOk (s : FStep) (d : Option K) (kd : CK) (args : List COpd) : Prop := ∀ cf k env H, s cf k env H = pThen (stepK cf kd (evs env args) H) fun v H' => k (putD d v env) H'

theorem trP_ok (d : Option K) (k : PK) (args : List COpd) : KOk (trP d k args) d (.p k) args := by
  intro cf kk env H
  have gen : ∀ r : Option AV, (vThen r fun v => kk (putD d v env) H) = pThen (match r with | some v => some (v, H) | none => none) fun v H' => kk (putD d v env) H' := by
    intro r; cases r <;> rfl
  unfold trP
  split
  · simp only [oMov, trO_eq, stepK, evs, evalP, pId]; rfl
  · rename_i d op x y
    simp only [o2, trO_eq, stepK, evs, evalP]
    have : f2I (trI op) (ev env x) (ev env y) = pInt op [ev env x, ev env y] := by
      generalize ev env x = a
      generalize ev env y = b
      cases a <;> first | rfl | (cases b <;> first | rfl | exact trI_eq ..)
    rw [this]
    exact gen _
  · rename_i d op x y
    simp only [o2, trO_eq, stepK, evs, evalP]
    have : f2S op (ev env x) (ev env y) = pStr op [ev env x, ev env y] := by
      generalize ev env x = a
      generalize ev env y = b
      cases a <;> first | rfl | (cases b <;> rfl)
    rw [this]
    exact gen _
  · rename_i d x y z
    simp only [o3, trO_eq, stepK, evs, evalP]
    have : f3Pick (ev env x) (ev env y) (ev env z) = pPick [ev env x, ev env y, ev env z] := by
      generalize ev env x = a
      cases a <;> rfl
    rw [this]
    exact gen _
  · rename_i d x
    simp only [o1, trO_eq, stepK, evs, evalP]
    have : f1Not (ev env x) = pNot [ev env x] := by
      generalize ev env x = a
      cases a <;> first | rfl | (rename_i b; cases b <;> rfl)
    rw [this]
    exact gen _
  · rename_i d x
    simp only [o1, trO_eq, stepK, evs, evalP]
    rw [f1LenStr_eq (ev env x)]
    exact gen _
  · rename_i d x
    simp only [o1, trO_eq, stepK, evs, evalP]
    rw [f1LenSl_eq (ev env x)]
    exact gen _
  · rename_i d i x
    simp only [o1, trO_eq, stepK, evs, evalP]
    rw [f1Ext_eq i (ev env x)]
    exact gen _
  · rename_i d x y
    simp only [o2, trO_eq, stepK, evs, evalP]
    rw [f2IdxStr_eq (ev env x) (ev env y)]
    exact gen _
  · rename_i d e x y
    simp only [o2, trO_eq, stepK, evs, evalP]
    rw [f2IdxAddrSl_eq e (ev env x) (ev env y)]
    exact gen _
  · rename_i d n e x y
    simp only [o2, trO_eq, stepK, evs, evalP]
    rw [f2IdxAddrArr_eq n e (ev env x) (ev env y)]
    exact gen _
  · rename_i d o x
    simp only [o1, trO_eq, stepK, evs, evalP]
    rw [f1FieldAddr_eq o (ev env x)]
    exact gen _
  · rename_i d k x
    simp only [o1, trO_eq, stepK, evs, evalP]
    rw [f1Conv_eq k (ev env x)]
    exact gen _
  · rename_i d t x
    simp only [o1, trO_eq, stepK, evs, evalP]
    exact gen _
  · rename_i d off n x
    simp only [o1, trO_eq, stepK, evs, evalP]
    rw [f1Field_eq off n (ev env x)]
    exact gen _
  · rename_i d x
    simp only [o1, trO_eq, stepK, evs, evalP]
    rw [f1NilCheck_eq (ev env x)]
    exact gen _
  · rename_i d x y
    simp only [o2, trO_eq, stepK, evs, evalP]
    rw [f2SlLo_eq (ev env x) (ev env y)]
    exact gen _
  · rename_i d x y
    simp only [o2, trO_eq, stepK, evs, evalP]
    rw [f2SlHi_eq (ev env x) (ev env y)]
    exact gen _
  · rename_i d x y z
    simp only [o3, trO_eq, stepK, evs, evalP]
    rw [f3SlLH_eq (ev env x) (ev env y) (ev env z)]
    exact gen _
  · rename_i zero places
    cases hns : wholeOf zero places with
    | some ns =>
      simp only [oN, evL_eq, stepK, evalP]
      rw [fBuild_eq hns]
      exact gen _
    | none =>
      simp only [oN, evL_eq, stepK]
      exact gen _
  · simp only [oN, evL_eq, stepK]
    exact gen _

theorem trR_ok (d : Option K) (k : RK) (args : List COpd) : KOk (trR d k args) d (.r k) args := by
  intro cf kk env H
  have gen : ∀ r : Option AV, (vThen r fun v => kk (putD d v env) H) = pThen (match r with | some v => some (v, H) | none => none) fun v H' => kk (putD d v env) H' := by
    intro r; cases r <;> rfl
  unfold trR
  split
  · rename_i d x
    simp only [oL, trO_eq, stepK, evs, evalR]
    rw [fLoad1_eq H (ev env x)]
    exact gen _
  · simp only [oR, evL_eq, stepK]
    exact gen _

theorem trA_ok (d : Option K) (k : AK) (args : List COpd) : KOk (trA d k args) d (.a k) args := by
  intro cf kk env H
  have gen : ∀ k : AK, oA d k (args.map trO) cf kk env H = pThen (stepK cf (.a k) (evs env args) H) fun v H' => kk (putD d v env) H' := by
    intro k
    simp only [oA, evL_eq, stepK]
    cases evalA H.nx k (evs env args) <;> rfl
  unfold trA
  split
  · rename_i e n zero places
    cases hns : wholeOf zero places with
    | some ns =>
      simp only [oAf, evL_eq, stepK, evalA]
      rw [fBuildSl_eq hns]
      cases aBuildSlice e n zero places H.nx (evs env args) <;> rfl
    | none => exact gen _
  · exact gen _

theorem trW_ok (d : Option K) (k : WK) (args : List COpd) : KOk (trW d k args) d (.w k) args := by
  intro cf kk env H
  unfold trW
  split
  · simp only [oL2, trO_eq, stepK, evs, evalW, fStore1_eq]
  · simp only [oL2, trO_eq, stepK, evs, evalW, fAppend_eq]
  · simp only [oW, evL_eq, stepK]

theorem trK_ok (d : Option K) (k : CK) (args : List COpd) : KOk (trK d k args) d k args := by
  cases k with
  | p k => exact trP_ok d k args
  | r k => exact trR_ok d k args
  | a k => exact trA_ok d k args
  | w k => exact trW_ok d k args
  | call f =>
    intro cf kk env H
    simp only [trK, oC, evL_eq, stepK]
  | callv =>
    intro cf kk env H
    simp only [trK, oV, evL_eq]
  | bad => intro cf kk env H; rfl

theorem stepOp_some (cf : CallF) (c : COp) (env : Env) (H : AH) (k : FK) (hg : gOk env c.guard = true) :
    (pThen (stepK cf c.kind (evs env c.args) H) fun v H' => k (putD c.dst v env) H') = eThen (runOps cf [c] env H) k := by
  simp only [runOps, stepOp, hg]
  cases stepK cf c.kind (evs env c.args) H with
  | none => rfl
  | some p => rfl

theorem trOp_ok (c : COp) : SOk (trOp c) [c] := by
  intro cf k env H
  cases hg : c.guard with
  | none =>
    have e0 : trOp c = trK c.dst c.kind c.args := by simp only [trOp, hg]
    rw [e0, trK_ok c.dst c.kind c.args cf k env H]
    exact stepOp_some cf c env H k (by rw [hg]; rfl)
  | some q =>
    obtain ⟨g, b⟩ := q
    have e0 : trOp c = oG g b c.dst (trK c.dst c.kind c.args) := by simp only [trOp, hg]
    rw [e0]
    have e : gOk env c.guard = boolG (tO g env) b := by
      have := trO_eq (.tmp g) env
      simp only [trO] at this
      rw [hg, this]
      simp only [gOk]
      generalize ev env (.tmp g) = a
      cases a with
      | bool c => cases c <;> cases b <;> rfl
      | _ => rfl
    unfold oG
    rw [← e]
    cases hgo : gOk env c.guard with
    | true =>
      show trK c.dst c.kind c.args cf k env H = _
      rw [trK_ok c.dst c.kind c.args cf k env H]
      exact stepOp_some cf c env H k hgo
    | false =>
      simp only [runOps, stepOp, hgo]
      rfl

theorem trOps_ok : ∀ l : List COp, SOk (trOps l) l
  | [] => fun cf k env H => rfl
  | [c] => trOp_ok c
  | c :: c' :: r => by
    intro cf k env H
    show trOp c cf (trOps (c' :: r) cf k) env H = _
    rw [trOp_ok c]
    simp only [runOps]
    cases hs : stepOp cf c env H with
    | none => rfl
    | some p =>
      obtain ⟨e, h⟩ := p
      show trOps (c' :: r) cf k e h = _
      rw [trOps_ok (c' :: r)]
      simp only [runOps]

end
end
end Go.Ax

/- The executor's fast layer: what its runs are worth. No condition. -/
set_option linter.unusedVariables false
set_option linter.unusedSimpArgs false
namespace Go.Ax
noncomputable section
noncomputable section

/-! ### Code -/

def fR (s : FStep) : FC := fun cf env H => s cf (fun e h => .nrm e h) env H
def fB (s : FStep) (b : FC) : FC := fun cf env H => s cf (b cf) env H
def fS (a b : FC) : FC := fun cf env H => (a cf env H).then (b cf)
def fI (x : FV) (a b : FC) : FC := fun cf env H => boolR (x env) (a cf env H) (b cf env H)
def fK (id : Nat) (b : FC) : FC := fun cf env H => (b cf env H).block id
def loopF (f : FK) (n : Nat) : FK := Nat.rec (motive := fun _ => FK) (fun _ _ => .no) (fun _ ih env H => (f env H).then ih) n
def fL (b : FC) : FC := fun cf => loopF (b cf) 100000
def fX (id : Nat) : FC := fun _ env H => .ext id env H
def fT : FC := fun _ env H => .ret env H
def fN : FC := fun _ env H => .nrm env H
def fD (ents : List Ent) : FC := fun cf env H => eThen (runDraw cf ents env ⟨H.h, reserve ents H.nx⟩ H.nx []) fun e h => .nrm e h
def fZ : FC := fun _ _ _ => .no

/-! ### A region that draws, run as closures -/

def oChk (mask : Nat) (rds : List Rd) : FStep := fun _ k env H => Bool.rec .no (k env H) (recheck H mask rds)
/-- A read that is looked at again behind later writes. -/
def oRd (d : Option K) (r : RK) (xs : List FV) (idx : Nat) (t : Rd → FStep) : FStep := fun cf k env H => vThen (evalR H r (evL xs env)) fun v => t ⟨idx, r, evL xs env, v⟩ cf k (putD d v env) H

def noA : List Ent → Bool
  | [] => true
  | e :: r => !e.op.kind.isA && noA r

/-- Does a later write ask this read anew? -/
def needRec (i : Nat) : List Ent → Bool
  | [] => false
  | w :: r => (w.op.kind.isW && !(Nat.testBit w.mask i)) || needRec i r

def trD : List Ent → List Rd → FStep
  | [], _ => oE
  | e :: r, rds =>
    match e.op.kind, e.op.guard with
    | .r k, none => cond (needRec e.idx r) (oRd e.op.dst k (e.op.args.map trO) e.idx fun rd => trD r (rd :: rds)) (oS (trOp e.op) (trD r rds))
    | .w k, none => cond rds.isEmpty (oS (trOp e.op) (trD r rds)) (oS (trOp e.op) (oS (oChk e.mask rds) (trD r rds)))
    | .call f, none => cond rds.isEmpty (oS (trOp e.op) (trD r rds)) (oS (trOp e.op) (oS (oChk e.mask rds) (trD r rds)))
    | .callv, none => cond rds.isEmpty (oS (trOp e.op) (trD r rds)) (oS (trOp e.op) (oS (oChk e.mask rds) (trD r rds)))
    | _, _ => oS (trOp e.op) (trD r rds)

/-- All new memory ahead of the writes, none of it guarded; no read that is asked anew, and no write, is guarded where that would matter. -/
def okD (rec : Bool) : List Ent → Bool
  | [] => true
  | e :: r =>
    (match e.op.kind with
      | .a _ => e.op.guard.isNone
      | .r _ => e.op.guard.isNone || !(needRec e.idx r)
      | .w _ => noA r && (e.op.guard.isNone || !rec)
      | .call _ => noA r && (e.op.guard.isNone || !rec)
      | .callv => noA r && (e.op.guard.isNone || !rec)
      | _ => true) &&
    okD (rec || (match e.op.kind with | .r _ => needRec e.idx r | _ => false)) r

/-- What is not kept is masked by all writes to come. -/
def Kept (rdsF rds : List Rd) (ents : List Ent) : Prop := ∀ w ∈ ents, w.op.kind.isW = true → ∀ H, recheck H w.mask rdsF = recheck H w.mask rds

theorem needRec_false {i : Nat} : ∀ {r : List Ent}, needRec i r = false → ∀ w ∈ r, w.op.kind.isW = true → Nat.testBit w.mask i = true
  | [], _, w, hw, _ => by simp at hw
  | a :: r, h, w, hw, hk => by
    simp only [needRec, Bool.or_eq_false_iff, Bool.and_eq_false_iff, Bool.not_eq_false'] at h
    rcases List.mem_cons.1 hw with rfl | hw
    · rcases h.1 with h1 | h1
      · rw [hk] at h1; simp at h1
      · exact h1
    · exact needRec_false h.2 w hw hk

theorem Kept.tail {F R : List Rd} {e : Ent} {r : List Ent} (h : Kept F R (e :: r)) : Kept F R r := fun w hw => h w (List.mem_cons_of_mem _ hw)
theorem Kept.both {F R : List Rd} {r : List Ent} (h : Kept F R r) (x : Rd) : Kept (x :: F) (x :: R) r := fun w hw hk H => by
  simp only [recheck]; rw [h w hw hk H]
theorem Kept.left {F R : List Rd} {r : List Ent} (h : Kept F R r) (x : Rd) (hx : needRec x.idx r = false) : Kept (x :: F) R r := fun w hw hk H => by
  simp only [recheck]; rw [h w hw hk H, needRec_false hx w hw hk]; simp

theorem noA_reserve : ∀ {l : List Ent} (k : K), noA l = true → reserve l k = k
  | [], _, _ => rfl
  | e :: r, k, h => by
    simp only [noA, Bool.and_eq_true, Bool.not_eq_true'] at h
    have hr := noA_reserve (l := r) k h.2
    unfold reserve
    cases hk : e.op.kind <;> first
      | (rw [hk] at h; simp [CK.isA] at h; done)
      | exact hr

theorem noA_dead (H : AH) : ∀ {l : List Ent} (k : K), noA l = true → deadFor H l k = true
  | [], _, _ => rfl
  | e :: r, k, h => by
    simp only [noA, Bool.and_eq_true, Bool.not_eq_true'] at h
    have hr := noA_dead H (l := r) k h.2
    unfold deadFor
    cases hk : e.op.kind <;> first
      | (rw [hk] at h; simp [CK.isA] at h; done)
      | exact hr

theorem trOp_as (c : COp) (cf : CallF) (k : FK) (env : Env) (H : AH) : trOp c cf k env H = match stepOp cf c env H with | some (e, h) => k e h | none => .no := by
  rw [trOp_ok]
  simp only [runOps]
  cases stepOp cf c env H with
  | none => rfl
  | some p => rfl

theorem gOk_none (env : Env) : gOk env none = true := rfl

/-- Where nothing is made. -/
theorem trD_noA (cf : CallF) (k : FK) : ∀ (ents : List Ent) (env : Env) (H : AH) (id : K) (F R : List Rd), noA ents = true → okD (!R.isEmpty) ents = true → Kept F R ents →
    trD ents R cf k env H = eThen (runDraw cf ents env H id F) k
  | [], env, H, id, F, R, _, _, _ => rfl
  | ⟨idx, ⟨dst, kind, args, guard⟩, mask⟩ :: r, env, H, id, F, R, hn, hok, hK => by
    have hKt := hK.tail
    simp only [okD, Bool.and_eq_true] at hok
    obtain ⟨ho1, ho2⟩ := hok
    simp only [noA, Bool.and_eq_true, Bool.not_eq_true'] at hn
    obtain ⟨hn1, hn2⟩ := hn
    have ih := fun env' H' F' R' h1 h2 => trD_noA cf k r env' H' id F' R' hn2 h1 h2
    -- what the plain step comes to
    have stp : ∀ t : FStep, (oS (trOp ⟨dst, kind, args, guard⟩) t) cf k env H = match stepOp cf ⟨dst, kind, args, guard⟩ env H with | some (e', h') => t cf k e' h' | none => .no :=
      fun t => trOp_as _ cf (t cf k) env H
    -- a write
    have wr : kind.isW = true → (∀ ev, stepK cf kind ev H = stepK cf kind ev H) → guard.isNone = true ∨ R.isEmpty = true →
        trD (⟨idx, ⟨dst, kind, args, guard⟩, mask⟩ :: r) R = (cond (guard.isNone && !R.isEmpty) (oS (trOp ⟨dst, kind, args, guard⟩) (oS (oChk mask R) (trD r R))) (oS (trOp ⟨dst, kind, args, guard⟩) (trD r R))) →
        (gOk env guard = true → runDraw cf (⟨idx, ⟨dst, kind, args, guard⟩, mask⟩ :: r) env H id F = match stepK cf kind (evs env args) H with
          | some (v, H') => (match cond (recheck H' mask F && deadFor H' r id) (some (putD dst v env, H', id, F)) none with | some (e', h', i', f') => runDraw cf r e' h' i' f' | none => none)
          | none => none) →
        (gOk env guard = false → runDraw cf (⟨idx, ⟨dst, kind, args, guard⟩, mask⟩ :: r) env H id F = runDraw cf r (putD dst (.tuple []) env) H id F) →
        okD (!R.isEmpty) r = true →
        trD (⟨idx, ⟨dst, kind, args, guard⟩, mask⟩ :: r) R cf k env H = eThen (runDraw cf (⟨idx, ⟨dst, kind, args, guard⟩, mask⟩ :: r) env H id F) k := by
      intro hw _ hg htr hrun1 hrun0 ho
      rw [htr]
      cases hgo : gOk env guard with
      | false =>
        rw [hrun0 hgo]
        have hgn : guard.isNone = false := by cases guard with | none => simp [gOk] at hgo | some q => rfl
        rw [hgn]
        simp only [Bool.false_and, cond_false]
        rw [stp]
        simp only [stepOp, hgo]
        exact ih _ _ F R ho hKt
      | true =>
        rw [hrun1 hgo]
        have hkr := hK _ (List.mem_cons_self ..) hw
        cases hs : stepK cf kind (evs env args) H with
        | none =>
          cases hc : (guard.isNone && !R.isEmpty) <;> simp only [cond_false, cond_true] <;> rw [stp] <;> simp only [stepOp, hgo, hs] <;> rfl
        | some p =>
          obtain ⟨v, H'⟩ := p
          simp only [noA_dead H' id hn2, Bool.and_true]
          have hkr' : recheck H' mask F = recheck H' mask R := hkr H'
          rw [hkr']
          cases hc : (guard.isNone && !R.isEmpty) with
          | true =>
            simp only [cond_true]
            rw [stp]
            simp only [stepOp, hgo, hs]
            show (Bool.rec FR.no (trD r R cf k (putD dst v env) H') (recheck H' mask R) : FR) = _
            cases recheck H' mask R with
            | false => rfl
            | true => exact ih _ _ F R ho hKt
          | false =>
            simp only [cond_false]
            rw [stp]
            simp only [stepOp, hgo, hs]
            have hR : R = [] := by
              rcases hg with hg | hg
              · rw [hg] at hc; simpa using hc
              · simpa using hg
            subst hR
            simp only [recheck, cond_true]
            exact ih _ _ F [] ho hKt
    cases kind with
    | p pk =>
      have htr : trD (⟨idx, ⟨dst, .p pk, args, guard⟩, mask⟩ :: r) R = oS (trOp ⟨dst, .p pk, args, guard⟩) (trD r R) := by cases guard <;> rfl
      rw [htr, stp]
      simp only [Bool.or_false] at ho2
      simp only [stepOp, runDraw, stepD, stepK]
      cases hg : gOk env guard with
      | false => exact ih _ _ F R ho2 hKt
      | true =>
        cases evalP pk (evs env args) with
        | none => rfl
        | some v => exact ih _ _ F R ho2 hKt
    | bad =>
      have htr : trD (⟨idx, ⟨dst, .bad, args, guard⟩, mask⟩ :: r) R = oS (trOp ⟨dst, .bad, args, guard⟩) (trD r R) := by cases guard <;> rfl
      rw [htr, stp]
      simp only [Bool.or_false] at ho2
      simp only [stepOp, runDraw, stepD, stepK]
      cases hg : gOk env guard with
      | false => exact ih _ _ F R ho2 hKt
      | true => rfl
    | a ak => simp [CK.isA] at hn1
    | r rk =>
      simp only at ho1 ho2
      cases hnr : needRec idx r with
      | false =>
        have htr : trD (⟨idx, ⟨dst, .r rk, args, guard⟩, mask⟩ :: r) R = oS (trOp ⟨dst, .r rk, args, guard⟩) (trD r R) := by
          cases guard with
          | none => simp only [trD, hnr, cond_false]
          | some q => rfl
        rw [htr, stp]
        rw [hnr, Bool.or_false] at ho2
        simp only [stepOp, runDraw, stepD, stepK]
        cases hg : gOk env guard with
        | false => exact ih _ _ F R ho2 hKt
        | true =>
          cases evalR H rk (evs env args) with
          | none => rfl
          | some v => exact ih _ _ _ R ho2 (hKt.left _ hnr)
      | true =>
        rw [hnr] at ho1
        have hgn : guard = none := by cases guard with | none => rfl | some q => simp at ho1
        subst hgn
        have htr : trD (⟨idx, ⟨dst, .r rk, args, none⟩, mask⟩ :: r) R = oRd dst rk (args.map trO) idx fun rd => trD r (rd :: R) := by simp only [trD, hnr, cond_true]
        rw [htr]
        simp only [oRd, evL_eq, runDraw, stepD, gOk]
        cases evalR H rk (evs env args) with
        | none => rfl
        | some v =>
          rw [hnr, Bool.or_true] at ho2
          exact ih _ _ (_ :: F) (_ :: R) (by simpa using ho2) (hKt.both _)
    | w wk =>
      simp only [Bool.or_false, Bool.and_eq_true, Bool.or_eq_true, Bool.not_not] at ho1 ho2
      exact wr rfl (fun _ => rfl) ho1.2 (by cases guard with
        | none => simp only [trD, Option.isNone, Bool.true_and]; cases R.isEmpty <;> rfl
        | some q => rfl) (fun hg => by
          simp only [runDraw, stepD, hg]
          cases stepK cf (.w wk) (evs env args) H with
          | none => rfl
          | some p => rfl) (fun hg => by simp only [runDraw, stepD, hg, CK.isA, cond_false]) ho2
    | call f =>
      simp only [Bool.or_false, Bool.and_eq_true, Bool.or_eq_true, Bool.not_not] at ho1 ho2
      exact wr rfl (fun _ => rfl) ho1.2 (by cases guard with
        | none => simp only [trD, Option.isNone, Bool.true_and]; cases R.isEmpty <;> rfl
        | some q => rfl) (fun hg => by
          simp only [runDraw, stepD, hg]
          cases stepK cf (.call f) (evs env args) H with
          | none => rfl
          | some p => rfl) (fun hg => by simp only [runDraw, stepD, hg, CK.isA, cond_false]) ho2
    | callv =>
      simp only [Bool.or_false, Bool.and_eq_true, Bool.or_eq_true, Bool.not_not] at ho1 ho2
      exact wr rfl (fun _ => rfl) ho1.2 (by cases guard with
        | none => simp only [trD, Option.isNone, Bool.true_and]; cases R.isEmpty <;> rfl
        | some q => rfl) (fun hg => by
          simp only [runDraw, stepD, hg]
          cases stepK cf .callv (evs env args) H with
          | none => rfl
          | some p => rfl) (fun hg => by simp only [runDraw, stepD, hg, CK.isA, cond_false]) ho2

theorem reserve_a {idx mask : Nat} {dst : Option K} {ak : AK} {args : List COpd} {guard : Option (K × Bool)} {r : List Ent} (id : K) :
    reserve (⟨idx, ⟨dst, .a ak, args, guard⟩, mask⟩ :: r) id = reserve r id.succ := rfl

/-- Where new memory is made first. -/
theorem trD_all (cf : CallF) (k : FK) : ∀ (ents : List Ent) (env : Env) (h : Tr ABlk) (id : K) (F R : List Rd), okD (!R.isEmpty) ents = true → Kept F R ents →
    trD ents R cf k env ⟨h, id⟩ = eThen (runDraw cf ents env ⟨h, reserve ents id⟩ id F) k
  | [], env, h, id, F, R, _, _ => rfl
  | ⟨idx, ⟨dst, kind, args, guard⟩, mask⟩ :: r, env, h, id, F, R, hok0, hK => by
    have hKt := hK.tail
    have hok := hok0
    simp only [okD, Bool.and_eq_true] at hok
    obtain ⟨ho1, ho2⟩ := hok
    have stp : ∀ t : FStep, (oS (trOp ⟨dst, kind, args, guard⟩) t) cf k env ⟨h, id⟩ = match stepOp cf ⟨dst, kind, args, guard⟩ env ⟨h, id⟩ with | some (e', h') => t cf k e' h' | none => .no :=
      fun t => trOp_as _ cf (t cf k) env ⟨h, id⟩
    have hw : kind.isW = true → noA r = true → trD (⟨idx, ⟨dst, kind, args, guard⟩, mask⟩ :: r) R cf k env ⟨h, id⟩ = eThen (runDraw cf (⟨idx, ⟨dst, kind, args, guard⟩, mask⟩ :: r) env ⟨h, reserve (⟨idx, ⟨dst, kind, args, guard⟩, mask⟩ :: r) id⟩ id F) k := by
      intro hk hn
      have hna : noA (⟨idx, ⟨dst, kind, args, guard⟩, mask⟩ :: r) = true := by
        simp only [noA, hn, Bool.and_true, Bool.not_eq_true']
        cases kind <;> first | rfl | simp [CK.isW] at hk
      rw [noA_reserve id hna]
      exact trD_noA cf k _ env ⟨h, id⟩ id F R hna hok0 hK
    cases kind with
    | p pk =>
      have htr : trD (⟨idx, ⟨dst, .p pk, args, guard⟩, mask⟩ :: r) R = oS (trOp ⟨dst, .p pk, args, guard⟩) (trD r R) := by cases guard <;> rfl
      rw [htr, stp]
      simp only [Bool.or_false] at ho2
      simp only [stepOp, runDraw, stepD, stepK]
      cases hg : gOk env guard with
      | false => exact trD_all cf k r _ h id F R ho2 hKt
      | true =>
        cases evalP pk (evs env args) with
        | none => rfl
        | some v => exact trD_all cf k r _ h id F R ho2 hKt
    | bad =>
      have htr : trD (⟨idx, ⟨dst, .bad, args, guard⟩, mask⟩ :: r) R = oS (trOp ⟨dst, .bad, args, guard⟩) (trD r R) := by cases guard <;> rfl
      rw [htr, stp]
      simp only [Bool.or_false] at ho2
      simp only [stepOp, runDraw, stepD, stepK]
      cases hg : gOk env guard with
      | false => exact trD_all cf k r _ h id F R ho2 hKt
      | true => rfl
    | a ak =>
      simp only at ho1
      have hgn : guard = none := by cases guard with | none => rfl | some q => simp at ho1
      subst hgn
      have htr : trD (⟨idx, ⟨dst, .a ak, args, none⟩, mask⟩ :: r) R = oS (trOp ⟨dst, .a ak, args, none⟩) (trD r R) := rfl
      rw [htr, stp]
      simp only [Bool.or_false] at ho2
      rw [reserve_a]
      simp only [stepOp, runDraw, stepD, stepK, gOk]
      cases evalA id ak (evs env args) with
      | none => rfl
      | some p =>
        obtain ⟨blk, v⟩ := p
        exact trD_all cf k r _ (h.set id blk) id.succ F R ho2 hKt
    | r rk =>
      simp only at ho1 ho2
      have hev : ∀ x y : K, evalR ⟨h, x⟩ rk (evs env args) = evalR ⟨h, y⟩ rk (evs env args) := fun x y => rfl
      have hres : reserve (⟨idx, ⟨dst, .r rk, args, guard⟩, mask⟩ :: r) id = reserve r id := rfl
      rw [hres]
      cases hnr : needRec idx r with
      | false =>
        have htr : trD (⟨idx, ⟨dst, .r rk, args, guard⟩, mask⟩ :: r) R = oS (trOp ⟨dst, .r rk, args, guard⟩) (trD r R) := by
          cases guard with
          | none => simp only [trD, hnr, cond_false]
          | some q => rfl
        rw [htr, stp]
        rw [hnr, Bool.or_false] at ho2
        simp only [stepOp, runDraw, stepD, stepK]
        cases hg : gOk env guard with
        | false => exact trD_all cf k r _ h id F R ho2 hKt
        | true =>
          rw [hev id (reserve r id)]
          cases evalR ⟨h, reserve r id⟩ rk (evs env args) with
          | none => rfl
          | some v => exact trD_all cf k r _ h id _ R ho2 (hKt.left _ hnr)
      | true =>
        rw [hnr] at ho1
        have hgn : guard = none := by cases guard with | none => rfl | some q => simp at ho1
        subst hgn
        have htr : trD (⟨idx, ⟨dst, .r rk, args, none⟩, mask⟩ :: r) R = oRd dst rk (args.map trO) idx fun rd => trD r (rd :: R) := by simp only [trD, hnr, cond_true]
        rw [htr]
        simp only [oRd, evL_eq, runDraw, stepD, gOk]
        rw [hev id (reserve r id)]
        cases evalR ⟨h, reserve r id⟩ rk (evs env args) with
        | none => rfl
        | some v =>
          rw [hnr, Bool.or_true] at ho2
          exact trD_all cf k r _ h id (_ :: F) (_ :: R) (by simpa using ho2) (hKt.both _)
    | w wk =>
      simp only [Bool.and_eq_true] at ho1
      exact hw rfl ho1.1
    | call f =>
      simp only [Bool.and_eq_true] at ho1
      exact hw rfl ho1.1
    | callv =>
      simp only [Bool.and_eq_true] at ho1
      exact hw rfl ho1.1

/-- A region that draws, as closures where that serves. -/
def trDr (ents : List Ent) : FC := cond (okD false ents) (fR (trD ents [])) (fD ents)

theorem trDr_eq (ents : List Ent) (cf : CallF) (env : Env) (H : AH) : trDr ents cf env H = fD ents cf env H := by
  unfold trDr
  cases hok : okD false ents with
  | false => rfl
  | true =>
    obtain ⟨h, nx⟩ := H
    exact trD_all cf (fun e h => .nrm e h) ents env h nx [] [] hok (fun w _ _ H => rfl)

def tr : CCode → FC
  | .skip => fN
  | .reg ops => fR (trOps ops)
  | .draw ents => trDr ents
  | .seq (.reg ops) b => fB (trOps ops) (tr b)
  | .seq (.draw ents) b => cond (okD false ents) (fB (trD ents []) (tr b)) (fS (fD ents) (tr b))
  | .seq a b => fS (tr a) (tr b)
  | .cond x a b => fI (trO x) (tr a) (tr b)
  | .block id b => fK id (tr b)
  | .loop b => fL (tr b)
  | .exit id => fX id
  | .ret => fT
  | .bad => fZ

section
variable {C : Ctx} {nt : Nat}

def FOk (C : Ctx) (nt : Nat) (c : Code) (f : FC) : Prop :=
  ∀ cf, CallOk C cf → ∀ (env env' : Env) (H H' : AH) (x : Ex), f cf env H = FR.of x env' H' →
    ∀ (g : G) (tmps : Array Value) (ds : List Deferred) (w : World) (Q : Exit → Act → World → Prop), GOk C.globs g → ERel g nt env tmps → Sim g H w → After C nt ds g H w x env' H' Q → c.wp C.P Q ⟨tmps, ds⟩ w

theorem FR.of_no {x : Ex} {e : Env} {h : AH} (a : FR.no = FR.of x e h) : False := by cases x <;> simp [FR.of] at a

theorem FR.of_inj {x y : Ex} {e e' : Env} {h h' : AH} (a : FR.of x e h = FR.of y e' h') : x = y ∧ e = e' ∧ h = h' := by
  cases x <;> cases y <;> simp_all [FR.of]

/-- A run comes to something, or to nothing. -/
theorem FR.split (r : FR) : r = .no ∨ ∃ x e h, r = FR.of x e h := by
  cases r with
  | no => exact .inl rfl
  | nrm e h => exact .inr ⟨.nrm, e, h, rfl⟩
  | ret e h => exact .inr ⟨.ret, e, h, rfl⟩
  | ext i e h => exact .inr ⟨.exit i, e, h, rfl⟩

theorem then_split {r : FR} {f : FK} {x : Ex} {e : Env} {h : AH} (a : r.then f = FR.of x e h) :
    (∃ e1 h1, r = FR.of .nrm e1 h1 ∧ f e1 h1 = FR.of x e h) ∨ (x ≠ .nrm ∧ r = FR.of x e h) := by
  cases r with
  | no => exact (FR.of_no a).elim
  | nrm e1 h1 => exact .inl ⟨e1, h1, rfl, a⟩
  | ret e1 h1 => exact .inr ⟨fun hx => by subst hx; simp [FR.then, FR.of] at a, a⟩
  | ext i e1 h1 => exact .inr ⟨fun hx => by subst hx; simp [FR.then, FR.of] at a, a⟩

theorem eThen_some {r : Option (Env × AH)} {k : FK} {y : FR} (hy : y ≠ .no) (a : eThen r k = y) : ∃ e h, r = some (e, h) ∧ k e h = y := by
  cases r with
  | none => exact absurd a.symm hy
  | some p => exact ⟨p.1, p.2, rfl, a⟩

theorem FR.of_ne {x : Ex} {e : Env} {h : AH} : FR.of x e h ≠ .no := by cases x <;> simp [FR.of]

theorem tr_seq (a b : CCode) (cf : CallF) (env : Env) (H : AH) : tr (.seq a b) cf env H = (tr a cf env H).then (tr b cf) := by
  cases a with
  | reg ops =>
    show trOps ops cf (tr b cf) env H = (trOps ops cf (fun e h => .nrm e h) env H).then (tr b cf)
    rw [trOps_ok, trOps_ok]
    cases runOps cf ops env H with
    | none => rfl
    | some p => rfl
  | draw ents =>
    show (cond (okD false ents) (fB (trD ents []) (tr b)) (fS (fD ents) (tr b)) : FC) cf env H = (trDr ents cf env H).then (tr b cf)
    rw [trDr_eq]
    cases hok : okD false ents with
    | false => rfl
    | true =>
      obtain ⟨h, nx⟩ := H
      refine (trD_all cf (tr b cf) ents env h nx [] [] hok (fun w _ _ H => rfl)).trans ?_
      show _ = (eThen (runDraw cf ents env ⟨h, reserve ents nx⟩ nx []) fun e h => .nrm e h).then (tr b cf)
      cases runDraw cf ents env ⟨h, reserve ents nx⟩ nx [] with
      | none => rfl
      | some p => rfl
  | _ => rfl

/-- THE FAST LAYER IS SOUND. -/
theorem tr_ok (hpts : ∀ u ∈ C.pts, ifOk C.P u = true) (hm : C.P.follows .mixedOrders = true) : ∀ c : Code, FOk C nt c (tr (compC C nt c)) := by
  have hT : TabOk C (.lf : Tr AFn) := ⟨fun f a h => by rw [Tr.get_lf] at h; simp at h, hpts, hm⟩
  intro c
  induction c with
  | skip =>
    intro cf hcf env env' H H' x he g tmps ds w Q hG hE hS hQ
    obtain ⟨rfl, rfl, rfl⟩ := FR.of_inj (x := .nrm) he
    exact wp_skip (hQ g tmps w (.refl hS) hE)
  | region id ops draws =>
    intro cf hcf env env' H H' x he g tmps ds w Q hG hE hS hQ
    cases draws with
    | false =>
      have he' : trOps (ops.toList.map (compOp C nt ops)) cf (fun e h => .nrm e h) env H = FR.of x env' H' := he
      rw [trOps_ok] at he'
      obtain ⟨e1, h1, hr, h2⟩ := eThen_some FR.of_ne he'
      obtain ⟨rfl, rfl, rfl⟩ := FR.of_inj (x := .nrm) h2
      refine wp_region ?_
      rw [List.range_eq_range']
      refine runOps_sound hT hcf (N := Q .normal) (fun _ _ => rfl) ops.size 0 ops.toList g env H tmps w (by simp) (fun k hk => by simp) hG hE hS hr ?_
      intro g' tmps' w' hs hE'
      exact hQ g' tmps' w' hs hE'
    | true =>
      simp only [compC] at he
      cases hok : okEnts ops (entsOf C nt ops (mkEnts C nt ops)) [] with
      | false => rw [hok] at he; exact (FR.of_no he).elim
      | true =>
        rw [hok] at he
        have he : fD (entsOf C nt ops (mkEnts C nt ops)) cf env H = FR.of x env' H' := (trDr_eq _ cf env H).symm.trans he
        obtain ⟨e1, h1, hr, h2⟩ := eThen_some FR.of_ne he
        obtain ⟨rfl, rfl, rfl⟩ := FR.of_inj (x := .nrm) h2
        refine draw_sound hT hcf hok hG hE hS hr ?_
        intro g' env2 tmps' w' hs hE' e
        exact hQ g' tmps' w' hs (hE'.congr e.symm)
  | seq a b iha ihb =>
    intro cf hcf env env' H H' x he g tmps ds w Q hG hE hS hQ
    rw [compC, tr_seq] at he
    refine wp_seq ?_
    rcases then_split he with ⟨e1, H1, h1, h2⟩ | ⟨hx, h1⟩
    · refine iha cf hcf _ _ _ _ _ h1 g tmps ds w _ hG hE hS ?_
      intro g1 tmps1 w1 hs1 hE1
      refine ihb cf hcf _ _ _ _ _ h2 g1 tmps1 ds w1 Q (hG.mono hs1.le) hE1 hs1.sim ?_
      intro g2 tmps2 w2 hs2 hE2
      exact hQ g2 tmps2 w2 (hs1.trans hs2) hE2
    · refine iha cf hcf _ _ _ _ _ h1 g tmps ds w _ hG hE hS ?_
      intro g1 tmps1 w1 hs1 hE1
      exact then_of hx (hQ g1 tmps1 w1 hs1 hE1)
  | cond o a b iha ihb =>
    intro cf hcf env env' H H' x he g tmps ds w Q hG hE hS hQ
    simp only [compC] at he
    split at he
    · rename_i y hy
      have hv := ev_sound (ds := ds) hG hE hy
      have he' : boolR (trO y env) (tr (compC C nt a) cf env H) (tr (compC C nt b) cf env H) = FR.of x env' H' := he
      rw [trO_eq] at he'
      cases hb : ev env y with
      | bool v =>
        rw [hb] at hv he'
        cases v with
        | true => exact wp_cond_true ((bool_iff hv true).2 rfl) (iha cf hcf _ _ _ _ _ he' g tmps ds w Q hG hE hS hQ)
        | false => exact wp_cond_false ((bool_iff hv false).2 rfl) (ihb cf hcf _ _ _ _ _ he' g tmps ds w Q hG hE hS hQ)
      | _ => rw [hb] at he'; exact (FR.of_no he').elim
    · exact (FR.of_no he).elim
  | block id b ihb =>
    intro cf hcf env env' H H' x he g tmps ds w Q hG hE hS hQ
    have he' : (tr (compC C nt b) cf env H).block id = FR.of x env' H' := he
    refine wp_block ?_
    rcases FR.split (tr (compC C nt b) cf env H) with h0 | ⟨y, e1, H1, h0⟩
    · rw [h0] at he'; exact (FR.of_no he').elim
    · rw [h0] at he'
      cases y with
      | nrm =>
        obtain ⟨rfl, rfl, rfl⟩ := FR.of_inj (x := .nrm) he'
        exact ihb cf hcf _ _ _ _ _ h0 g tmps ds w _ hG hE hS (fun g1 tmps1 w1 hs1 hE1 => hQ g1 tmps1 w1 hs1 hE1)
      | ret =>
        obtain ⟨rfl, rfl, rfl⟩ := FR.of_inj (x := .ret) he'
        exact ihb cf hcf _ _ _ _ _ h0 g tmps ds w _ hG hE hS (fun g1 tmps1 w1 hs1 hE1 => hQ g1 tmps1 w1 hs1 hE1)
      | exit j =>
        refine ihb cf hcf _ _ _ _ _ h0 g tmps ds w _ hG hE hS ?_
        intro g1 tmps1 w1 hs1 hE1
        have he2 : cond (Nat.beq j id) (FR.nrm e1 H1) (FR.ext j e1 H1) = FR.of x env' H' := he'
        cases hj : Nat.beq j id with
        | true =>
          rw [hj] at he2
          obtain ⟨rfl, rfl, rfl⟩ := FR.of_inj (x := .nrm) he2
          show (if j = id then _ else _)
          rw [if_pos (Nat.eq_of_beq_eq_true hj)]
          exact hQ g1 tmps1 w1 hs1 hE1
        | false =>
          rw [hj] at he2
          obtain ⟨rfl, rfl, rfl⟩ := FR.of_inj (x := .exit j) he2
          show (if j = id then _ else _)
          rw [if_neg (Nat.ne_of_beq_eq_false hj)]
          exact hQ g1 tmps1 w1 hs1 hE1
  | loop b ihb =>
    intro cf hcf env env' H H' x he g tmps ds w Q hG hE hS hQ
    have key : ∀ (n : Nat) (env : Env) (H : AH) (g : G) (tmps : Array Value) (w : World), loopF (tr (compC C nt b) cf) n env H = FR.of x env' H' → GOk C.globs g → ERel g nt env tmps → Sim g H w →
        After C nt ds g H w x env' H' Q → Code.rounds C.P b Q n ⟨tmps, ds⟩ w := by
      intro n
      induction n with
      | zero => intro env H g tmps w he; exact (FR.of_no he).elim
      | succ n ih =>
        intro env H g tmps w he hG hE hS hQ
        have he' : (tr (compC C nt b) cf env H).then (loopF (tr (compC C nt b) cf) n) = FR.of x env' H' := he
        show b.wp C.P (Exit.then (Code.rounds C.P b Q n) Q) ⟨tmps, ds⟩ w
        rcases then_split he' with ⟨e1, H1, h1, h2⟩ | ⟨hx, h1⟩
        · refine ihb cf hcf _ _ _ _ _ h1 g tmps ds w _ hG hE hS ?_
          intro g1 tmps1 w1 hs1 hE1
          refine ih e1 H1 g1 tmps1 w1 h2 (hG.mono hs1.le) hE1 hs1.sim ?_
          intro g2 tmps2 w2 hs2 hE2
          exact hQ g2 tmps2 w2 (hs1.trans hs2) hE2
        · refine ihb cf hcf _ _ _ _ _ h1 g tmps ds w _ hG hE hS ?_
          intro g1 tmps1 w1 hs1 hE1
          exact then_of hx (hQ g1 tmps1 w1 hs1 hE1)
    exact wp_loop_rounds 100000 (key 100000 env H g tmps w he hG hE hS hQ)
  | exit id =>
    intro cf hcf env env' H H' x he g tmps ds w Q hG hE hS hQ
    obtain ⟨rfl, rfl, rfl⟩ := FR.of_inj (x := .exit id) he
    exact wp_exit (hQ g tmps w (.refl hS) hE)
  | ret =>
    intro cf hcf env env' H H' x he g tmps ds w Q hG hE hS hQ
    obtain ⟨rfl, rfl, rfl⟩ := FR.of_inj (x := .ret) he
    exact wp_ret (hQ g tmps w (.refl hS) hE)
  | _ =>
    intro cf hcf env env' H H' x he g tmps ds w Q hG hE hS hQ
    exact (FR.of_no he).elim

/-! ### Calls -/

/-- A function: its code, or what it is known to come to. -/
inductive FF where
  | code (run : FC) (res : List CRes)
  | hook (h : List AV → AH → Option (AV × AH))

def resThen (r : Option (List AV)) (H : AH) : Option (AV × AH) := Option.rec (motive := fun _ => Option (AV × AH)) none (fun l => some (ofVals l, H)) r

def FR.results (r : FR) : List CRes → Option (AV × AH) :=
  FR.rec (motive := fun _ => List CRes → Option (AV × AH)) (fun _ => none) (fun e h rs => resThen (evalRes e h rs) h) (fun e h rs => resThen (evalRes e h rs) h) (fun _ _ _ _ => none) r

def FF.call (f : FF) : CallF → List AV → AH → Option (AV × AH) :=
  FF.rec (motive := fun _ => CallF → List AV → AH → Option (AV × AH)) (fun run res cf args H => (run cf (Tr.setFrom 0 args .lf) H).results res) (fun h _ args H => h args H) f

def callT (r : Option FF) : CallF → List AV → AH → Option (AV × AH) :=
  Option.rec (motive := fun _ => CallF → List AV → AH → Option (AV × AH)) (fun _ _ _ => none) (fun f cf args H => f.call cf args H) r

def callF (tab : Tr FF) (n : Nat) : CallF := Nat.rec (motive := fun _ => CallF) (fun _ _ _ => none) (fun _ ih f args H => callT (tab.get f) ih args H) n

def HookOk (C : Ctx) (f : K) (h : List AV → AH → Option (AV × AH)) : Prop :=
  ∀ args H v H', h args H = some (v, H') → ∀ g w (Args : Array Value), GOk C.globs g → VRels g args Args.toList → Sim g H w →
    (∃ fn c, C.P.funcs[f.toNat - 1]? = some fn ∧ fn.body = some c ∧ fn.name ≠ "runtime.NumGoroutine") ∧
    Calls C.P (f.toNat - 1) Args w fun e w' => ∃ g' V, e = .returned V ∧ Step g H w g' H' w' ∧ VRel g' v V

def CodeOk (C : Ctx) (f : K) (run : FC) (res : List CRes) : Prop :=
  ∃ fn c, C.P.funcs[f.toNat - 1]? = some fn ∧ fn.body = some c ∧ compRes C.P fn.results.toList = some res ∧ run = tr (compC C fn.ntmps c) ∧ fn.name ≠ "runtime.NumGoroutine"

def FTabOk (C : Ctx) (tab : Tr FF) : Prop := ∀ f e, tab.get f = some e → match e with
  | .code run res => CodeOk C f run res
  | .hook h => HookOk C f h

theorem code_ok (hpts : ∀ u ∈ C.pts, ifOk C.P u = true) (hm : C.P.follows .mixedOrders = true) {f : K} {run : FC} {res : List CRes} (h : CodeOk C f run res) {cf : CallF} (hcf : CallOk C cf) :
    HookOk C f (fun args H => (run cf (Tr.setFrom 0 args .lf) H).results res) := by
  intro args H v H' he g w Args hG hA hS
  obtain ⟨fn', c, hf, hb, hres, rfl, hnm⟩ := h
  refine ⟨⟨fn', c, hf, hb, hnm⟩, ?_⟩
  have hr := tr_ok (C := C) (nt := fn'.ntmps) hpts hm c
  have key : ∀ (x : Ex) (env : Env), tr (compC C fn'.ntmps c) cf (Tr.setFrom 0 args .lf) H = FR.of x env H' → (∀ i, x ≠ .exit i) → ∀ l, evalRes env H' res = some l → v = ofVals l →
      Calls C.P (f.toNat - 1) Args w fun e w' => ∃ g' V, e = .returned V ∧ Step g H w g' H' w' ∧ VRel g' v V := by
    intro x env hrun hx l hl hv
    refine calls_of_wp hf hb (hr cf hcf _ _ _ _ _ hrun g _ [] w _ hG ?_ hS ?_)
    · exact args_rel hA
    · intro g' tmps' w' hstep hE'
      obtain ⟨V, h1, h2⟩ := results_all (fn' := fn') (C := C) hstep.sim hE' hres hl
      rw [← hv] at h2
      cases x with
      | nrm => exact ⟨rfl, _, h1, g', _, rfl, hstep, h2⟩
      | ret => exact ⟨rfl, _, h1, g', _, rfl, hstep, h2⟩
      | exit i => exact absurd rfl (hx i)
  have fin : ∀ (e : Env) (h : AH), resThen (evalRes e h res) h = some (v, H') → h = H' ∧ ∃ l, evalRes e H' res = some l ∧ v = ofVals l := by
    intro e h hh
    cases hl : evalRes e h res with
    | none => rw [hl] at hh; simp [resThen] at hh
    | some l =>
      rw [hl] at hh
      simp only [resThen, Option.some.injEq, Prod.mk.injEq] at hh
      obtain ⟨h1, rfl⟩ := hh
      exact ⟨rfl, l, hl, h1.symm⟩
  simp only at he
  rcases FR.split (tr (compC C fn'.ntmps c) cf (Tr.setFrom 0 args .lf) H) with h0 | ⟨x, e, h, h0⟩
  · rw [h0] at he; simp [FR.results] at he
  · rw [h0] at he
    cases x with
    | nrm =>
      obtain ⟨rfl, l, h1, h2⟩ := fin e h he
      exact key .nrm e h0 (by simp) l h1 h2
    | ret =>
      obtain ⟨rfl, l, h1, h2⟩ := fin e h he
      exact key .ret e h0 (by simp) l h1 h2
    | exit i => simp [FR.of, FR.results] at he

/-- ALL CALLS. -/
theorem callF_ok (hpts : ∀ u ∈ C.pts, ifOk C.P u = true) (hm : C.P.follows .mixedOrders = true) {tab : Tr FF} (hT : FTabOk C tab) : ∀ n, CallOk C (callF tab n)
  | 0 => fun f args H v H' h => by simp [callF] at h
  | n + 1 => by
    intro f args H v H' h
    have h' : callT (tab.get f) (callF tab n) args H = some (v, H') := h
    cases ht : tab.get f with
    | none => rw [ht] at h'; simp [callT] at h'
    | some e =>
      rw [ht] at h'
      have hok := hT f e ht
      cases e with
      | code run res => exact code_ok hpts hm hok (callF_ok hpts hm hT n) args H v H' h'
      | hook hk => exact hok args H v H' h'

end
end
end
end Go.Ax

/- A heap to start from: rows that nobody may write. No condition. -/
set_option linter.unusedVariables false
set_option linter.unusedSimpArgs false
namespace Go.Ax
noncomputable section
noncomputable section

/-- A row of cells, under an id, from a cell of a block on. -/
structure LRow where
  id : K
  B : Nat
  O : Nat
  c : List AV

def rowsH : List LRow → Tr ABlk
  | [] => .lf
  | r :: l => (rowsH l).set r.id (.cells r.c.length (Tr.setFrom 0 r.c .lf) false)

def rowsG (S : Nat → Nat) : List LRow → G
  | [] => fun _ => none
  | r :: l => fun k => if k = r.id then some (r.B, r.O, S r.B) else rowsG S l k

theorem rowsG_some {S : Nat → Nat} : ∀ {l : List LRow} {k : K} {x : Nat × Nat × Nat}, rowsG S l k = some x → ∃ r ∈ l, r.id = k ∧ x = (r.B, r.O, S r.B)
  | [], k, x, h => by simp [rowsG] at h
  | r :: l, k, x, h => by
    simp only [rowsG] at h
    by_cases hk : k = r.id
    · rw [if_pos hk, Option.some.injEq] at h
      exact ⟨r, List.mem_cons_self .., hk.symm, h.symm⟩
    · rw [if_neg hk] at h
      obtain ⟨r', h1, h2⟩ := rowsG_some h
      exact ⟨r', List.mem_cons_of_mem _ h1, h2⟩

theorem rowsG_of {S : Nat → Nat} : ∀ {l : List LRow} {r : LRow}, r ∈ l → (l.map (·.id)).Nodup → rowsG S l r.id = some (r.B, r.O, S r.B)
  | [], r, h, _ => by simp at h
  | a :: l, r, h, hn => by
    simp only [List.map_cons, List.nodup_cons] at hn
    simp only [rowsG]
    rcases List.mem_cons.1 h with rfl | h
    · rw [if_pos rfl]
    · rw [if_neg (fun e => hn.1 (by rw [← e]; exact List.mem_map_of_mem h))]
      exact rowsG_of h hn.2

theorem rowsH_get : ∀ {l : List LRow} {k : K}, (l.map (·.id)).Nodup → (rowsH l).get k = none ∧ (∀ r ∈ l, r.id ≠ k) ∨ ∃ r ∈ l, r.id = k ∧ (rowsH l).get k = some (.cells r.c.length (Tr.setFrom 0 r.c .lf) false)
  | [], k, _ => .inl ⟨Tr.get_lf k, fun r h => by simp at h⟩
  | a :: l, k, hn => by
    simp only [List.map_cons, List.nodup_cons] at hn
    simp only [rowsH, Tr.get_set]
    by_cases hk : a.id = k
    · rw [if_pos hk]
      exact .inr ⟨a, List.mem_cons_self .., hk, rfl⟩
    · rw [if_neg hk]
      rcases rowsH_get (l := l) (k := k) hn.2 with ⟨h1, h2⟩ | ⟨r, h1, h2, h3⟩
      · exact .inl ⟨h1, fun r hr => by
          rcases List.mem_cons.1 hr with rfl | hr
          · exact hk
          · exact h2 r hr⟩
      · exact .inr ⟨r, List.mem_cons_of_mem _ h1, h2, h3⟩

def szOf (w : World) (B : Nat) : Nat := match w.heap[B]? with | some (.cells cs _ _) => cs.size | _ => 0

theorem szOf_eq {w : World} {B : Nat} {cs : Array Value} {T : TypeId} {fz : Nat × Nat} (h : w.heap[B]? = some (.cells cs T fz)) : szOf w B = cs.size := by simp only [szOf, h]

/-- THE START. -/
theorem rows_sim {l : List LRow} {nx : K} {w : World} (hn : (l.map (·.id)).Nodup) (hnx : ∀ r ∈ l, r.id.toNat < nx.toNat)
    (hcell : ∀ r ∈ l, ∃ cs T, w.heap[r.B]? = some (.cells cs T (0, 0)) ∧ r.O + r.c.length ≤ cs.size ∧
      ∀ i v, r.c[i]? = some v → ∃ V, cs[r.O + i]? = some V ∧ VRel (rowsG (szOf w) l) v V)
    (hap : ∀ r ∈ l, ∀ r' ∈ l, r.id ≠ r'.id → r.B = r'.B → ∀ o o', o < r.c.length → o' < r'.c.length → r.O + o ≠ r'.O + o') :
    Sim (rowsG (szOf w) l) ⟨rowsH l, nx⟩ w ∧ ∀ id, ((⟨rowsH l, nx⟩ : AH).get id).rw = false := by
  have hget : ∀ k, ((⟨rowsH l, nx⟩ : AH).get k = .dead) ∨ ∃ r ∈ l, r.id = k ∧ (⟨rowsH l, nx⟩ : AH).get k = .cells r.c.length (Tr.setFrom 0 r.c .lf) false := by
    intro k
    rcases rowsH_get (l := l) (k := k) hn with ⟨h1, _⟩ | ⟨r, h1, h2, h3⟩
    · left; simp only [AH.get, h1]
    · right; exact ⟨r, h1, h2, by simp only [AH.get, h3]⟩
  refine ⟨⟨?_, ?_, ?_, ?_⟩, ?_⟩
  · intro id hl
    rcases hget id with h | ⟨r, hr, rfl, h⟩
    · rw [h] at hl; simp [ABlk.live] at hl
    · obtain ⟨cs, T, hh, hfit, hc⟩ := hcell r hr
      have hsz := szOf_eq hh
      refine ⟨r.B, r.O, szOf w r.B, rowsG_of hr hn, ?_⟩
      rw [h]
      refine ⟨cs, T, (0, 0), hh, ⟨hfit, ?_, fun o _ _ h => by simp at h, fun _ => rfl⟩, hsz.symm⟩
      intro i hi
      obtain ⟨V, h1, h2⟩ := hc i _ (List.getElem?_eq_getElem hi)
      refine ⟨_, V, ?_, h1, h2⟩
      rw [Tr.get_mk r.c i hi, List.getElem?_eq_getElem hi]
  · intro id id' B x x' hl hl' e e'
    rcases hget id with h | ⟨r, hr, rfl, h⟩
    · rw [h] at hl; simp [ABlk.live] at hl
    · rcases hget id' with h' | ⟨r', hr', rfl, h'⟩
      · rw [h'] at hl'; simp [ABlk.live] at hl'
      · rw [rowsG_of hr hn] at e
        rw [rowsG_of hr' hn] at e'
        simp only [Option.some.injEq, Prod.mk.injEq] at e e'
        by_cases hid : r.id = r'.id
        · exact .inl hid
        · right
          rw [h, h']
          refine ⟨rfl, rfl, fun o o' ho ho' => ?_⟩
          rw [← e.2, ← e'.2]
          exact hap r hr r' hr' hid (e.1.trans e'.1.symm) o o' ho ho'
  · intro id B x e
    obtain ⟨r, hr, _, ex⟩ := rowsG_some e
    obtain ⟨cs, T, hh, _⟩ := hcell r hr
    simp only [Prod.mk.injEq] at ex
    rw [ex.1]
    exact (Array.getElem?_eq_some_iff.1 hh).1
  · intro id x e
    obtain ⟨r, hr, rfl, _⟩ := rowsG_some e
    exact hnx r hr
  · intro id
    rcases hget id with h | ⟨r, hr, _, h⟩ <;> rw [h] <;> rfl

/-- WHERE NOTHING THAT LIVES MAY BE WRITTEN, nothing that was there is written. -/
theorem Step.below {g g' : G} {H H' : AH} {w w' : World} (h : Step g H w g' H' w') (hro : ∀ id, (H.get id).rw = false) : RowKit.Below w.heap.size w w' :=
  ⟨h.os, h.tape, h.output, h.size, fun k hk => h.frame k hk (fun id x hrw => by rw [hro id] at hrw; simp at hrw)⟩

end
end
end Go.Ax

/- The rows that the listed variables are. No condition. -/
set_option linter.unusedVariables false
set_option linter.unusedSimpArgs false
namespace Go.Ax
noncomputable section
noncomputable section

def places (r : LRow) : List MemPlace := (List.range r.c.length).map fun o => .cell r.B (r.O + o)

/-- What a row's cells are. -/
def RowOk (w : World) (rows : List LRow) (r : LRow) : Prop :=
  ∃ cs T, w.heap[r.B]? = some (.cells cs T (0, 0)) ∧ r.O + r.c.length ≤ cs.size ∧
    ∀ g : G, (∀ r' ∈ rows, g r'.id = some (r'.B, r'.O, szOf w r'.B)) → ∀ i v, r.c[i]? = some v → ∃ V, cs[r.O + i]? = some V ∧ VRel g v V

/-- What is known of an entry of the list. -/
structure EntryAt (P : Program) (w : World) (n : String) (d : DataW Unit) (seg : List MemPlace) : Prop where
  is : ∃ g t cs fuel p, P.globalNamed n = some g ∧ (P.globals[g]?).map (·.type) = some t ∧ w.var? P n = some cs ∧ DataW.trod (fun _ => ()) P w 0 (fun _ => true) false fuel t cs.toList = some (d, p) ∧ seg = MemPlace.row ⟨g, 0, none⟩ cs.size ++ p
  cell : ∀ b off, MemPlace.cell b off ∈ seg → (∃ c t, w.heap[b]? = some (.cells c t (0, 0))) ∧ ∀ u v, w.cell? ⟨b, off, none⟩ = some (.iface u v) → Value.okWide P w .any 0 u v

/-- A row of a variable's own (its id is no greater than a bound) lies where the variable lies. -/
def AtHome (gb : Nat) (r : LRow) : Prop := r.id.toNat ≤ gb → r.B + 1 = r.id.toNat ∧ r.O = 0

def EntryOk (gb : Nat) (P : Program) (w : World) (spec : List (K × List AV)) (seg : List MemPlace) : Prop :=
  ∃ rows : List LRow, rows.map (fun r => (r.id, r.c)) = spec ∧ (rows.flatMap places).Sublist seg ∧ ∀ r ∈ rows, RowOk w rows r ∧ AtHome gb r

theorem RowOk.mono {w : World} {rows rows' : List LRow} (h : ∀ r ∈ rows, r ∈ rows') {r : LRow} (a : RowOk w rows r) : RowOk w rows' r :=
  let ⟨cs, T, h1, h2, h3⟩ := a; ⟨cs, T, h1, h2, fun g hg => h3 g (fun r' hr => hg r' (h r' hr))⟩

/-- All entries. -/
theorem laid_rows {gb : Nat} {P : Program} {w : World} (spec : String × DataW Unit → List (K × List AV)) : ∀ (laid : List (String × DataW Unit)) (ps : List MemPlace), DataW.LaidVars P w laid ps →
    (∀ b off, MemPlace.cell b off ∈ ps → (∃ c t, w.heap[b]? = some (.cells c t (0, 0))) ∧ ∀ u v, w.cell? ⟨b, off, none⟩ = some (.iface u v) → Value.okWide P w .any 0 u v) →
    (∀ x ∈ laid, ∀ seg, EntryAt P w x.1 x.2 seg → EntryOk gb P w (spec x) seg) →
    EntryOk gb P w (laid.flatMap spec) ps
  | [], ps, h, _, _ => by
    have : ps = [] := h
    subst this
    exact ⟨[], rfl, List.Sublist.refl _, fun r hr => by simp at hr⟩
  | (n, d) :: r, ps, h, hcell, hok => by
    obtain ⟨g, t, cs, fuel, p, q, h1, h2, h3, h4, h5, rfl⟩ := h
    obtain ⟨rows1, a1, a2, a3⟩ := hok (n, d) (List.mem_cons_self ..) (MemPlace.row ⟨g, 0, none⟩ cs.size ++ p) ⟨⟨g, t, cs, fuel, p, h1, h2, h3, h4, rfl⟩, fun b off hb => hcell b off (List.mem_append_left _ hb)⟩
    obtain ⟨rows2, b1, b2, b3⟩ := laid_rows spec r q h5 (fun b off hb => hcell b off (List.mem_append_right _ hb)) (fun x hx => hok x (List.mem_cons_of_mem _ hx))
    refine ⟨rows1 ++ rows2, ?_, ?_, ?_⟩
    · rw [List.map_append, a1, b1, List.flatMap_cons]
    · rw [List.flatMap_append]
      exact a2.append b2
    · intro x hx
      rcases List.mem_append.1 hx with hx | hx
      · exact ⟨(a3 x hx).1.mono (fun _ h => List.mem_append_left _ h), (a3 x hx).2⟩
      · exact ⟨(b3 x hx).1.mono (fun _ h => List.mem_append_right _ h), (b3 x hx).2⟩

theorem nodup_flatMap_ne {α β : Type} {f : α → List β} : ∀ {l : List α}, (l.flatMap f).Nodup → ∀ x ∈ l, ∀ y ∈ l, x ≠ y → ∀ z, z ∈ f x → z ∈ f y → False
  | [], _, x, hx, _, _, _, _, _, _ => by simp at hx
  | a :: l, h, x, hx, y, hy, hne, z, h1, h2 => by
    rw [List.flatMap_cons, List.nodup_append] at h
    obtain ⟨_, hn2, hn3⟩ := h
    rcases List.mem_cons.1 hx with e1 | hx'
    · rcases List.mem_cons.1 hy with e2 | hy'
      · exact hne (e1.trans e2.symm)
      · exact hn3 z (e1 ▸ h1) z (List.mem_flatMap.2 ⟨y, hy', h2⟩) rfl
    · rcases List.mem_cons.1 hy with e2 | hy'
      · exact hn3 z (e2 ▸ h2) z (List.mem_flatMap.2 ⟨x, hx', h1⟩) rfl
      · exact nodup_flatMap_ne hn2 x hx' y hy' hne z h1 h2

def specH : List (K × List AV) → Tr ABlk
  | [] => .lf
  | r :: l => (specH l).set r.1 (.cells r.2.length (Tr.setFrom 0 r.2 .lf) false)

theorem specH_rows : ∀ l : List LRow, rowsH l = specH (l.map fun r => (r.id, r.c))
  | [] => rfl
  | r :: l => by simp only [rowsH, List.map_cons, specH, specH_rows l]

/-- THE START, off the listed variables. -/
theorem laid_sim {gb : Nat} {P : Program} {w : World} {laid : List (String × DataW Unit)} (h : laidMet P laid w) (spec : String × DataW Unit → List (K × List AV)) (nx : K)
    (hok : ∀ x ∈ laid, ∀ seg, EntryAt P w x.1 x.2 seg → EntryOk gb P w (spec x) seg) (hn : ((laid.flatMap spec).map (·.1)).Nodup) (hnx : ∀ x ∈ laid.flatMap spec, x.1.toNat < nx.toNat) :
    ∃ rows : List LRow, rows.map (fun r => (r.id, r.c)) = laid.flatMap spec ∧ (∀ r ∈ rows, rowsG (szOf w) rows r.id = some (r.B, r.O, szOf w r.B)) ∧ (∀ r ∈ rows, RowOk w rows r ∧ AtHome gb r) ∧
      Sim (rowsG (szOf w) rows) ⟨specH (laid.flatMap spec), nx⟩ w ∧ ∀ id, ((⟨specH (laid.flatMap spec), nx⟩ : AH).get id).rw = false := by
  obtain ⟨ps, h1, h2, h3⟩ := h
  obtain ⟨rows, a1, a2, a3⟩ := laid_rows spec laid ps h1 h3 hok
  have hids : rows.map (·.id) = (laid.flatMap spec).map (·.1) := by rw [← a1, List.map_map]; rfl
  have hn' : (rows.map (·.id)).Nodup := by rw [hids]; exact hn
  have hg : ∀ r ∈ rows, rowsG (szOf w) rows r.id = some (r.B, r.O, szOf w r.B) := fun r hr => rowsG_of hr hn'
  have hnd : (rows.flatMap places).Nodup := a2.nodup h2
  have := rows_sim (l := rows) (nx := nx) (w := w) hn' (fun r hr => hnx (r.id, r.c) (by rw [← a1]; exact List.mem_map_of_mem hr)) (fun r hr => by
      obtain ⟨cs, T, b1, b2, b3⟩ := (a3 r hr).1
      exact ⟨cs, T, b1, b2, b3 _ hg⟩) (fun r hr r' hr' hne hB o o' ho ho' e => by
      refine nodup_flatMap_ne hnd r hr r' hr' (fun e => hne (by rw [e])) (.cell r.B (r.O + o)) ?_ ?_
      · exact List.mem_map.2 ⟨o, List.mem_range.2 ho, rfl⟩
      · exact List.mem_map.2 ⟨o', List.mem_range.2 ho', by rw [hB, e]⟩)
  rw [specH_rows, a1] at this
  exact ⟨rows, a1, hg, a3, this⟩

end
end
end Go.Ax

/- The rows that an error variable, an array of whole numbers are. No condition. -/
set_option linter.unusedVariables false
set_option linter.unusedSimpArgs false
namespace Go.Ax
noncomputable section
noncomputable section
section
variable {P : Program} {w : World} {n : String}

theorem entry_none {gb : Nat} {d : DataW Unit} {seg : List MemPlace} (h : EntryAt P w n d seg) : EntryOk gb P w [] seg := ⟨[], rfl, List.nil_sublist _, fun r hr => by simp at hr⟩

theorem var_block {cs : Array Value} {g : Nat} (hg : P.globalNamed n = some g) (h : w.var? P n = some cs) : ∃ T fz, w.heap[g]? = some (.cells cs T fz) := by
  simp only [World.var?, hg, Option.bind_some] at h
  split at h
  · rename_i c T fz hh
    simp only [Option.some.injEq] at h
    subst h
    exact ⟨T, fz, hh⟩
  · simp at h

theorem cell_spot {a : Addr} {v : Value} (h : w.cell? a = some v) : a.spot = none ∧ ∃ c T fz, w.heap[a.block]? = some (.cells c T fz) ∧ c[a.off]? = some v := by
  unfold World.cell? at h
  split at h
  · rename_i c T fz hh
    split at h
    · simp at h
    · rename_i hs
      exact ⟨by simpa using hs, c, T, fz, hh, h⟩
  · simp at h

theorem entry_sent {gb gi : Nat} {ti tp te ts : TypeId} {ms : Array (String × TypeId)} {nm : String} {f : Field} {text : List UInt8} {seg : List MemPlace} (idp : K) (hidp : gb < idp.toNat)
    (hg : P.globalNamed n = some gi) (ht : (P.globals[gi]?).map (·.type) = some ti)
    (hi : P.underlying ti = some (.interface ms)) (hrow : ∀ u, P.typeName? 3 u = some nm → u = tp)
    (hp : P.underlying tp = some (.pointer te)) (he : P.underlying te = some (.struct #[f])) (hft : f.type = ts) (hfo : f.offset = 0) (hs : P.underlying ts = some .string) (hc : P.cellsOf te = 1) (hcs : P.cellsOf ts = 1)
    (h : EntryAt P w n (.iface nm (.ptr (.agg [.lit (.string text)]))) seg) :
    EntryOk gb P w [(K.of gi, [.iface tp (.ptr idp 0)]), (idp, [.str text.length (pack text)])] seg := by
  obtain ⟨⟨g, t, cs, fuel, p, h1, h2, h3, h4, rfl⟩, hcell⟩ := h
  rw [hg] at h1
  obtain rfl := Option.some.inj h1
  rw [ht] at h2
  obtain rfl := Option.some.inj h2
  obtain ⟨T, fz, hb⟩ := var_block hg h3
  obtain ⟨a, s, hcs', hca, htext, hsz, hp'⟩ := errorString_of_trod hi hrow hp he hft hfo hs hc hcs h4 (fun u v e => by
    have hc1 : cs.size = 1 := by rw [← Array.length_toList, e]; rfl
    refine (hcell gi 0 (List.mem_append_left _ ?_)).2 u v ?_
    · rw [hc1]; simp [MemPlace.row]
    · rw [World.var?_cell hg h3 0, ← Array.getElem?_toList, e]; rfl)
  subst hp'
  have hc1 : cs.size = 1 := by rw [← Array.length_toList, hcs']; rfl
  obtain ⟨hspot, c2, T2, fz2, hb2, hc2⟩ := cell_spot hca
  refine ⟨[⟨K.of gi, gi, 0, [.iface tp (.ptr idp 0)]⟩, ⟨idp, a.block, a.off, [.str text.length (pack text)]⟩], rfl, ?_, ?_⟩
  · rw [hc1]
    simp [places, MemPlace.row]
  · intro r hr
    simp only [List.mem_cons, List.not_mem_nil, or_false] at hr
    rcases hr with rfl | rfl
    · obtain ⟨⟨c, t, hh⟩, _⟩ := hcell gi 0 (List.mem_append_left _ (by rw [hc1]; simp [MemPlace.row]))
      have := hh.symm.trans hb
      simp only [Option.some.injEq, Obj.cells.injEq] at this
      obtain ⟨rfl, rfl, rfl⟩ := this
      refine ⟨?_, fun _ => ⟨(K.toNat_of gi).symm, rfl⟩⟩
      refine ⟨c, t, hh, by simp [hc1], fun G hG i v hv => ?_⟩
      cases i with
      | succ i => simp at hv
      | zero =>
        simp only [List.getElem?_cons_zero, Option.some.injEq] at hv
        subst hv
        refine ⟨_, by rw [← Array.getElem?_toList, hcs']; rfl, .iface ?_⟩
        have := hG ⟨idp, a.block, a.off, [.str text.length (pack text)]⟩ (by simp)
        have ha : a = ⟨a.block, a.off + 0, none⟩ := by cases a; simp at hspot; simp [hspot]
        rw [ha]
        exact .ptr this
    · obtain ⟨⟨c, t, hh⟩, _⟩ := hcell a.block a.off (List.mem_append_right _ (by simp [MemPlace.row]))
      have := hh.symm.trans hb2
      simp only [Option.some.injEq, Obj.cells.injEq] at this
      obtain ⟨rfl, rfl, rfl⟩ := this
      have hlt := (Array.getElem?_eq_some_iff.1 hc2).1
      refine ⟨?_, fun h => absurd h (Nat.not_le.2 hidp)⟩
      refine ⟨c, t, hh, by simp; omega, fun G hG i v hv => ?_⟩
      cases i with
      | succ i => simp at hv
      | zero =>
        simp only [List.getElem?_cons_zero, Option.some.injEq] at hv
        subst hv
        refine ⟨_, by rw [Nat.add_zero]; exact hc2, .str ?_⟩
        have := SRel.of s
        rw [htext] at this
        have e : s.size = text.length := by rw [← htext]; rfl
        rw [e] at this
        exact this

theorem entry_ints {gb gi : Nat} {ta te : TypeId} {k : IntKind} {l : List Int} {seg : List MemPlace}
    (hg : P.globalNamed n = some gi) (ht : (P.globals[gi]?).map (·.type) = some ta) (ha : P.underlying ta = some (.array l.length te)) (he : P.underlying te = some (.int k)) (hce : P.cellsOf te = 1) (hca : P.cellsOf ta = l.length)
    (h0' : l ≠ []) (h : EntryAt P w n (.agg (l.map fun x => .lit (.int k x))) seg) : EntryOk gb P w [(K.of gi, l.map fun x => .int k x)] seg := by
  obtain ⟨⟨g, t, cs, fuel, p, h1, h2, h3, h4, rfl⟩, hcell⟩ := h
  rw [hg] at h1
  obtain rfl := Option.some.inj h1
  rw [ht] at h2
  obtain rfl := Option.some.inj h2
  obtain ⟨T, fz, hb⟩ := var_block hg h3
  obtain ⟨xs, m, rfl, hx, hlen, hxs, hel⟩ := DataW.trod_array ha h4
  simp only [Prod.mk.injEq, DataW.agg.injEq] at hx
  obtain ⟨hx1, rfl⟩ := hx
  have hcl : cs.size = l.length := by rw [← Array.length_toList, hlen, hca]
  -- each cell
  have hv : ∀ (i : Nat) (x : Int), l[i]? = some x → cs[i]? = some (Value.int k x) := by
    intro i x hxi
    have hi : i < l.length := (List.getElem?_eq_some_iff.1 hxi).1
    have h0 := hel i hi
    obtain ⟨y, hy⟩ : ∃ y, xs[i]? = some y := ⟨xs[i]'(by omega), List.getElem?_eq_getElem (by omega)⟩
    rw [hy, hce, Nat.mul_one] at h0
    obtain ⟨z, e1, e2, _⟩ := DataW.trod_int he h0
    have e3 : (xs.map (·.1))[i]? = some (.lit (.int k x)) := by rw [← hx1, List.getElem?_map, hxi]; rfl
    rw [List.getElem?_map, hy, e2] at e3
    simp only [Option.map_some, Option.some.injEq, DataW.lit.injEq, Lit.int.injEq, true_and] at e3
    subst e3
    have := congrArg (fun l => l[0]?) e1
    simp only [List.getElem?_take, List.getElem?_drop, Nat.add_zero] at this
    rw [if_pos (by omega), Array.getElem?_toList] at this
    exact this
  refine ⟨[⟨K.of gi, gi, 0, l.map fun x => .int k x⟩], rfl, ?_, ?_⟩
  · rw [hcl]
    simp only [List.flatMap_cons, List.flatMap_nil, List.append_nil, places, List.length_map, MemPlace.row]
    exact List.sublist_append_left _ _
  · intro r hr
    simp only [List.mem_cons, List.not_mem_nil, or_false] at hr
    subst hr
    rcases Nat.eq_zero_or_pos l.length with h0 | h0
    · -- no cell at all: its block may be frozen, as far as is known
      exact absurd h0 (by
        intro e
        have : l = [] := List.eq_nil_of_length_eq_zero e
        exact h0' this)
    · obtain ⟨⟨c, t, hh⟩, _⟩ := hcell gi 0 (List.mem_append_left _ (List.mem_map.2 ⟨0, List.mem_range.2 (by omega), by simp⟩))
      have := hh.symm.trans hb
      simp only [Option.some.injEq, Obj.cells.injEq] at this
      obtain ⟨rfl, rfl, rfl⟩ := this
      refine ⟨?_, fun _ => ⟨(K.toNat_of gi).symm, rfl⟩⟩
      refine ⟨c, t, hh, by simp [hcl], fun G hG i v hvv => ?_⟩
      rw [List.getElem?_map] at hvv
      cases hli : l[i]? with
      | none => rw [hli] at hvv; simp at hvv
      | some x =>
        rw [hli] at hvv
        simp only [Option.map_some, Option.some.injEq] at hvv
        subst hvv
        exact ⟨_, by rw [Nat.zero_add]; exact hv i x hli, .int _ _⟩

end
end
end
end Go.Ax

/- What a call on plain values is known to come to. No condition. -/
set_option linter.unusedVariables false
set_option linter.unusedSimpArgs false
namespace Go.Ax
noncomputable section
noncomputable section

/-- No id in it. -/
def AV.plain : AV → Bool
  | .bool _ => true | .int _ _ => true | .str _ _ => true | .nilp => true | .nils => true | .nilm => true | .nilf => true | .nili => true
  | _ => false

theorem VRel.plain {g g' : G} {v : AV} {V : Value} (h : VRel g v V) (hp : v.plain = true) : VRel g' v V := by
  cases h <;> first
    | (simp [AV.plain] at hp; done)
    | exact .bool _
    | exact .int _ _
    | exact .str (by assumption)
    | exact .nilp
    | exact .nils
    | exact .nilm
    | exact .nilf
    | exact .nili

theorem VRels.plain {g g' : G} : ∀ {l : List AV} {Vs : List Value}, VRels g l Vs → (∀ v ∈ l, v.plain = true) → VRels g' l Vs
  | _, _, .nil, _ => .nil
  | _, _, .cons h t, hp => .cons (h.plain (hp _ (List.mem_cons_self ..))) (t.plain fun v hv => hp v (List.mem_cons_of_mem _ hv))

def tupPlain (v : AV) : Bool := match v with | .tuple l => l.all AV.plain | v => v.plain

theorem VRel.tupPlain {g g' : G} {v : AV} {V : Value} (h : VRel g v V) (hp : Ax.tupPlain v = true) : VRel g' v V := by
  cases h with
  | tuple hl => exact .tuple (hl.plain (by simpa [Ax.tupPlain] using hp))
  | bool => exact .bool _
  | int => exact .int _ _
  | str h => exact .str h
  | nilp => exact .nilp
  | nils => exact .nils
  | nilm => exact .nilm
  | nilf => exact .nilf
  | nili => exact .nili
  | _ => simp [Ax.tupPlain, AV.plain] at hp

def optBeq (a b : Option AV) : Bool :=
  match a, b with
  | none, none => true
  | some x, some y => AV.beq x y
  | _, _ => false

def Tr.same (t : Tr AV) : Tr AV → Bool :=
  Tr.rec (motive := fun _ => Tr AV → Bool) (fun s => Tr.rec (motive := fun _ => Bool) true (fun _ _ _ _ _ => false) s)
    (fun v _ _ ihl ihr s => Tr.rec (motive := fun _ => Bool) false (fun v' l' r' _ _ => cond (optBeq v v') (cond (ihl l') (ihr r') false) false) s) t

theorem Tr.same_eq : ∀ (t s : Tr AV), t.same s = true → t = s
  | .lf, .lf, _ => rfl
  | .lf, .nd _ _ _, h => by simp [Tr.same] at h
  | .nd _ _ _, .lf, h => by simp [Tr.same] at h
  | .nd v l r, .nd v' l' r', h => by
    have h' : cond (optBeq v v') (cond (l.same l') (r.same r') false) false = true := h
    cases h1 : optBeq v v' with
    | false => rw [h1] at h'; simp at h'
    | true =>
      cases h2 : l.same l' with
      | false => rw [h1, h2] at h'; simp at h'
      | true =>
        rw [h1, h2] at h'
        simp only [cond_true] at h'
        rw [Tr.same_eq l l' h2, Tr.same_eq r r' h']
        have : v = v' := by
          unfold optBeq at h1
          split at h1
          · rfl
          · rw [AV.beq_eq _ _ h1]
          · simp at h1
        rw [this]

def optPlain : Option AV → Bool | some x => x.plain | none => true

def Tr.allPlain (t : Tr AV) : Bool := Tr.rec (motive := fun _ => Bool) true (fun v _ _ a b => cond (optPlain v) (cond a b false) false) t

theorem Tr.allPlain_get : ∀ (t : Tr AV) (k : K) (v : AV), t.allPlain = true → t.get k = some v → v.plain = true
  | .lf, k, v, _, h => by rw [Tr.get_lf] at h; simp at h
  | .nd u l r, k, v, hp, h => by
    have hp' : cond (optPlain u) (cond l.allPlain r.allPlain false) false = true := hp
    cases h1 : optPlain u with
    | false => rw [h1] at hp'; simp at hp'
    | true =>
      cases h2 : l.allPlain with
      | false => rw [h1, h2] at hp'; simp at hp'
      | true =>
        rw [h1, h2] at hp'
        cases k with
        | xh =>
          rw [Tr.get_h] at h
          have h0 : u = some v := h
          rw [h0] at h1
          exact h1
        | xo k => rw [Tr.get_o] at h; exact Tr.allPlain_get l k v h2 h
        | xi k => rw [Tr.get_i] at h; exact Tr.allPlain_get r k v hp' h

/-- The heap of one row that nobody may write. -/
def oneH (gid : K) (sz : Nat) (t : Tr AV) (nx : K) : AH := ⟨Tr.set gid (.cells sz t false) .lf, nx⟩

def findArgs (args : List AV) : List (List AV × AV) → Option AV
  | [] => none
  | p :: r => cond (AV.beqs args p.1) (some p.2) (findArgs args r)

/-- The hook: on these arguments it comes to that, if the row is as it was. -/
def memoH (gid : K) (sz : Nat) (t : Tr AV) (tbl : List (List AV × AV)) : List AV → AH → Option (AV × AH) := fun args H =>
  match H.get gid with
  | .cells sz' t' false => cond (Nat.beq sz' sz) (cond (t'.same t) (match findArgs args tbl with | some v => some (v, H) | none => none) none) none
  | _ => none

theorem findArgs_mem {args : List AV} {v : AV} : ∀ {tbl : List (List AV × AV)}, findArgs args tbl = some v → (args, v) ∈ tbl
  | [], h => by simp [findArgs] at h
  | p :: r, h => by
    simp only [findArgs] at h
    cases hb : AV.beqs args p.1 with
    | true =>
      rw [hb] at h
      simp only [cond_true, Option.some.injEq] at h
      rw [AV.beqs_eq _ _ hb, ← h]
      exact List.mem_cons_self ..
    | false => rw [hb] at h; exact List.mem_cons_of_mem _ (findArgs_mem h)

theorem memo_ok {C : Ctx} {f gid nx : K} {sz : Nat} {t : Tr AV} {tbl : List (List AV × AV)} {cf : CallF} (hcf : CallOk C cf)
    (hpt : t.allPlain = true) (hgid : gid.toNat < nx.toNat) (hgl : ∀ k, memN k C.globs = true → (K.of k).toNat < nx.toNat)
    (hf : ∃ fn c, C.P.funcs[f.toNat - 1]? = some fn ∧ fn.body = some c ∧ fn.name ≠ "runtime.NumGoroutine")
    (hall : ∀ p ∈ tbl, (∀ v ∈ p.1, v.plain = true) ∧ tupPlain p.2 = true ∧ ∃ H', cf f p.1 (oneH gid sz t nx) = some (p.2, H')) :
    HookOk C f (memoH gid sz t tbl) := by
  intro args H v H' he g w Args hG hA hS
  refine ⟨hf, ?_⟩
  unfold memoH at he
  split at he
  · rename_i sz' t' hget
    cases h1 : Nat.beq sz' sz with
    | false => rw [h1] at he; simp at he
    | true =>
      cases h2 : t'.same t with
      | false => rw [h1, h2] at he; simp at he
      | true =>
        rw [h1, h2] at he
        simp only [cond_true] at he
        obtain rfl := Nat.eq_of_beq_eq_true h1
        obtain rfl := Tr.same_eq _ _ h2
        split at he
        · rename_i v' hfind
          simp only [Option.some.injEq, Prod.mk.injEq] at he
          obtain ⟨rfl, rfl⟩ := he
          obtain ⟨hpa, hpv, H2, hrun⟩ := hall _ (findArgs_mem hfind)
          -- the ids below the bound alone
          let g0 : G := fun k => if k.toNat < nx.toNat then g k else none
          have hg0 : ∀ k x, g0 k = some x → g k = some x ∧ k.toNat < nx.toNat := by
            intro k x e
            simp only [g0] at e
            split at e
            · rename_i h; exact ⟨e, h⟩
            · simp at e
          have hget0 : ∀ k, (oneH gid sz' t' nx).get k = if gid = k then .cells sz' t' false else .dead := by
            intro k
            simp only [oneH, AH.get, Tr.get_set, Tr.get_lf]
            by_cases h : gid = k <;> simp [h]
          have hro : ∀ k, ((oneH gid sz' t' nx).get k).rw = false := by
            intro k; rw [hget0]; split <;> rfl
          have hS0 : Sim g0 (oneH gid sz' t' nx) w := by
            refine ⟨?_, ?_, ?_, ?_⟩
            · intro k hl
              rw [hget0] at hl ⊢
              split at hl
              · rename_i e
                subst e
                rw [if_pos rfl]
                obtain ⟨B, O, S, e1, hb⟩ := hS.blk gid (by rw [hget]; rfl)
                rw [hget] at hb
                obtain ⟨cs, T, fz, hh, hc, hsz⟩ := hb
                refine ⟨B, O, S, ?_, cs, T, fz, hh, ⟨hc.fits, ?_, hc.free, hc.plain⟩, hsz⟩
                · simp only [g0]; rw [if_pos hgid]; exact e1
                · intro i hi
                  obtain ⟨u, U, a1, a2, a3⟩ := hc.cell i hi
                  exact ⟨u, U, a1, a2, a3.plain (Tr.allPlain_get _ _ _ hpt a1)⟩
              · simp [ABlk.live] at hl
            · intro k k' B x x' hl hl' _ _
              rw [hget0] at hl hl'
              split at hl
              · split at hl'
                · rename_i e e'; exact .inl (e.symm.trans e')
                · simp [ABlk.live] at hl'
              · simp [ABlk.live] at hl
            · intro k B x e; exact hS.size k B x (hg0 k _ e).1
            · intro k x e; exact (hg0 k x e).2
          have hG0 : GOk C.globs g0 := by
            intro k hk
            obtain ⟨S, e⟩ := hG k hk
            exact ⟨S, by simp only [g0]; rw [if_pos (hgl k hk)]; exact e⟩
          obtain ⟨_, hcalls⟩ := hcf f args _ _ H2 hrun g0 w Args hG0 (hA.plain hpa) hS0
          refine hcalls.mono ?_
          rintro e w' ⟨g', V, rfl, st, hv⟩
          have hfr : ∀ B, B < w.heap.size → w'.heap[B]? = w.heap[B]? := fun B hB => st.frame B hB (fun k x hrw => by rw [hro k] at hrw; simp at hrw)
          refine ⟨g, V, rfl, ⟨⟨?_, hS.inj, ?_, hS.fresh⟩, .refl g, Nat.le_refl _, ?_, fun B hB _ => hfr B hB, st.size, st.os, st.tape, st.output, fun _ _ h => h⟩, hv.tupPlain hpv⟩
          · intro k hl
            obtain ⟨B, O, S, e1, hb⟩ := hS.blk k hl
            exact ⟨B, O, S, e1, hb.of_block (hfr B (hS.size k B _ e1))⟩
          · intro k B x e; exact Nat.lt_of_lt_of_le (hS.size k B x e) st.size
          · intro k B x hl e; exact .inr (.inr ⟨hl, rfl, e⟩)
        · simp at he
  · simp at he

end
end
end Go.Ax

/- A run cut in two: what comes first, what comes behind it; a table's entries one by one; what a run answers. No condition. -/
set_option linter.unusedVariables false
set_option linter.unusedSimpArgs false
namespace Go.Ax
noncomputable section
noncomputable section

/-! ### Steps hand their end on -/

def Par (s : FStep) : Prop := ∀ cf k env H, s cf k env H = (s cf (fun e h => .nrm e h) env H).then k

theorem FR.then_assoc (r : FR) (f g : FK) : (r.then f).then g = r.then (fun e h => (f e h).then g) := by cases r <;> rfl

theorem Par.oMov (d : K) (x : FV) : Par (oMov d x) := fun cf k env H => rfl
theorem Par.vThen (r : Option AV) (f : AV → Env) (H : AH) (k : FK) : (Ax.vThen r fun v => k (f v) H) = (Ax.vThen r fun v => FR.nrm (f v) H).then k := by cases r <;> rfl
theorem Par.o1 (d : K) (f : AV → Option AV) (x : FV) : Par (o1 d f x) := fun cf k env H => Par.vThen _ _ _ _
theorem Par.o2 (d : K) (f : AV → AV → Option AV) (x y : FV) : Par (o2 d f x y) := fun cf k env H => Par.vThen _ _ _ _
theorem Par.o3 (d : K) (f : AV → AV → AV → Option AV) (x y z : FV) : Par (o3 d f x y z) := fun cf k env H => Par.vThen _ _ _ _
theorem Par.oN (d : Option K) (f : List AV → Option AV) (xs : List FV) : Par (oN d f xs) := fun cf k env H => Par.vThen _ _ _ _
theorem Par.oL (d : K) (f : AH → AV → Option AV) (x : FV) : Par (oL d f x) := fun cf k env H => Par.vThen _ _ _ _
theorem Par.oR (d : Option K) (r : RK) (xs : List FV) : Par (oR d r xs) := fun cf k env H => Par.vThen _ _ _ _
theorem Par.pThen (r : Option (AV × AH)) (f : AV → Env) (k : FK) : (Ax.pThen r fun v H => k (f v) H) = (Ax.pThen r fun v H => FR.nrm (f v) H).then k := by cases r <;> rfl
theorem Par.oW (d : Option K) (w : WK) (xs : List FV) : Par (oW d w xs) := fun cf k env H => Par.pThen _ _ _
theorem Par.oC (d : Option K) (f : K) (xs : List FV) : Par (oC d f xs) := fun cf k env H => Par.pThen _ _ _
theorem Par.oV (d : Option K) (xs : List FV) : Par (oV d xs) := fun cf k env H => Par.pThen _ _ _
theorem Par.oA (d : Option K) (a : AK) (xs : List FV) : Par (oA d a xs) := fun cf k env H => by
  unfold Ax.oA
  cases evalA H.nx a (evL xs env) <;> rfl
theorem Par.oL2 (d : Option K) (f : AH → AV → AV → Option (AV × AH)) (x y : FV) : Par (oL2 d f x y) := fun cf k env H => Par.pThen _ _ _
theorem Par.oAf (d : Option K) (f : K → List AV → Option (ABlk × AV)) (xs : List FV) : Par (oAf d f xs) := fun cf k env H => by
  unfold Ax.oAf
  cases f H.nx (evL xs env) <;> rfl
theorem Par.oMovS (s : AV → Env → Env) (x : FV) : Par (oMovS s x) := fun cf k env H => rfl
theorem Par.o1S (s : AV → Env → Env) (f : AV → Option AV) (x : FV) : Par (o1S s f x) := fun cf k env H => Par.vThen _ _ _ _
theorem Par.o2S (s : AV → Env → Env) (f : AV → AV → Option AV) (x y : FV) : Par (o2S s f x y) := fun cf k env H => Par.vThen _ _ _ _
theorem Par.o3S (s : AV → Env → Env) (f : AV → AV → AV → Option AV) (x y z : FV) : Par (o3S s f x y z) := fun cf k env H => Par.vThen _ _ _ _
theorem Par.oNS (s : AV → Env → Env) (f : List AV → Option AV) (xs : List FV) : Par (oNS s f xs) := fun cf k env H => Par.vThen _ _ _ _
theorem Par.oLS (s : AV → Env → Env) (f : AH → AV → Option AV) (x : FV) : Par (oLS s f x) := fun cf k env H => Par.vThen _ _ _ _
theorem Par.oRS (s : AV → Env → Env) (r : RK) (xs : List FV) : Par (oRS s r xs) := fun cf k env H => Par.vThen _ _ _ _
theorem Par.oWS (s : AV → Env → Env) (w : WK) (xs : List FV) : Par (oWS s w xs) := fun cf k env H => Par.pThen _ _ _
theorem Par.oL2S (s : AV → Env → Env) (f : AH → AV → AV → Option (AV × AH)) (x y : FV) : Par (oL2S s f x y) := fun cf k env H => Par.pThen _ _ _
theorem Par.oCS (s : AV → Env → Env) (f : K) (xs : List FV) : Par (oCS s f xs) := fun cf k env H => Par.pThen _ _ _
theorem Par.oVS (s : AV → Env → Env) (xs : List FV) : Par (oVS s xs) := fun cf k env H => Par.pThen _ _ _
theorem Par.oAS (s : AV → Env → Env) (a : AK) (xs : List FV) : Par (oAS s a xs) := fun cf k env H => by
  unfold Ax.oAS
  cases evalA H.nx a (evL xs env) <;> rfl
theorem Par.oAfS (s : AV → Env → Env) (f : K → List AV → Option (ABlk × AV)) (xs : List FV) : Par (oAfS s f xs) := fun cf k env H => by
  unfold Ax.oAfS
  cases f H.nx (evL xs env) <;> rfl
theorem Par.oGS (g : FV) (b : Bool) (d : AV → Env → Env) {s : FStep} (h : Par s) : Par (oGS g b d s) := fun cf k env H => by
  unfold Ax.oGS
  cases boolG (g env) b with
  | false => rfl
  | true => exact h cf k env H
theorem Par.oGN (g : FV) (b : Bool) {s : FStep} (h : Par s) : Par (oGN g b s) := fun cf k env H => by
  unfold Ax.oGN
  cases boolG (g env) b with
  | false => rfl
  | true => exact h cf k env H
theorem Par.oBad : Par oBad := fun cf k env H => rfl
theorem Par.oE : Par oE := fun cf k env H => rfl
theorem Par.oG (g : K) (b : Bool) (d : Option K) {s : FStep} (h : Par s) : Par (oG g b d s) := fun cf k env H => by
  unfold Ax.oG
  cases boolG (tO g env) b with
  | false => rfl
  | true => exact h cf k env H
theorem Par.oS {s t : FStep} (hs : Par s) (ht : Par t) : Par (oS s t) := fun cf k env H => by
  show s cf (t cf k) env H = (s cf (t cf fun e h => .nrm e h) env H).then k
  rw [hs cf (t cf k), hs cf (t cf fun e h => .nrm e h), FR.then_assoc]
  congr 1
  funext e h
  exact ht cf k e h

/-! ### Code in two parts -/

def Split (f p r : FC) : Prop := ∀ cf env H, f cf env H = (p cf env H).then (r cf)

theorem Split.base (r : FC) : Split r fN r := fun cf env H => rfl
theorem Split.fB {s : FStep} {b p r : FC} (hs : Par s) (h : Split b p r) : Split (fB s b) (fB s p) r := fun cf env H => by
  show s cf (b cf) env H = (s cf (p cf) env H).then (r cf)
  rw [hs cf (b cf), hs cf (p cf), FR.then_assoc]
  congr 1
  funext e h'
  exact h cf e h'
theorem Split.fS {a b p r : FC} (h : Split b p r) : Split (fS a b) (fS a p) r := fun cf env H => by
  show (a cf env H).then (b cf) = ((a cf env H).then (p cf)).then (r cf)
  rw [FR.then_assoc]
  congr 1
  funext e h'
  exact h cf e h'

def FR.env (r : FR) : Env := FR.rec (motive := fun _ => Env) .lf (fun e _ => e) (fun e _ => e) (fun _ e _ => e) r
def FR.hp (r : FR) : AH := FR.rec (motive := fun _ => AH) ⟨.lf, .xh⟩ (fun _ h => h) (fun _ h => h) (fun _ _ h => h) r
def FR.isN (r : FR) : Bool := FR.rec (motive := fun _ => Bool) false (fun _ _ => true) (fun _ _ => false) (fun _ _ _ => false) r

theorem FR.eq_of_isN {r : FR} (h : r.isN = true) : r = .nrm r.env r.hp := by
  cases r <;> first | rfl | simp [FR.isN] at h

/-- A slot that holds a value may be laid anew with the same value. -/
theorem Tr.set_get {α : Type} : ∀ (k : K) (t : Tr α) (v : α), t.get k = some v → t.set k v = t
  | .xh, t, v, h => by
    cases t with
    | lf => simp [Tr.val] at h
    | nd u l r => simp only [Tr.get_h, Tr.val] at h; rw [Tr.set_h, h]; rfl
  | .xo k, t, v, h => by
    cases t with
    | lf => rw [Tr.get_lf] at h; simp at h
    | nd u l r => rw [Tr.get_o] at h; rw [Tr.set_o]; show Tr.nd u (Tr.set k v l) r = _; rw [Tr.set_get k l v h]
  | .xi k, t, v, h => by
    cases t with
    | lf => rw [Tr.get_lf] at h; simp at h
    | nd u l r => rw [Tr.get_i] at h; rw [Tr.set_i]; show Tr.nd u l (Tr.set k v r) = _; rw [Tr.set_get k r v h]

/-- THE CUT: behind the first part a slot holds a value, spelled otherwise. -/
theorem Split.cut {f p r : FC} (h : Split f p r) {cf : CallF} {env : Env} {H : AH} (hn : (p cf env H).isN = true) {k : K} {v v' : AV} (hk : (p cf env H).env.get k = some v) (hv : v = v') :
    f cf env H = r cf ((p cf env H).env.set k v') (p cf env H).hp := by
  rw [h cf env H, FR.eq_of_isN hn]
  show r cf (p cf env H).env (p cf env H).hp = r cf ((p cf env H).env.set k v') (p cf env H).hp
  rw [← hv, Tr.set_get k _ v hk]

theorem Split.cut2 {f p r : FC} (h : Split f p r) {cf : CallF} {env : Env} {H : AH} (hn : (p cf env H).isN = true) {k1 k2 : K} {v1 v1' v2 v2' : AV} (h1 : (p cf env H).env.get k1 = some v1) (e1 : v1 = v1')
    (h2 : (p cf env H).env.get k2 = some v2) (e2 : v2 = v2') :
    f cf env H = r cf (((p cf env H).env.set k1 v1').set k2 v2') (p cf env H).hp := by
  rw [h.cut hn h1 e1, ← e2]
  congr 1
  have : ((p cf env H).env.set k1 v1') = (p cf env H).env := by rw [← e1]; exact Tr.set_get k1 _ v1 h1
  rw [this]
  exact (Tr.set_get k2 _ v2 h2).symm

theorem Split.cut0 {f p r : FC} (h : Split f p r) {cf : CallF} {env : Env} {H : AH} (hn : (p cf env H).isN = true) :
    f cf env H = r cf (p cf env H).env (p cf env H).hp := by
  rw [h cf env H, FR.eq_of_isN hn]
  rfl

/-! ### What a run answers -/

def isTrue (v : AV) : Bool :=
  AV.rec (motive_1 := fun _ => Bool) (motive_2 := fun _ => PUnit)
    (fun b => b) (fun _ _ => false) (fun _ _ => false) (fun _ _ => false) false (fun _ _ _ _ _ _ => false) false (fun _ => false) false
    (fun _ _ _ _ _ => false) false (fun _ _ _ => false) false (fun _ _ => false) (fun _ _ => false) PUnit.unit (fun _ _ _ _ => PUnit.unit) v

def okR (r : Option (AV × AH)) : Bool := Option.rec (motive := fun _ => Bool) false (fun p => isTrue p.1) r

theorem okR_some {r : Option (AV × AH)} (h : okR r = true) : ∃ H', r = some (.bool true, H') := by
  cases r with
  | none => simp [okR] at h
  | some p =>
    obtain ⟨v, H'⟩ := p
    have h' : isTrue v = true := h
    cases v <;> first
      | (rename_i b; have hb : b = true := h'; subst hb; exact ⟨H', rfl⟩)
      | simp [isTrue] at h'

/-! ### A table, entry by entry -/

theorem FTabOk.lf {C : Ctx} : FTabOk C (.lf : Tr FF) := fun f e h => by rw [Tr.get_lf] at h; simp at h

theorem FTabOk.code {C : Ctx} {t : Tr FF} (h : FTabOk C t) {f : K} {run : FC} {res : List CRes} (hc : CodeOk C f run res) : FTabOk C (t.set f (.code run res)) := by
  intro g e he
  rw [Tr.get_set] at he
  split at he
  · rename_i hg
    subst hg
    simp only [Option.some.injEq] at he
    subst he
    exact hc
  · exact h g e he

theorem FTabOk.hook {C : Ctx} {t : Tr FF} (h : FTabOk C t) {f : K} {hk : List AV → AH → Option (AV × AH)} (hc : HookOk C f hk) : FTabOk C (t.set f (.hook hk)) := by
  intro g e he
  rw [Tr.get_set] at he
  split at he
  · rename_i hg
    subst hg
    simp only [Option.some.injEq] at he
    subst he
    exact hc
  · exact h g e he

/-! ### Remainders -/

theorem mod_of (n : Nat) (hn : 0 < n) (w : Int) : ∃ k, k < n ∧ Int.tmod (Int.tmod w n + n) n = Int.ofNat k := by
  have h1 : -(n : Int) < Int.tmod w n := Int.lt_tmod_of_pos w (by omega)
  have h2 : Int.tmod w n < n := Int.tmod_lt_of_pos w (by omega)
  have h3 : Int.tmod (Int.tmod w n + n) n = (Int.tmod w n + n) % n := Int.tmod_eq_emod_of_nonneg (by omega)
  have h4 : 0 ≤ (Int.tmod w n + n) % n := Int.emod_nonneg _ (by omega)
  have h5 : (Int.tmod w n + n) % n < n := Int.emod_lt_of_pos _ (by omega)
  refine ⟨((Int.tmod w n + n) % n).toNat, by omega, ?_⟩
  rw [h3]
  exact (Int.toNat_of_nonneg h4).symm

/-- (w % n + n) % n, as the program reckons it. -/
def modF (n : Nat) (w : Int) : Int := tmodF (wrapF .i64 (Int.add (tmodF w (.ofNat n)) (.ofNat n))) (.ofNat n)

theorem modF_of (n : Nat) (hn : 0 < n) (hn' : n < 4611686018427387904) (w : Int) : ∃ k, k < n ∧ modF n w = Int.ofNat k := by
  obtain ⟨k, h1, h2⟩ := mod_of n hn w
  refine ⟨k, h1, ?_⟩
  have a1 : -(n : Int) < Int.tmod w n := Int.lt_tmod_of_pos w (by omega)
  have a2 : Int.tmod w n < n := Int.tmod_lt_of_pos w (by omega)
  unfold modF
  have e : wrapF .i64 (Int.add (tmodF w (.ofNat n)) (.ofNat n)) = Int.tmod w n + n := by
    rw [wrapF_eq, tmodF_eq]
    exact wrap_in (by simp only [IntKind.lim]; show _ ≤ Int.tmod w n + n; omega) (by simp only [IntKind.lim]; show Int.tmod w n + n < _; omega)
  rw [e, tmodF_eq]
  exact h2

end
end
end Go.Ax

/- The start, with a place for every variable at the package's level; the wrap that hands on the listed variables and the world's shape. No condition. -/
set_option linter.unusedVariables false
set_option linter.unusedSimpArgs false
namespace Go.Ax
noncomputable section
noncomputable section

/-- Places for the first so many variables, where none is known yet. -/
def moreG (n : Nat) (g : G) : G := fun k => match g k with
  | some x => some x
  | none => if k.toNat ≤ n then some (k.toNat - 1, 0, 0) else none

theorem moreG_le (n : Nat) (g : G) : g.le (moreG n g) := fun k x h => by simp only [moreG, h]

theorem Sim.more {g : G} {H : AH} {w : World} (s : Sim g H w) (n : Nat) (hn : n ≤ w.heap.size) (hnx : n < H.nx.toNat) : Sim (moreG n g) H w := by
  have hlive : ∀ id, (H.get id).live = true → moreG n g id = g id := by
    intro id hl
    obtain ⟨B, O, S, e, _⟩ := s.blk id hl
    rw [e]
    exact moreG_le n g id _ e
  refine ⟨?_, ?_, ?_, ?_⟩
  · intro id hl
    obtain ⟨B, O, S, e, hb⟩ := s.blk id hl
    exact ⟨B, O, S, moreG_le n g id _ e, hb.mono (moreG_le n g)⟩
  · intro id id' B x x' hl hl' e e'
    rw [hlive id hl] at e
    rw [hlive id' hl'] at e'
    exact s.inj id id' B x x' hl hl' e e'
  · intro id B x e
    simp only [moreG] at e
    split at e
    · rename_i y hy
      simp only [Option.some.injEq] at e
      subst e
      exact s.size id B x hy
    · split at e
      · rename_i hk
        simp only [Option.some.injEq, Prod.mk.injEq] at e
        have := id.toNat_pos
        omega
      · simp at e
  · intro id x e
    simp only [moreG] at e
    split at e
    · rename_i y hy
      exact s.fresh id y hy
    · split at e
      · omega
      · simp at e

/-- THE START: every variable lies where it lies. -/
theorem laid_start {gb : Nat} {P : Program} {w : World} {laid : List (String × DataW Unit)} (h : laidMet P laid w) (hw : gb ≤ w.heap.size) (spec : String × DataW Unit → List (K × List AV)) (nx : K)
    (hok : ∀ x ∈ laid, ∀ seg, EntryAt P w x.1 x.2 seg → EntryOk gb P w (spec x) seg) (hn : ((laid.flatMap spec).map (·.1)).Nodup) (hnx : ∀ x ∈ laid.flatMap spec, x.1.toNat < nx.toNat) (hgb : gb < nx.toNat)
    {H : AH} (hH : H = ⟨specH (laid.flatMap spec), nx⟩) {globs : List Nat} (hgl : ∀ k, memN k globs = true → k < gb) :
    ∃ g : G, GOk globs g ∧ Sim g H w ∧ ∀ id, (H.get id).rw = false := by
  subst hH
  obtain ⟨rows, a1, a2, a3, a4, a5⟩ := laid_sim h spec nx hok hn hnx
  refine ⟨moreG gb (rowsG (szOf w) rows), ?_, a4.more gb hw hgb, a5⟩
  intro k hk
  have hk' := hgl k hk
  simp only [moreG]
  cases hr : rowsG (szOf w) rows (K.of k) with
  | none =>
    refine ⟨0, ?_⟩
    simp only []
    rw [if_pos (by rw [K.toNat_of]; omega), K.toNat_of]
    rfl
  | some x =>
    obtain ⟨r, hr1, hr2, rfl⟩ := rowsG_some hr
    have := (a3 r hr1).2 (by rw [hr2, K.toNat_of]; omega)
    rw [hr2, K.toNat_of] at this
    refine ⟨szOf w r.B, ?_⟩
    simp only [Option.some.injEq, Prod.mk.injEq, and_true]
    omega

/-- What the executor comes to is what the call comes to, and nothing that was there is written. -/
theorem calls_true {C : Ctx} {cf : CallF} (hcf : CallOk C cf) {f : K} {args : List AV} {H H' : AH} (hrun : cf f args H = some (.bool true, H')) {g : G} {w : World} {Args : Array Value}
    (hG : GOk C.globs g) (hA : VRels g args Args.toList) (hS : Sim g H w) (hro : ∀ id, (H.get id).rw = false) :
    Calls C.P (f.toNat - 1) Args w fun e w' => e = .returned (.bool true) ∧ RowKit.Below w.heap.size w w' := by
  obtain ⟨_, hc⟩ := hcf f args H _ H' hrun g w Args hG hA hS
  refine hc.mono ?_
  rintro e w' ⟨g', V, rfl, st, hv⟩
  cases hv
  exact ⟨rfl, st.below hro⟩

theorem heap_size_of_shape {P : Program} {w : World} (h : w.ShapedOpen P) {n : Nat} (hg : n < P.globals.size)
    (h0 : (((begin P (fun _ _ => 0) default).world.heap[n]?).bind Obj.row?).isSome = true) : n + 1 ≤ w.heap.size := by
  cases e : ((begin P (fun _ _ => 0) default).world.heap[n]?).bind Obj.row? with
  | none => rw [e] at h0; simp at h0
  | some x =>
    obtain ⟨zero, T⟩ := x
    obtain ⟨cs, hh, _⟩ := h.1 n zero T hg e
    exact (Array.getElem?_eq_some_iff.1 hh).1

variable {H : Type} {enc : TypeId × Value → H}

/-- THE WRAP: the contract is handed what the listed variables hold, and the world's shape. -/
theorem returnsIn_laid_shaped {a : Assume} {C : Checked} {os : Os} {f : FuncId} {fn : Func} {s : ChangeSpec} {conds : List PathCond} {apart fresh handsOn again : Bool} {X : World → Array Value → Prop}
    (hX : ∀ (w w' : World) (args : Array Value), w.heap = w'.heap → X w args → X w' args)
    (own : ownKnob C.prog.godebug = none) (started : os.Started) (noInit : C.prog.inits.idxOf? f = none) (hfn : C.prog.funcs[f]? = some fn)
    (witness : ∃ (w : World) (tape : Tape) (i : Input), w.os = os ∧ (w.forCall tape i).Shaped C.prog ∧ i.vars = [] ∧ Input.okWide C.prog (w.forCall tape i) .any w.heap.size f i ∧
      ((s.pre enc C.prog fn conds apart (w.forCall tape i).memory i.args ∧ X (w.forCall tape i).memory i.args) ∧ sizedMet enc C.prog fn (OpenSpec.ofChange s) apart (w.forCall tape i).memory i.args) ∧ a.holds C.prog (lone (Frame.enter C.prog f i.args .normal) [] (w.forCall tape i)))
    (contract : ∀ (W : World) (base : Nat) (args : Array Value) (ds gs : List (DataW H)) (before : List MemPlace),
      (∀ (j : Nat) t v, fn.params[j]? = some t → args[j]? = some v → Value.okWide C.prog W .any base t v) →
      DataW.Whole enc C.prog fn.params.toList s.vars apart W args.toList ds gs before →
      conds.all (PathCond.test C.prog ⟨fn.params.toList, ds, s.plain.varTypes C.prog, gs⟩) = true →
      (DataW.weightsEach C.prog (fn.params.toList ++ s.plain.varTypes C.prog) (ds ++ gs)).all (· ≤ reachBytes) = true → X W args → W.ShapedOpen C.prog →
      a.holds C.prog (lone (Frame.enter C.prog f args .normal) [] W) →
      Calls C.prog f args W fun e W' => ∃ v, e = .returned v ∧ s.post enc C.prog fn apart fresh handsOn again W args v W') :
    ReturnsInHanded a C os f .any (fun w args => (s.pre enc C.prog fn conds apart w args ∧ X w args) ∧ sizedMet enc C.prog fn (OpenSpec.ofChange s) apart w args) (s.post enc C.prog fn apart fresh handsOn again) := by
  refine returnsInHanded_of_calls own started noInit witness ?_
  intro w tape i _ hsh _ hok hpre hholds
  obtain ⟨_, _, _, fn', hfn', _, _, _, _, hval⟩ := hok
  have e : fn' = fn := Option.some.inj (hfn'.symm.trans hfn)
  subst e
  obtain ⟨⟨⟨ds, gs, before, hw, hc⟩, hx⟩, hz⟩ := hpre
  have hw' := DataW.Whole.of_heap (w' := w.forCall tape i) (by rfl) hw
  refine (contract (w.forCall tape i) w.heap.size i.args ds gs before hval hw' hc (hz.weights hw) (hX _ _ _ (by rfl) hx) hsh hholds).mono fun e W' ⟨v, he, hp⟩ => ?_
  subst he
  exact ChangeSpec.post_blind hp

end
end
end Go.Ax


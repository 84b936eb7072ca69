/- The same of whole runs and of calls: if the executor returns a value, the program's call returns it. -/
import Derived.Test.YtfkihaecobceeaaGreatDoorEng2
import Derived.Defers
import Derived.Orders
import Derived.RangeFuncRecord
import Derived.RangeFuncNested
import Derived.Laws.Sem
set_option autoImplicit false
set_option linter.all false
section
namespace Go.AX
/-! ## Regions: order and names -/

def Preds (D : Nat → Prop) (o : Oper) : Prop := ∀ e ∈ o.after, Region.binds .any e = true → D e.on
def Closed (ops : Array Oper) (D : Nat → Prop) : Prop := ∀ j o, D j → ops[j]? = some o → Preds D o

theorem testBit_fold (g : Edge → Nat) (i : Nat) : ∀ (l : List Edge) (s : Nat), (l.foldl (fun s e => if Region.binds .any e then s ||| 2 ^ e.on ||| g e else s) s).testBit i = true →
    s.testBit i = true ∨ ∃ e ∈ l, Region.binds .any e = true ∧ (e.on = i ∨ (g e).testBit i = true)
  | [], s, h => .inl h
  | e :: l, s, h => by
    rw [List.foldl_cons] at h
    rcases testBit_fold g i l _ h with h1 | ⟨e', he', hb, hor⟩
    · split at h1
      · rename_i hb
        rw [Nat.testBit_or, Nat.testBit_or, Nat.testBit_two_pow] at h1
        simp only [Bool.or_eq_true, decide_eq_true_eq] at h1
        rcases h1 with (h1 | h1) | h1
        · exact .inl h1
        · exact .inr ⟨e, List.mem_cons_self, hb, .inl h1⟩
        · exact .inr ⟨e, List.mem_cons_self, hb, .inr h1⟩
      · exact .inl h1
    · exact .inr ⟨e', List.mem_cons_of_mem _ he', hb, hor⟩

def beforeStep (acc : Array Nat) (o : Oper) : Array Nat := acc.push (o.after.foldl (fun s e => if Region.binds .any e then s ||| 2 ^ e.on ||| acc.getD e.on 0 else s) 0)

theorem before_steps : ∀ (l : List Oper) (acc : Array Nat), (∀ i, i < acc.size → (l.foldl beforeStep acc).getD i 0 = acc.getD i 0) ∧
    ∀ j o, l[j]? = some o → ∃ acc' : Array Nat, (l.foldl beforeStep acc).getD (acc.size + j) 0 = o.after.foldl (fun s e => if Region.binds .any e then s ||| 2 ^ e.on ||| acc'.getD e.on 0 else s) 0 ∧
      ∀ i, acc'.getD i 0 = if i < acc.size + j then (l.foldl beforeStep acc).getD i 0 else 0
  | [], acc => ⟨fun i hi => rfl, fun j o h => by simp at h⟩
  | o :: l, acc => by
    obtain ⟨h1, h2⟩ := before_steps l (beforeStep acc o)
    have hsz : (beforeStep acc o).size = acc.size + 1 := by simp [beforeStep]
    have hlt : ∀ i, i < acc.size → (beforeStep acc o).getD i 0 = acc.getD i 0 := by
      intro i hi
      simp only [beforeStep, Array.getD_eq_getD_getElem?, Array.getElem?_push, if_neg (Nat.ne_of_lt hi)]
    refine ⟨?_, ?_⟩
    · intro i hi
      rw [List.foldl_cons, h1 i (by omega), hlt i hi]
    · intro j p hj
      cases j with
      | zero =>
        simp only [List.getElem?_cons_zero, Option.some.injEq] at hj
        subst hj
        refine ⟨acc, ?_, ?_⟩
        · rw [List.foldl_cons, Nat.add_zero, h1 _ (by omega)]
          simp [beforeStep]
        · intro i
          split
          · rename_i hi
            rw [List.foldl_cons, h1 i (by omega), hlt i (by omega)]
          · rename_i hi
            simp only [Array.getD_eq_getD_getElem?]
            rw [Array.getElem?_eq_none (by omega)]
            rfl
      | succ j =>
        simp only [List.getElem?_cons_succ] at hj
        obtain ⟨acc', q1, q2⟩ := h2 j p hj
        refine ⟨acc', ?_, ?_⟩
        · rw [List.foldl_cons, ← q1, hsz]
          congr 1
          omega
        · intro i
          rw [q2, List.foldl_cons, hsz]
          have : acc.size + 1 + j = acc.size + (j + 1) := by omega
          rw [this]

theorem before_eq (ops : Array Oper) : Region.before ops = ops.toList.foldl beforeStep #[] := by
  rw [Region.before, Array.foldl_toList]
  rfl

/-- What must stand ahead of an operation has been carried out when it is. -/
theorem bits_closed {ops : Array Oper} {D : Nat → Prop} (hc : Closed ops D) : ∀ (j : Nat) (o : Oper) (i : Nat), ops[j]? = some o → Preds D o → ((Region.before ops).getD j 0).testBit i = true → D i := by
  intro j
  induction j using Nat.strongRecOn with
  | _ j ih =>
    intro o i ho hp ht
    obtain ⟨_, h2⟩ := before_steps ops.toList #[]
    obtain ⟨acc', q1, q2⟩ := h2 j o (by rw [Array.getElem?_toList]; exact ho)
    have e0 : (#[] : Array Nat).size + j = j := by simp
    rw [e0, ← before_eq] at q1
    rw [q1, ← Array.foldl_toList] at ht
    rcases testBit_fold (fun e => acc'.getD e.on 0) i _ _ ht with h | ⟨e, he, hb, hor⟩
    · simp at h
    · have hD : D e.on := hp e (by simpa using he) hb
      rcases hor with h | h
      · rw [← h]; exact hD
      · rw [q2, e0, ← before_eq] at h
        split at h
        · rename_i hlt
          cases hoe : ops[e.on]? with
          | none =>
            obtain ⟨h1', _⟩ := before_steps ops.toList #[]
            have hge : ops.size ≤ e.on := by
              rcases Nat.lt_or_ge e.on ops.size with h' | h'
              · rw [Array.getElem?_eq_getElem h'] at hoe; cases hoe
              · exact h'
            have : j < ops.size := (Array.getElem?_eq_some_iff.1 ho).1
            omega
          | some p => exact ih e.on hlt p i hoe (hc e.on p hD hoe) h
        · simp at h

/-! ### What slots mean -/
inductive RefOf (ops : Array Oper) : Nat → Ref → Prop where
  | op (j : Nat) (o : Oper) (h : ops[j]? = some o) (ha : aliasOf o = none) : RefOf ops j (.loc j)
  | tmp (j : Nat) (o : Oper) (s : Tmp) (i : Nat) (p : Oper) (r : Ref) (h : ops[j]? = some o) (ha : aliasOf o = some (.tmp s)) (hi : i < j) (hp : ops[i]? = some p) (hd : p.dst = some s) (hr : RefOf ops i r) : RefOf ops j r
  | ini (j : Nat) (o : Oper) (s : Tmp) (h : ops[j]? = some o) (ha : aliasOf o = some (.tmp s)) (hn : ∀ i p, i < j → ops[i]? = some p → p.dst ≠ some s) : RefOf ops j (.opd (.tmp s))
  | oth (j : Nat) (o : Oper) (x : Operand) (h : ops[j]? = some o) (ha : aliasOf o = some x) (hx : ∀ s, x ≠ .tmp s) : RefOf ops j (.opd x)

structure RMOk (ops : Array Oper) (n : Nat) (m : RM) : Prop where
  there : ∀ t r, m.find t = some r → ∃ j o, j < n ∧ ops[j]? = some o ∧ o.dst = some t ∧ RefOf ops j r
  mem : ∀ t r, (t, r) ∈ m → ∃ j o, j < n ∧ ops[j]? = some o ∧ o.dst = some t ∧ RefOf ops j r
  non : ∀ t, m.find t = none → ∀ j o, j < n → ops[j]? = some o → o.dst ≠ some t

theorem RM.find_cons (u : Tmp) (r : Ref) (l : RM) (t : Tmp) : RM.find ((u, r) :: l) t = if u == t then some r else RM.find l t := rfl

theorem RMOk.step {ops : Array Oper} {n : Nat} {m : RM} (h : RMOk ops n m) {o : Oper} (ho : ops[n]? = some o) {r : Ref} (hr : RefOf ops n r) : RMOk ops (n + 1) (m.add o.dst r) := by
  cases hd : o.dst with
  | none =>
    show RMOk ops (n + 1) m
    refine ⟨?_, ?_, ?_⟩
    · intro t r' hf
      obtain ⟨j, p, hj, hp, hdp, hrp⟩ := h.there t r' hf
      exact ⟨j, p, by omega, hp, hdp, hrp⟩
    · intro t r' hf
      obtain ⟨j, p, hj, hp, hdp, hrp⟩ := h.mem t r' hf
      exact ⟨j, p, by omega, hp, hdp, hrp⟩
    · intro t hf j p hj hp
      by_cases e : j = n
      · subst e
        rw [ho] at hp
        cases hp
        rw [hd]
        exact fun e => by cases e
      · exact h.non t hf j p (by omega) hp
  | some u =>
    show RMOk ops (n + 1) ((u, r) :: m)
    refine ⟨?_, ?_, ?_⟩
    · intro t r' hf
      rw [RM.find_cons] at hf
      split at hf
      · rename_i e
        have e := eq_of_beq e
        subst e
        cases hf
        exact ⟨n, o, by omega, ho, hd, hr⟩
      · obtain ⟨j, p, hj, hp, hdp, hrp⟩ := h.there t r' hf
        exact ⟨j, p, by omega, hp, hdp, hrp⟩
    · intro t r' hf
      rcases List.mem_cons.1 hf with e | hf
      · cases e
        exact ⟨n, o, by omega, ho, hd, hr⟩
      · obtain ⟨j, p, hj, hp, hdp, hrp⟩ := h.mem t r' hf
        exact ⟨j, p, by omega, hp, hdp, hrp⟩
    · intro t hf j p hj hp
      rw [RM.find_cons] at hf
      split at hf
      · cases hf
      · rename_i hne
        by_cases e : j = n
        · subst e
          rw [ho] at hp
          cases hp
          rw [hd]
          intro e
          cases e
          simp at hne
        · exact h.non t hf j p (by omega) hp

theorem refOf_resolve {ops : Array Oper} {n : Nat} {m : RM} (h : RMOk ops n m) {o : Oper} (ho : ops[n]? = some o) {x : Operand} (ha : aliasOf o = some x) : RefOf ops n (resolve m x) := by
  cases x with
  | tmp s =>
    cases hf : m.find s with
    | none =>
      simp only [resolve, hf]
      exact .ini n o s ho ha fun i p hi hp => h.non s hf i p hi hp
    | some r =>
      simp only [resolve, hf]
      obtain ⟨j, p, hj, hp, hd, hr⟩ := h.there s r hf
      exact .tmp n o s j p r ho ha hj hp hd hr
  | const v => exact .oth n o _ ho ha (fun s e => by cases e)
  | global g => exact .oth n o _ ho ha (fun s e => by cases e)
  | func f => exact .oth n o _ ho ha (fun s e => by cases e)

theorem ssa_ok (ops : Array Oper) : ∀ (l : List Oper) (i : Nat) (m : RM), ops.toList.drop i = l → RMOk ops i m →
    (∀ x ∈ (ssa l i m).1, ops[x.1]? = some x.2.1 ∧ aliasOf x.2.1 = none ∧ RMOk ops x.1 x.2.2) ∧ RMOk ops ops.size (ssa l i m).2 ∧
    ∀ j o, i ≤ j → ops[j]? = some o → aliasOf o = none → ∃ x ∈ (ssa l i m).1, x.1 = j
  | [], i, m, hd, hm => by
    have hge : ops.size ≤ i := by
      have := congrArg List.length hd
      simp at this
      omega
    refine ⟨fun x hx => by simp [ssa] at hx, ?_, ?_⟩
    · refine ⟨?_, ?_, ?_⟩
      · intro t r hf
        obtain ⟨j, o, _, ho, h1, h2⟩ := hm.there t r hf
        exact ⟨j, o, (Array.getElem?_eq_some_iff.1 ho).1, ho, h1, h2⟩
      · intro t r hf
        obtain ⟨j, o, _, ho, h1, h2⟩ := hm.mem t r hf
        exact ⟨j, o, (Array.getElem?_eq_some_iff.1 ho).1, ho, h1, h2⟩
      · intro t hf j o hj ho
        exact hm.non t hf j o (by omega) ho
    · intro j o hj ho
      have := (Array.getElem?_eq_some_iff.1 ho).1
      omega
  | o :: l, i, m, hd, hm => by
    have ho : ops[i]? = some o := by
      have : (ops.toList.drop i)[0]? = some o := by rw [hd]; rfl
      rw [List.getElem?_drop, Nat.add_zero, Array.getElem?_toList] at this
      exact this
    have hd' : ops.toList.drop (i + 1) = l := by
      have : (ops.toList.drop i).drop 1 = l := by rw [hd]; rfl
      rw [List.drop_drop] at this
      exact this
    cases ha : aliasOf o with
    | some x =>
      have hs : ssa (o :: l) i m = ssa l (i + 1) (m.add o.dst (resolve m x)) := by simp only [ssa, ha]
      rw [hs]
      obtain ⟨h1, h2, h3⟩ := ssa_ok ops l (i + 1) _ hd' (hm.step ho (refOf_resolve hm ho ha))
      refine ⟨h1, h2, ?_⟩
      intro j p hj hp hap
      by_cases e : j = i
      · subst e
        rw [ho] at hp
        cases hp
        rw [ha] at hap
        cases hap
      · exact h3 j p (by omega) hp hap
    | none =>
      obtain ⟨h1, h2, h3⟩ := ssa_ok ops l (i + 1) _ hd' (hm.step ho (.op i o ho ha))
      have hs : ssa (o :: l) i m = ((i, o, m) :: (ssa l (i + 1) (m.add o.dst (.loc i))).1, (ssa l (i + 1) (m.add o.dst (.loc i))).2) := by simp only [ssa, ha]
      rw [hs]
      refine ⟨?_, h2, ?_⟩
      · intro x hx
        rcases List.mem_cons.1 hx with e | hx
        · subst e
          exact ⟨ho, ha, hm⟩
        · exact h1 x hx
      · intro j p hj hp hap
        by_cases e : j = i
        · subst e
          rw [ho] at hp
          cases hp
          exact ⟨_, List.mem_cons_self, rfl⟩
        · obtain ⟨x, hx, hxj⟩ := h3 j p (by omega) hp hap
          exact ⟨x, List.mem_cons_of_mem _ hx, hxj⟩

/-! ### Values that the region has told -/
noncomputable def refV (ix : List Nat) (L : List AV) (e : Env) (r : Ref) : AV := match rfOf ix r with
  | some f => opd f e L
  | none => .un

theorem place_cons (a : Nat) (l : List Nat) (j : Nat) : place (a :: l) j = if a == j then some 0 else (place l j).map (· + 1) := rfl
theorem refV_opd (ix ix' : List Nat) (L L' : List AV) (e : Env) (x : Operand) : refV ix L e (.opd x) = refV ix' L' e (.opd x) := by
  cases x with
  | tmp t => rfl
  | const v =>
    simp only [refV, rfOf]
    cases toAV v <;> rfl
  | global g => rfl
  | func f => rfl
theorem refV_cons {i : Nat} {ix : List Nat} {v : AV} {L : List AV} {e : Env} {r : Ref} (h : r ≠ .loc i) : refV (i :: ix) (v :: L) e r = refV ix L e r := by
  cases r with
  | loc j =>
    have hne : (i == j) = false := by
      rw [beq_eq_false_iff_ne]
      intro e
      subst e
      exact h rfl
    simp only [refV, rfOf, place_cons, hne, Bool.false_eq_true, if_false]
    cases place ix j with
    | none => rfl
    | some p => rfl
  | opd x => exact refV_opd _ _ _ _ _ _
theorem refV_same {i : Nat} {ix : List Nat} {v : AV} {L : List AV} {e : Env} : refV (i :: ix) (v :: L) e (.loc i) = v := by
  simp only [refV, rfOf, place_cons, BEq.rfl, if_true, Option.map_some]
  rfl
theorem place_mem : ∀ {ix : List Nat} {j p : Nat}, place ix j = some p → j ∈ ix
  | [], j, p, h => by cases h
  | a :: l, j, p, h => by
    rw [place_cons] at h
    split at h
    · rename_i e
      rw [eq_of_beq e]
      exact List.mem_cons_self
    · cases hp : place l j with
      | none => rw [hp] at h; cases h
      | some q => exact List.mem_cons_of_mem _ (place_mem hp)
theorem refV_drop : ∀ (n : Nat) {ix : List Nat} {L : List AV} {e : Env} {j : Nat}, ix.length = L.length → ix.Nodup → j ∈ ix.drop n → refV (ix.drop n) (L.drop n) e (.loc j) = refV ix L e (.loc j)
  | 0, ix, L, e, j, _, _, _ => by simp
  | n + 1, [], L, e, j, _, _, h => by simp at h
  | n + 1, i :: ix, [], e, j, h, _, _ => by simp at h
  | n + 1, i :: ix, v :: L, e, j, hl, hn, h => by
    simp only [List.drop_succ_cons] at h ⊢
    rw [List.nodup_cons] at hn
    rw [refV_drop n (by simpa using hl) hn.2 h, refV_cons]
    intro e
    cases e
    exact hn.1 (List.mem_of_mem_drop h)
/-- An operand, where it is asked. -/
theorem opd_refV {ix : List Nat} {r : Ref} {f : Rf} (h : rfOf ix r = some f) (L : List AV) (e : Env) : opd f e L = refV ix L e r := by
  simp only [refV, h]
end Go.AX
end

section
namespace Go.AX
/-! ## The machine's steps, at a frame that runs -/
variable {P : Program} {fr : Frame} {cs : List Frame} {w w' : World} {K : List Item}

theorem st_skip (hm : fr.mode = .run) (h : fr.todo = .code .skip :: K) : step P (lone fr cs w) = .next (lone { fr with todo := K } cs w) :=
  step_lone_go (by simp [stepG, stepG.exec, hm, h])
theorem st_inBlock (hm : fr.mode = .run) {id : Nat} (h : fr.todo = .inBlock id :: K) : step P (lone fr cs w) = .next (lone { fr with todo := K } cs w) :=
  step_lone_go (by simp [stepG, stepG.exec, hm, h])
theorem st_seq (hm : fr.mode = .run) {a b : Code} (h : fr.todo = .code (.seq a b) :: K) : step P (lone fr cs w) = .next (lone { fr with todo := .code a :: .code b :: K } cs w) :=
  step_lone_go (by simp [stepG, stepG.exec, hm, h])
theorem st_cond (hm : fr.mode = .run) {c : Operand} {a b : Code} {t : Bool} (h : fr.todo = .code (.cond c a b) :: K) (hc : fr.eval c = .bool t) : step P (lone fr cs w) = .next (lone { fr with todo := .code (if t then a else b) :: K } cs w) :=
  step_lone_go (by simp [stepG, stepG.exec, hm, h, hc])
theorem st_block (hm : fr.mode = .run) {id : Nat} {a : Code} (h : fr.todo = .code (.block id a) :: K) : step P (lone fr cs w) = .next (lone { fr with todo := .code a :: .inBlock id :: K } cs w) :=
  step_lone_go (by simp [stepG, stepG.exec, hm, h])
theorem st_loop (hm : fr.mode = .run) {a : Code} (h : fr.todo = .code (.loop a) :: K) : step P (lone fr cs w) = .next (lone { fr with todo := .code a :: .inLoop a :: K } cs w) :=
  step_lone_go (by simp [stepG, stepG.exec, hm, h])
theorem st_inLoop (hm : fr.mode = .run) {a : Code} (h : fr.todo = .inLoop a :: K) : step P (lone fr cs w) = .next (lone { fr with todo := .code a :: .inLoop a :: K } cs w) :=
  step_lone_go (by simp [stepG, stepG.exec, hm, h])
theorem st_exit (hm : fr.mode = .run) {id : Nat} {K' : List Item} (h : fr.todo = .code (.exit id) :: K) (he : exitTo id K = some K') : step P (lone fr cs w) = .next (lone { fr with todo := K' } cs w) :=
  step_lone_go (by simp [stepG, stepG.exec, hm, h, he])
theorem st_region (hm : fr.mode = .run) {id : Nat} {ops : Array Oper} (h : fr.todo = .code (.region id ops false) :: K) : step P (lone fr cs w) = .next (lone { fr with todo := .inRegion ops (List.range ops.size) :: K } cs w) :=
  step_lone_go (by simp [stepG, stepG.exec, hm, h])
theorem st_region_draw (hm : fr.mode = .run) {id : Nat} {ops : Array Oper} (h : fr.todo = .code (.region id ops true) :: K) :
    step P (lone fr cs w) = .next (lone { fr with todo := .inRegion ops (Region.schedule (P.follows .mixedOrders) ops (w.tape w.drawn (.order fr.fn id))) :: K } cs { w with drawn := w.drawn + 1 }) :=
  step_lone_go (by simp [stepG, stepG.exec, hm, h, choose, Sem.run, Question.forced, Question.cut])
theorem st_region_end (hm : fr.mode = .run) {ops : Array Oper} (h : fr.todo = .inRegion ops [] :: K) : step P (lone fr cs w) = .next (lone { fr with todo := K } cs w) :=
  step_lone_go (by simp [stepG, stepG.exec, hm, h])
theorem st_end (hm : fr.mode = .run) (h : fr.todo = []) (hr : fr.roundOf = none) : step P (lone fr cs w) = .next (lone { fr with mode := .returning } cs w) :=
  step_lone_go (by simp [stepG, stepG.exec, hm, h, hr])
theorem st_ret (hm : fr.mode = .run) (h : fr.todo = .code .ret :: K) (hr : fr.roundOf = none) : step P (lone fr cs w) = .next (lone { fr with mode := .returning } cs w) :=
  step_lone_go (by simp [stepG, stepG.exec, hm, h, hr])

/-! ### Operations -/
def putT (tmps : Array Value) (d : Option Tmp) (v : Value) : Array Value := match d with
  | some d => tmps.setIfInBounds d v
  | none => tmps

theorem finish_reg {ops : Array Oper} {i : Nat} {rest : List Nat} (h : fr.todo = .inRegion ops (i :: rest) :: K) (v : Value) :
    fr.finish v = { fr with tmps := putT fr.tmps ((ops[i]?).bind (·.dst)) v, todo := .inRegion ops rest :: K } := by
  simp only [Frame.finish, h]
  cases (ops[i]?).bind (·.dst) <;> rfl

section
variable {ops : Array Oper} {i : Nat} {rest : List Nat} {o : Oper}
theorem st_op_skip (hm : fr.mode = .run) (h : fr.todo = .inRegion ops (i :: rest) :: K) (ho : ops[i]? = some o) (hw : Region.wanted o (yielded ops fr.tmps) = false) :
    step P (lone fr cs w) = .next (lone (fr.finish Go.undef) cs w) :=
  step_lone_go (by simp [stepG, stepG.exec, hm, h, ho, hw])

theorem stepG_oper (hm : fr.mode = .run) (h : fr.todo = .inRegion ops (i :: rest) :: K) (ho : ops[i]? = some o) (hw : Region.wanted o (yielded ops fr.tmps) = true) (hd : fr.roundOf = none ∨ ∀ c, o.op ≠ .defer c) :
    stepG P true { frame := fr, callers := cs, status := .running, dying := none } w = stepG.apply P true fr cs none (execOp fr.eval o) w := by
  have h1 : stepG P true { frame := fr, callers := cs, status := .running, dying := none } w = stepG.oper P true fr cs none w := by
    simp [stepG, stepG.exec, hm, h, ho, hw]
  rw [h1]
  have h2 : fr.oper? = some o := by simp [Frame.oper?, h, ho]
  simp only [stepG.oper, h2]
  split
  · rename_i l c hr hop
    rcases hd with hd | hd
    · rw [hd] at hr; cases hr
    · exact absurd hop (hd c)
  · rfl

theorem st_value (hm : fr.mode = .run) (h : fr.todo = .inRegion ops (i :: rest) :: K) (ho : ops[i]? = some o) (hw : Region.wanted o (yielded ops fr.tmps) = true) (hd : fr.roundOf = none ∨ ∀ c, o.op ≠ .defer c)
    {v : Value} (hr : (execOp fr.eval o).run P w = .ok (.value v) w') : step P (lone fr cs w) = .next (lone (fr.finish v) cs w') :=
  step_lone_go (by rw [stepG_oper hm h ho hw hd]; simp [stepG.apply, hr])
theorem st_oskip (hm : fr.mode = .run) (h : fr.todo = .inRegion ops (i :: rest) :: K) (ho : ops[i]? = some o) (hw : Region.wanted o (yielded ops fr.tmps) = true) (hd : fr.roundOf = none ∨ ∀ c, o.op ≠ .defer c)
    (hr : (execOp fr.eval o).run P w = .ok .skip w') : step P (lone fr cs w) = .next (lone (fr.finish Go.undef) cs w') :=
  step_lone_go (by rw [stepG_oper hm h ho hw hd]; simp [stepG.apply, hr])
theorem st_defer (hm : fr.mode = .run) (h : fr.todo = .inRegion ops (i :: rest) :: K) (ho : ops[i]? = some o) (hw : Region.wanted o (yielded ops fr.tmps) = true) (hd : fr.roundOf = none)
    {d : Deferred} (hr : (execOp fr.eval o).run P w = .ok (.defer d) w') : step P (lone fr cs w) = .next (lone ({ fr with defers := d :: fr.defers }.finish Go.undef) cs w') :=
  step_lone_go (by rw [stepG_oper hm h ho hw (.inl hd)]; simp [stepG.apply, hr])
theorem st_recover (hm : fr.mode = .run) (h : fr.todo = .inRegion ops (i :: rest) :: K) (ho : ops[i]? = some o) (hw : Region.wanted o (yielded ops fr.tmps) = true) (hd : fr.roundOf = none) (ht : tryRecover fr cs = none)
    (hr : (execOp fr.eval o).run P w = .ok .recover w') : step P (lone fr cs w) = .next (lone (fr.finish .nilIface) cs w') :=
  step_lone_go (by rw [stepG_oper hm h ho hw (.inl hd)]; simp [stepG.apply, hr, hd, ht])
theorem st_enter (hm : fr.mode = .run) (h : fr.todo = .inRegion ops (i :: rest) :: K) (ho : ops[i]? = some o) (hw : Region.wanted o (yielded ops fr.tmps) = true) (hd : fr.roundOf = none ∨ ∀ c, o.op ≠ .defer c)
    {f : FuncId} {args : Array Value} (hr : (execOp fr.eval o).run P w = .ok (.enter f args) w') : step P (lone fr cs w) = .next (lone (Frame.enter P f args .normal) (fr :: cs) w') :=
  step_lone_go (by rw [stepG_oper hm h ho hw hd]; simp [stepG.apply, hr, h])
theorem st_round (hm : fr.mode = .run) (h : fr.todo = .inRegion ops (i :: rest) :: K) (ho : ops[i]? = some o) (hw : Region.wanted o (yielded ops fr.tmps) = true) (hd : fr.roundOf = none ∨ ∀ c, o.op ≠ .defer c)
    {l f : Nat} {tmps : Array Value} {as bd : Code} (hr : (execOp fr.eval o).run P w = .ok (.round l f tmps as bd) w') : step P (lone fr cs w) = .next (lone (Frame.round l f tmps as bd .normal) (fr :: cs) w') :=
  step_lone_go (by rw [stepG_oper hm h ho hw hd]; simp [stepG.apply, hr, h])
end
end Go.AX
end

section
namespace Go.AX
/-! ## Calls, defers -/
variable {P : Program} {ρ ρ' : Ren} {w w' : World} {H H' : Heap}

inductive DRel (ρ : Ren) : ADef → Deferred → Prop where
  | call (f : Nat) (args : List AV) (vs cap : Array Value) (h : VRels ρ args (vs ++ cap).toList) : DRel ρ (.call f args) { target := .fn (.func f) cap, args := vs }
  | coll (id : Id) (loc : Loc) (h : ρ id = some loc) : DRel ρ (.coll id) { target := .collected loc.blk, args := #[] }
inductive DRels (ρ : Ren) : List ADef → List Deferred → Prop where
  | nil : DRels ρ [] []
  | cons (a : ADef) (d : Deferred) (l : List ADef) (m : List Deferred) (h : DRel ρ a d) (t : DRels ρ l m) : DRels ρ (a :: l) (d :: m)

theorem DRel.mono (hle : ρ.le ρ') : ∀ {a : ADef} {d : Deferred}, DRel ρ a d → DRel ρ' a d
  | _, _, .call f args vs cap h => .call f args vs cap (h.mono hle)
  | _, _, .coll id loc h => .coll id loc (hle _ _ h)
theorem DRels.mono (hle : ρ.le ρ') : ∀ {l : List ADef} {m : List Deferred}, DRels ρ l m → DRels ρ' l m
  | _, _, .nil => .nil
  | _, _, .cons a d l m h t => .cons a d l m (h.mono hle) (t.mono hle)

def RndOk (ρ : Ren) : Option Id → Option Nat → Prop
  | none, r => r = none
  | some l, r => ∃ loc, ρ l = some loc ∧ r = some loc.blk
theorem RndOk.mono (hle : ρ.le ρ') : ∀ {a : Option Id} {b : Option Nat}, RndOk ρ a b → RndOk ρ' a b
  | none, _, h => h
  | some _, _, ⟨loc, h1, h2⟩ => ⟨loc, hle _ _ h1, h2⟩
def Ctl.defs : Ctl → List ADef
  | ⟨ds, _⟩ => ds
def Ctl.rnd : Ctl → Option Id
  | ⟨_, r⟩ => r
structure CtlOk (ρ : Ren) (k : Ctl) (defers : List Deferred) (rnd : Option Nat) : Prop where
  d : DRels ρ k.defs defers
  r : RndOk ρ k.rnd rnd
theorem CtlOk.mono (hle : ρ.le ρ') {k : Ctl} {ds : List Deferred} {r : Option Nat} (h : CtlOk ρ k ds r) : CtlOk ρ' k ds r := ⟨h.d.mono hle, h.r.mono hle⟩

/-- What has been begun comes back with what is told. -/
def Gives (P : Program) (ρ : Ren) (H : Heap) (w : World) (v : AV) (H' : Heap) (m : Frame → List Frame → Machine) : Prop :=
  ∀ c cs, ∃ ρ' w' v', Steps P (m c cs) (lone (c.finish v') cs w') ∧ VRel ρ' v v' ∧ HRel P ρ' H' w' ∧ Grow ρ ρ' H H' w w'

/-- What holds of the blocks that have no name: it stays. -/
def Stable (B : Ren → World → Prop) : Prop := ∀ {ρ ρ' : Ren} {H H' : Heap} {w w' : World}, B ρ w → Grow ρ ρ' H H' w w' → B ρ' w'

/-- What a call that is told means. -/
def CallOk (P : Program) (B : Ren → World → Prop) (f : Nat) (args : List AV) (H : Heap) (v : AV) (H' : Heap) : Prop :=
  ∀ ρ w (vs : Array Value), VRels ρ args vs.toList → HRel P ρ H w → B ρ w →
    (∀ w, (callFunc f vs).run P w = .ok (.enter f vs) w) ∧ Gives P ρ H w v H' (fun c cs => lone (Frame.enter P f vs .normal) (c :: cs) w)

/-- Calls are as they are told. -/
def RecOk (P : Program) (B : Ren → World → Prop) (rec : Rec) : Prop := ∀ f args H v H', rec f args H = .ret v H' → CallOk P B f args H v H'

/-- A deferred call that is told. -/
def DefOk (P : Program) (B : Ren → World → Prop) (rec : Rec) : Prop :=
  ∀ f args H v H', rec f args H = .ret v H' → ∀ ρ w (vs : Array Value), VRels ρ args vs.toList → HRel P ρ H w → B ρ w →
    (∀ w, (callFunc f vs).run P w = .ok (.enter f vs) w) ∧ ∀ c cs, c.mode = .returning → ∃ ρ' w', Steps P (lone (Frame.enter P f vs .deferred) (c :: cs) w) (lone c cs w') ∧ HRel P ρ' H' w' ∧ Grow ρ ρ' H H' w w'

def RoundOk (P : Program) (B : Ren → World → Prop) (round : Rec → Id → List AV → Heap → CR) : Prop :=
  ∀ rec, RecOk P B rec → ∀ l args H v H', round rec l args H = .ret v H' → ∀ ρ w loc (vs : Array Value), ρ l = some loc → VRels ρ args vs.toList → HRel P ρ H w → B ρ w →
    ∃ f tmps as bd, (Instr.yield loc.blk vs).run P w = .ok (.round loc.blk f tmps as bd) w ∧ Gives P ρ H w v H' (fun c cs => lone (Frame.round loc.blk f tmps as bd .normal) (c :: cs) w)

def CallTo (P : Program) (ρ : Ren) (s : Sem Next) (vs : Array Value) : Sum Nat Id → Prop
  | .inl f => ∀ w, s.run P w = (callFunc f vs).run P w
  | .inr l => ∃ loc, ρ l = some loc ∧ ∀ w, s.run P w = (Instr.yield loc.blk vs).run P w

theorem call_sound {o : Oper} {c : IOp} {ρf : Operand → Option Rf} {ev : Operand → Value} {e : Env} {L : List AV} {t : Sum Nat Id} {args : List AV} (hc : comp P ρf o.op = some c) (hk : c.kd = .c) (h : evalC c e L = some (t, args))
    (hr : ∀ x ∈ o.op.operands.toList, ∀ r, ρf x = some r → VRel ρ (opd r e L) (ev x)) (hfn : ∀ f, ev (.func f) = .func (.func f) #[] #[]) :
    (∀ cl, o.op ≠ .defer cl) ∧ ∃ vs : Array Value, VRels ρ args vs.toList ∧ CallTo P ρ (execOp ev o) vs t := by
  obtain ⟨dst, op, ty, pos, aft, g⟩ := o
  simp only at hc hr
  cases op <;> simp only [comp, reduceCtorEq] at hc
  case call cl =>
    refine ⟨(fun cl e => by cases e), ?_⟩
    have hargs : ∀ y ∈ cl.args.toList, ∀ r, ρf y = some r → VRel ρ (opd r e L) (ev y) := by
      intro y hy r hr'
      refine hr y ?_ r hr'
      simp only [Op.operands, Call.operands, Array.toList_append, List.mem_append]
      exact Or.inr hy
    have hops : ∀ {rs : List Rf}, rfs ρf cl.args.toList = some rs → VRels ρ (opds e L rs) (cl.args.map ev).toList := by
      intro rs hrs
      have := opds_sound hrs hargs
      simpa using this
    split at hc
    all_goals try
      ((repeat' split at hc) <;> first
        | (cases hc; done)
        | (simp only [Option.some.injEq] at hc; subst hc; cases hk; done)
        | (simp only [Option.map_eq_some_iff] at hc; obtain ⟨r, _, rfl⟩ := hc; cases hk; done))
    · -- a function that is named
      rename_i f hcal
      split at hc
      · rename_i l fn hl hf
        split at hc
        · simp only [Option.some.injEq] at hc
          subst hc
          simp only [evalC, Option.some.injEq, Prod.mk.injEq] at h
          obtain ⟨rfl, rfl⟩ := h
          refine ⟨cl.args.map ev, hops hl, ?_⟩
          intro w
          simp only [execOp, Go.resolve, hcal, hfn, Deferred.ofValue, Sem.run_bind, Sem.run_pure, Result.andThen_ok, Go.invoke, Array.empty_append, Array.append_empty]
        · simp only [Option.map_eq_some_iff] at hc
          obtain ⟨n, _, rfl⟩ := hc
          cases hk
      · cases hc
    · -- a value
      rename_i x hnf hcal
      split at hc
      · rename_i r l hx hl
        simp only [Option.some.injEq] at hc
        subst hc
        have hxr := hr x (by simp [Op.operands, Call.operands, hcal]) r hx
        simp only [evalC] at h
        generalize hy : opd r e L = y at hxr h
        generalize hz : ev x = z at hxr
        cases hxr <;> try (cases h; done)
        · rename_i f first cap vs ws hv hw
          simp only [Option.some.injEq, Prod.mk.injEq, app_eq] at h
          obtain ⟨rfl, rfl⟩ := h
          refine ⟨vs ++ cl.args.map ev ++ ws, ?_, ?_⟩
          · rw [Array.toList_append, Array.toList_append, List.append_assoc]
            exact hv.append ((hops hl).append hw)
          · intro w
            simp only [execOp, Go.resolve, hcal, hz, Deferred.ofValue, Sem.run_bind, Sem.run_pure, Result.andThen_ok, Go.invoke]
        · rename_i l2 loc hloc
          simp only [Option.some.injEq, Prod.mk.injEq] at h
          obtain ⟨rfl, rfl⟩ := h
          refine ⟨cl.args.map ev, hops hl, loc, hloc, ?_⟩
          intro w
          simp only [execOp, Go.resolve, hcal, hz, Deferred.ofValue, Sem.run_bind, Sem.run_pure, Result.andThen_ok, Go.invoke, Array.empty_append]
      · cases hc
  case makeFunc fn fi ca =>
    cases fn <;> simp only [reduceCtorEq] at hc <;> (repeat' split at hc) <;> first
      | (cases hc; done)
      | (simp only [Option.some.injEq] at hc; subst hc; cases hk; done)
      | (simp only [Option.map_eq_some_iff] at hc; obtain ⟨r, _, rfl⟩ := hc; cases hk; done)
  all_goals
    (repeat' split at hc) <;> first
      | (cases hc; done)
      | (simp only [Option.some.injEq] at hc; subst hc; cases hk; done)
      | (simp only [Option.map_eq_some_iff] at hc; obtain ⟨r, _, rfl⟩ := hc; cases hk; done)

theorem defer_sound {o : Oper} {c : IOp} {ρf : Operand → Option Rf} {ev : Operand → Value} {e : Env} {L : List AV} {f : Nat} {args : List AV} (hc : comp P ρf o.op = some c) (hk : c.kd = .d) (h : evalD c e L = some (f, args))
    (hr : ∀ x ∈ o.op.operands.toList, ∀ r, ρf x = some r → VRel ρ (opd r e L) (ev x)) : ∃ d, DRel ρ (.call f args) d ∧ (execOp ev o).run P w = .ok (.defer d) w := by
  obtain ⟨dst, op, ty, pos, aft, g⟩ := o
  simp only at hc hr
  cases op <;> simp only [comp, reduceCtorEq] at hc
  case defer cl =>
    have hargs : ∀ y ∈ cl.args.toList, ∀ r, ρf y = some r → VRel ρ (opd r e L) (ev y) := by
      intro y hy r hr'
      refine hr y ?_ r hr'
      simp only [Op.operands, Call.operands, Array.toList_append, List.mem_append]
      exact Or.inr hy
    have hops : ∀ {rs : List Rf}, rfs ρf cl.args.toList = some rs → VRels ρ (opds e L rs) (cl.args.map ev).toList := by
      intro rs hrs
      have := opds_sound hrs hargs
      simpa using this
    split at hc
    · rename_i x hcal
      split at hc
      · rename_i r l hx hl
        simp only [Option.some.injEq] at hc
        subst hc
        have hxr := hr x (by simp [Op.operands, Call.operands, hcal]) r hx
        simp only [evalD] at h
        generalize hy : opd r e L = y at hxr h
        generalize hz : ev x = z at hxr
        cases hxr <;> try (cases h; done)
        rename_i f first cap vs ws hv hw
        simp only [Option.some.injEq, Prod.mk.injEq, app_eq] at h
        obtain ⟨rfl, rfl⟩ := h
        refine ⟨_, .call f _ (vs ++ cl.args.map ev) ws ?_, ?_⟩
        · rw [Array.toList_append, Array.toList_append, List.append_assoc]
          exact hv.append ((hops hl).append hw)
        · simp only [execOp, Go.resolve, hcal, hz, Deferred.ofValue, Sem.run_bind, Sem.run_pure, Result.andThen_ok]
      · cases hc
    · cases hc
  case makeFunc fn fi ca =>
    cases fn <;> simp only [reduceCtorEq] at hc <;> (repeat' split at hc) <;> first
      | (cases hc; done)
      | (simp only [Option.some.injEq] at hc; subst hc; cases hk; done)
      | (simp only [Option.map_eq_some_iff] at hc; obtain ⟨r, _, rfl⟩ := hc; cases hk; done)
  all_goals
    (repeat' split at hc) <;> first
      | (cases hc; done)
      | (simp only [Option.some.injEq] at hc; subst hc; cases hk; done)
      | (simp only [Option.map_eq_some_iff] at hc; obtain ⟨r, _, rfl⟩ := hc; cases hk; done)

theorem recover_sound {o : Oper} {c : IOp} {ρf : Operand → Option Rf} {ev : Operand → Value} (hc : comp P ρf o.op = some c) (hk : c.kd = .r) : (execOp ev o).run P w = .ok .recover w ∧ ∀ cl, o.op ≠ .defer cl := by
  obtain ⟨dst, op, ty, pos, aft, g⟩ := o
  simp only at hc
  cases op <;> simp only [comp, reduceCtorEq] at hc
  case call cl =>
    refine ⟨?_, (fun cl e => by cases e)⟩
    split at hc
    all_goals try
      ((repeat' split at hc) <;> first
        | (cases hc; done)
        | (simp only [Option.some.injEq] at hc; subst hc; cases hk; done)
        | (simp only [Option.map_eq_some_iff] at hc; obtain ⟨r, _, rfl⟩ := hc; cases hk; done))
    rename_i hcal
    simp only [execOp, Go.resolve, hcal, Sem.run_bind, Sem.run_pure, Result.andThen_ok, Go.invoke, Go.builtin]
  case makeFunc fn fi ca =>
    cases fn <;> simp only [reduceCtorEq] at hc <;> (repeat' split at hc) <;> first
      | (cases hc; done)
      | (simp only [Option.some.injEq] at hc; subst hc; cases hk; done)
      | (simp only [Option.map_eq_some_iff] at hc; obtain ⟨r, _, rfl⟩ := hc; cases hk; done)
  all_goals
    (repeat' split at hc) <;> first
      | (cases hc; done)
      | (simp only [Option.some.injEq] at hc; subst hc; cases hk; done)
      | (simp only [Option.map_eq_some_iff] at hc; obtain ⟨r, _, rfl⟩ := hc; cases hk; done)

/-- Nothing but a defer statement is one. -/
theorem not_defer {o : Oper} {c : IOp} {ρf : Operand → Option Rf} (hc : comp P ρf o.op = some c) (hk : c.kd ≠ .d) : ∀ cl, o.op ≠ .defer cl := by
  intro cl e
  obtain ⟨dst, op, ty, pos, aft, g⟩ := o
  simp only at e hc
  subst e
  simp only [comp] at hc
  split at hc
  · split at hc
    · simp only [Option.some.injEq] at hc
      subst hc
      exact hk rfl
    · cases hc
  · cases hc
end Go.AX
end

section
namespace Go.AX
/-! ## Regions: what holds on the way -/
variable {P : Program} {ρ ρ' : Ren} {w w' : World} {H H' : Heap} {nt : Nat} {ops : Array Oper} {D : Nat → Prop} {e : Env}

structure Reg (nt : Nat) (ops : Array Oper) : Prop where
  edge : ∀ (j : Nat) (o : Oper), ops[j]? = some o → ∀ e ∈ o.after, Region.binds .any e = true → e.on < j
  name : ∀ (j : Nat) (o : Oper), ops[j]? = some o → ∀ t ∈ namesOf ops.toList o, t < nt
  slot : ∀ (j : Nat) (o : Oper) (t : Tmp), ops[j]? = some o → o.dst = some t → ∀ (i : Nat) (p : Oper), ops[i]? = some p → i ≠ j → p.dst ≠ some t ∧ (t ∈ namesOf ops.toList p → ((Region.before ops).getD (max i j) 0).testBit (min i j) = true)

theorem regOk_sound (h : regOk nt ops.toList (Region.before ops) = true) : Reg nt ops := by
  unfold regOk at h
  simp only [Bool.and_eq_true, List.all_eq_true] at h
  obtain ⟨⟨h1, h2⟩, h3⟩ := h
  have hz : ∀ (j : Nat) (o : Oper), ops[j]? = some o → (o, j) ∈ ops.toList.zipIdx := fun j o ho => by
    rw [List.mem_zipIdx_iff_getElem?, Array.getElem?_toList]
    exact ho
  refine ⟨?_, ?_, ?_⟩
  · intro j o ho e he hb
    have := h1 (o, j) (hz j o ho) e (by simpa using he)
    simp only [hb, Bool.not_true, Bool.false_or, Nat.blt_eq] at this
    exact this
  · intro j o ho t ht
    have := h2 o (by rw [Array.mem_toList_iff]; exact Array.mem_of_getElem? ho) t ht
    simpa using this
  · intro j o t ho hd i p hp hne
    have := h3 (o, j) (hz j o ho)
    simp only [hd, List.all_eq_true] at this
    have := this (p, i) (hz i p hp)
    simp only [Bool.or_eq_true, beq_iff_eq, hne, false_or, Bool.and_eq_true, bne_iff_ne, ne_eq, Bool.not_eq_true'] at this
    refine ⟨this.1, fun ht => ?_⟩
    rcases this.2 with h | h
    · rw [List.contains_iff_mem.2 ht] at h; cases h
    · exact h

theorem Reg.ahead (R : Reg nt ops) (hc : Closed ops D) {i : Nat} {p : Oper} (hp : ops[i]? = some p) (hpre : Preds D p) (hi : ¬ D i) {t : Tmp} (ht : t ∈ namesOf ops.toList p) {j : Nat} {o : Oper} (ho : ops[j]? = some o) (hd : o.dst = some t) (hne : i ≠ j) :
    (j < i → D j) ∧ (i < j → ¬ D j) := by
  have hb := (R.slot j o t ho hd i p hp hne).2 ht
  refine ⟨fun h => ?_, fun h hD => ?_⟩
  · rw [Nat.max_eq_left (by omega), Nat.min_eq_right (by omega)] at hb
    exact bits_closed hc i p j hp hpre hb
  · rw [Nat.max_eq_right (by omega), Nat.min_eq_left (by omega)] at hb
    exact hi (bits_closed hc j o i ho (hc j o hD ho) hb)

theorem alias_op {o : Oper} {x : Operand} (h : aliasOf o = some x) : o.guard = none ∧ (o.op = .move x ∨ o.op = .assign x) := by
  unfold aliasOf at h
  split at h
  · cases h
  · rename_i hg
    refine ⟨hg, ?_⟩
    split at h
    · rename_i hop; cases h; exact .inl hop
    · rename_i hop; cases h; exact .inr hop
    · cases h

theorem alias_names {o : Oper} {s : Tmp} (h : aliasOf o = some (.tmp s)) : s ∈ namesOf ops.toList o := by
  obtain ⟨_, h | h⟩ := alias_op h <;>
  · unfold namesOf
    rw [h]
    simp [Op.operands, opTmps]

theorem refOf_D (R : Reg nt ops) (hc : Closed ops D) {j : Nat} {r : Ref} (h : RefOf ops j r) : D j → ∀ i, r = .loc i → D i := by
  induction h with
  | op j o h ha => intro hD i e; cases e; exact hD
  | tmp j o s i p r h ha hi hp hd hr ih =>
    intro hD k e
    refine ih ?_ k e
    have hb := (R.slot i p s hp hd j o h (by omega)).2 (alias_names ha)
    rw [Nat.max_eq_left (by omega), Nat.min_eq_right (by omega)] at hb
    exact bits_closed hc j o i h (hc j o hD h) hb
  | ini j o s h ha hn => intro _ i e; cases e
  | oth j o x h ha hx => intro _ i e; cases e

noncomputable def evT (tmps : Array Value) : Operand → Value
  | .tmp t => tmps.getD t Go.undef
  | .const v => v
  | .global g => .pointer (some ⟨g, 0, none⟩)
  | .func f => .func (.func f) #[] #[]
theorem eval_evT (fr : Frame) : fr.eval = evT fr.tmps := by
  funext x
  cases x <;> rfl

def Slots (ρ : Ren) (ops : Array Oper) (D : Nat → Prop) (ix : List Nat) (L : List AV) (e : Env) (tmps : Array Value) : Prop :=
  ∀ (j : Nat) (o : Oper) (t : Tmp) (r : Ref), D j → ops[j]? = some o → o.dst = some t → RefOf ops j r → VRel ρ (refV ix L e r) (tmps.getD t Go.undef)
def Inits (ops : Array Oper) (D : Nat → Prop) (tmps tmps0 : Array Value) : Prop :=
  ∀ t, (∀ (j : Nat) (o : Oper), D j → ops[j]? = some o → o.dst ≠ some t) → tmps.getD t Go.undef = tmps0.getD t Go.undef

theorem opd_ok (R : Reg nt ops) (hnt : nt ≤ 512) (hc : Closed ops D) {ix : List Nat} {L : List AV} {tmps tmps0 : Array Value} (hs : Slots ρ ops D ix L e tmps) (hi : Inits ops D tmps tmps0) (hE : ERel ρ e tmps0) (hlen : ix.length = L.length) (hnd : ix.Nodup)
    {i : Nat} {o : Oper} {m : RM} (ho : ops[i]? = some o) (hp : Preds D o) (hni : ¬ D i) (hm : RMOk ops i m) (n : Nat) {x : Operand} (hx : ∀ t, x = .tmp t → t ∈ namesOf ops.toList o) {f : Rf} (hf : rfOf (ix.drop n) (resolve m x) = some f) :
    VRel ρ (opd f e (L.drop n)) (evT tmps x) := by
  cases x with
  | tmp t =>
    have hxt := hx t rfl
    cases hfd : m.find t with
    | none =>
      simp only [resolve, hfd, rfOf, Option.some.injEq] at hf
      subst hf
      show VRel ρ (Env.get (Slot.of t) e) (tmps.getD t Go.undef)
      rw [hi t ?_]
      · exact hE t (Nat.lt_of_lt_of_le (R.name i o ho t hxt) hnt)
      · intro j p hDj hpj hdj
        have hne : i ≠ j := fun e => hni (e ▸ hDj)
        rcases Nat.lt_or_gt_of_ne hne with h | h
        · exact (R.ahead hc ho hp hni hxt hpj hdj hne).2 h hDj
        · exact hm.non t hfd j p h hpj hdj
    | some r =>
      simp only [resolve, hfd] at hf
      obtain ⟨j, p, hj, hpj, hdj, hrj⟩ := hm.there t r hfd
      have hDj := (R.ahead hc ho hp hni hxt hpj hdj (by omega)).1 hj
      have hv := hs j p t r hDj hpj hdj hrj
      have heq : opd f e (L.drop n) = refV ix L e r := by
        rw [opd_refV hf]
        cases r with
        | loc j' =>
          simp only [rfOf, Option.map_eq_some_iff] at hf
          obtain ⟨q, hq, _⟩ := hf
          exact refV_drop n hlen hnd (place_mem hq)
        | opd x => exact refV_opd _ _ _ _ _ _
      rw [heq]
      exact hv
  | const v =>
    simp only [resolve, rfOf, Option.map_eq_some_iff] at hf
    obtain ⟨a, ha, rfl⟩ := hf
    exact toAV_sound ha
  | global g =>
    simp only [resolve, rfOf, Option.some.injEq] at hf
    subst hf
    exact .gl g
  | func f' =>
    simp only [resolve, rfOf, Option.some.injEq] at hf
    subst hf
    exact .f f' [] [] #[] #[] .nil .nil

/-- A step is what is compiled of an operation. -/
structure SOk (P : Program) (ops : Array Oper) (ix : List Nat) (i : Nat) (s : IStep) (o : Oper) (m : RM) : Prop where
  op : ops[i]? = some o
  na : aliasOf o = none
  rm : RMOk ops i m
  c : comp P (fun x => rfOf ix (resolve m x)) o.op = some s.op ∨ s.op = noOp
  g : match o.guard with
    | none => s.guard = none
    | some (j, w) => ∃ t g, (ops[j]?).bind (·.dst) = some t ∧ rfOf ix (resolve m (.tmp t)) = some g ∧ s.guard = some (g, w)

theorem wanted_ok (R : Reg nt ops) (hnt : nt ≤ 512) (hc : Closed ops D) {ix : List Nat} {L : List AV} {tmps tmps0 : Array Value} (hs : Slots ρ ops D ix L e tmps) (hi : Inits ops D tmps tmps0) (hE : ERel ρ e tmps0) (hlen : ix.length = L.length) (hnd : ix.Nodup) (hsz : nt ≤ tmps.size)
    {i : Nat} {s : IStep} {o : Oper} {m : RM} {n : Nat} (hS : SOk P ops (ix.drop n) i s o m) (hp : Preds D o) (hni : ¬ D i) {b : Bool} (hw : wanted s.guard e (L.drop n) = some b) : Region.wanted o (yielded ops tmps) = b := by
  have hg := hS.g
  unfold Region.wanted
  cases hgd : o.guard with
  | none =>
    rw [hgd] at hg
    simp only at hg
    rw [hg] at hw
    simp only [wanted, Option.some.injEq] at hw
    exact hw
  | some jw =>
    obtain ⟨j, w⟩ := jw
    rw [hgd] at hg
    simp only at hg
    obtain ⟨t, g, h1, h2, h3⟩ := hg
    rw [h3] at hw
    have ht : t ∈ namesOf ops.toList o := by
      unfold namesOf guardTmps
      simp only [hgd, Array.getElem?_toList, h1]
      simp
    have hv := opd_ok R hnt hc hs hi hE hlen hnd hS.op hp hni hS.rm n (x := .tmp t) (fun u hu => by cases hu; exact ht) h2
    simp only [wanted] at hw
    have hlt : t < tmps.size := Nat.lt_of_lt_of_le (R.name i o hS.op t ht) hsz
    have hy : yielded ops tmps j = match tmps.getD t Go.undef with | .bool b => some b | _ => none := by
      unfold yielded
      rw [h1]
      simp only [Option.bind_some, Array.getElem?_eq_getElem hlt]
      rw [show tmps.getD t Go.undef = tmps[t] by simp [Array.getD, hlt]]
      cases tmps[t] <;> rfl
    show (yielded ops tmps j == some w) = b
    rw [hy]
    generalize opd g e (L.drop n) = y at hv hw
    change VRel ρ y (tmps.getD t Go.undef) at hv
    generalize tmps.getD t Go.undef = z at hv ⊢
    cases hv <;> simp only [wantedV, Option.some.injEq, reduceCtorEq] at hw
    · rename_i x
      cases x <;> cases w <;> subst hw <;> rfl
    · subst hw; rfl

/-- A step that hasn't been carried out yet by the model, though its value is told. -/
inductive Pend (ρ : Ren) (H : Heap) (e : Env) (gh : Nat → Option Id) (i : Nat) (s : IStep) (v : AV) (L : List AV) : Prop where
  | off (h1 : wanted s.guard e L = some false) (h2 : v = undef) (h3 : gh i = none)
  | q (h1 : wanted s.guard e L = some true) (h2 : s.op.kd = .q) (h3 : evalQ s.op e L = some v) (h4 : gh i = none)
  | h (h1 : wanted s.guard e L = some true) (h2 : s.op.kd = .h) (h3 : evalH s.op e L H = some v) (h4 : gh i = none)
  | a (h1 : wanted s.guard e L = some true) (h2 : s.op.kd = .a) (x : Obj) (g : Id → AV) (id : Id) (h3 : evalA s.op e L = some (x, g)) (h4 : v = g id) (h5 : gh i = some id) (h6 : ρ id = none) (h7 : H.get id = some x)

/-- It is carried out. -/
theorem pend_run (hext : ExtOk P) (R : Reg nt ops) (hnt : nt ≤ 512) (hc : Closed ops D) {ix : List Nat} {L : List AV} {tmps0 : Array Value} {fr : Frame} {cs : List Frame} {K : List Item} {rest : List Nat} (hs : Slots ρ ops D ix L e fr.tmps) (hi : Inits ops D fr.tmps tmps0) (hE : ERel ρ e tmps0) (hlen : ix.length = L.length) (hnd : ix.Nodup) (hsz : nt ≤ fr.tmps.size)
    {i : Nat} {s : IStep} {o : Oper} {m : RM} {n : Nat} (hS : SOk P ops (ix.drop n) i s o m) (hp : Preds D o) (hni : ¬ D i) (hH : HRel P ρ H w) {gh : Nat → Option Id} {v : AV} (hP : Pend ρ H e gh i s v (L.drop n))
    {ρ0 : Ren} {H0 : Heap} {w0 : World} (hG : Grow ρ0 ρ H0 H w0 w) (hgh : ∀ id, gh i = some id → H0.next.num ≤ id.num) (hm : fr.mode = .run) (ht : fr.todo = .inRegion ops (i :: rest) :: K) :
    ∃ v' w' ρ', step P (lone fr cs w) = .next (lone (fr.finish v') cs w') ∧ VRel ρ' v v' ∧ HRel P ρ' H w' ∧ Grow ρ0 ρ' H0 H w0 w' ∧ ρ.le ρ' ∧ (ρ' = ρ ∨ ∃ id loc, gh i = some id ∧ ρ' = ρ.set id loc) := by
  have hr : ∀ x ∈ o.op.operands.toList, ∀ r, (fun x => rfOf (ix.drop n) (resolve m x)) x = some r → VRel ρ (opd r e (L.drop n)) (fr.eval x) := by
    intro x hx r hf
    rw [eval_evT]
    refine opd_ok R hnt hc hs hi hE hlen hnd hS.op hp hni hS.rm n ?_ hf
    intro t ht
    subst ht
    unfold namesOf opTmps
    simp only [List.mem_append, List.mem_filterMap]
    exact .inl (.inr ⟨_, hx, rfl⟩)
  have hfn : ∀ f, fr.eval (.func f) = .func (.func f) #[] #[] := fun f => rfl
  have hcm : s.op.kd ≠ .q → comp P (fun x => rfOf (ix.drop n) (resolve m x)) o.op = some s.op := by
    intro hk
    rcases hS.c with h | h
    · exact h
    · rw [h] at hk; exact absurd rfl hk
  cases hP with
  | off h1 h2 h3 =>
    subst h2
    exact ⟨_, w, ρ, st_op_skip hm ht hS.op (wanted_ok R hnt hc hs hi hE hlen hnd hsz hS hp hni h1), .tu [] #[] .nil, hH, hG, Ren.le_refl ρ, .inl rfl⟩
  | q h1 h2 h3 h4 =>
    have hw := wanted_ok R hnt hc hs hi hE hlen hnd hsz hS hp hni h1
    rcases hS.c with hcc | hcc
    · obtain ⟨v', f1, f2⟩ := evalQ_sound hext hcc h2 h3 hr hfn w
      exact ⟨v', w, ρ, st_value hm ht hS.op hw (.inr (not_defer hcc (by rw [h2]; exact fun e => by cases e))) f1, f2, hH, hG, Ren.le_refl ρ, .inl rfl⟩
    · rw [hcc] at h3
      cases h3
  | h h1 h2 h3 h4 =>
    have hw := wanted_ok R hnt hc hs hi hE hlen hnd hsz hS hp hni h1
    have hcc := hcm (by rw [h2]; exact fun e => by cases e)
    obtain ⟨v', f1, f2⟩ := evalH_sound hH hcc h2 h3 hr
    exact ⟨v', w, ρ, st_value hm ht hS.op hw (.inr (not_defer hcc (by rw [h2]; exact fun e => by cases e))) f1, f2, hH, hG, Ren.le_refl ρ, .inl rfl⟩
  | a h1 h2 x g id h3 h4 h5 h6 h7 =>
    have hw := wanted_ok R hnt hc hs hi hE hlen hnd hsz hS hp hni h1
    have hcc := hcm (by rw [h2]; exact fun e => by cases e)
    obtain ⟨v', w', loc, f1, ⟨f2, fio⟩, f3, f4, f5⟩ := evalA_sound (w := w) hcc h2 h3 hr
    obtain ⟨q1, q2⟩ := f5 id H h6
    subst h4
    exact ⟨v', w', ρ.set id loc, st_value hm ht hS.op hw (.inr (not_defer hcc (by rw [h2]; exact fun e => by cases e))) f1, q1, hH.name h6 h7 f3 f4 q2, hG.name h6 (hgh id h5) f3 f2 f4 fio, Ren.le_set h6, .inr ⟨id, loc, h5, rfl⟩⟩
end Go.AX
end

section
namespace Go.AX
/-! ## Reads that stay what they are -/
variable {P : Program} {ρ ρ' : Ren} {w w' : World} {H H' : Heap} {nt : Nat} {ops : Array Oper} {D : Nat → Prop} {e : Env}

theorem optNatEq_eq : ∀ {a b : Option Nat}, optNatEq a b = true → a = b
  | none, none, _ => rfl
  | some a, some b, h => by rw [Nat.eq_of_beq_eq_true h]
  | none, some _, h => by cases h
  | some _, none, h => by cases h
theorem scEq_eq {a b : AV} (h : scEq a b = true) : a = b := by
  unfold scEq at h
  split at h
  · rename_i x y
    cases x <;> cases y <;> first | rfl | cases h
  · rename_i k x l y
    rw [Bool.and_eq_true] at h
    have h2 := h.2
    rw [intEq_eq] at h2
    rw [kindEq_iff.1 h.1, eq_of_beq h2]
  · rw [natsEq_iff.1 h]
  · rfl
  · simp only [Bool.and_eq_true] at h
    rw [Id.beq_iff.1 h.1.1, Nat.eq_of_beq_eq_true h.1.2, Nat.eq_of_beq_eq_true h.2]
  · rw [Nat.eq_of_beq_eq_true h]
  · rfl
  · simp only [Bool.and_eq_true] at h
    rw [Id.beq_iff.1 h.1.1.1.1, Nat.eq_of_beq_eq_true h.1.1.1.2, Nat.eq_of_beq_eq_true h.1.1.2, optNatEq_eq h.1.2, Nat.eq_of_beq_eq_true h.2]
  · rfl
  · rw [Id.beq_iff.1 h]
  · rfl
  · rw [Nat.eq_of_beq_eq_true h]
  · rfl
  · rw [Id.beq_iff.1 h]
  · cases h
theorem scsEq_eq : ∀ {a b : List AV}, scsEq a b = true → a = b
  | [], [], _ => rfl
  | [], _ :: _, h => by cases h
  | _ :: _, [], h => by cases h
  | a :: l, b :: m, h => by
    simp only [scsEq] at h
    split at h
    · rename_i h1
      rw [scEq_eq h1, scsEq_eq h]
    · cases h
theorem avEq_eq {a b : AV} (h : avEq a b = true) : a = b := by
  unfold avEq at h
  split at h
  · rw [scsEq_eq h]
  · rw [scsEq_eq h]
  · exact scEq_eq h

def Heap.le (H H' : Heap) : Prop := ∀ id o, H.get id = some o → H'.get id = some o

theorem readable_mono (h : H.le H') {id : Id} {ix : Nat} {lin : Option Id} (hr : H.readable id ix lin = true) : H'.readable id ix lin = true := by
  cases lin with
  | none => rfl
  | some l =>
    simp only [Heap.readable] at hr
    split at hr
    · rename_i x st top hl
      simp only [Heap.readable, h _ _ hl]
      exact hr
    · cases hr

theorem record_mono (h : H.le H') {id : Id} {ix : Nat} {r : Nat × List AV} (hr : H.record id ix = some r) : H'.record id ix = some r := by
  unfold Heap.record at hr
  split at hr
  · rename_i ty sz cs hg
    simp only [Heap.record, h _ _ hg]
    exact hr
  · rename_i ty sz n d t lin hg
    split at hr
    · rename_i hc
      rw [Bool.and_eq_true] at hc
      simp only [Heap.record, h _ _ hg, hc.1, readable_mono h hc.2, Bool.and_self]
      exact hr
    · cases hr
  · cases hr

theorem loadA_mono (h : H.le H') {ag : Bool} {k : Nat} {x v : AV} (hr : loadA ag k H x = some v) : loadA ag k H' x = some v := by
  cases x <;> try (cases hr; done)
  rename_i id ix off
  simp only [loadA] at hr
  split at hr
  · rename_i sz cs hg
    simp only [loadA, record_mono h hg]
    exact hr
  · cases hr

theorem evalH_mono (h : H.le H') {o : IOp} {L : List AV} {v : AV} (hr : evalH o e L H = some v) : evalH o e L H' = some v := by
  cases o <;> try (cases hr; done)
  case load ag k a => exact loadA_mono h hr
  case entryM x =>
    simp only [evalH] at hr ⊢
    generalize opd x e L = y at hr ⊢
    unfold entryA at hr
    split at hr
    · split at hr
      · rename_i hg
        split at hr
        · rename_i hm
          simp only [entryA, h _ _ hg, h _ _ hm]
          exact hr
        · cases hr
      · cases hr
    · cases hr
  case lookup c z ok m k =>
    simp only [evalH] at hr ⊢
    generalize opd m e L = y at hr ⊢
    cases y <;> try (cases hr; done)
    · exact hr
    · rename_i id
      simp only [lookupA] at hr
      split at hr
      · rename_i es ck hg
        simp only [lookupA, h _ _ hg]
        exact hr
      · cases hr
  case bytesStr x =>
    simp only [evalH] at hr ⊢
    generalize opd x e L = y at hr ⊢
    cases y <;> try (cases hr; done)
    · exact hr
    · rename_i id st ln cap sz
      simp only [bytesOfA] at hr
      split at hr
      · rename_i ty n d t lin hg
        split at hr
        · rename_i hc
          rw [Bool.and_eq_true] at hc
          have hrd : (match ln with | 0 => true | _ => H'.readable id (st + ln - 1) lin) = true := by
            cases ln with
            | zero => rfl
            | succ k => exact readable_mono h hc.2
          simp only [bytesOfA, h _ _ hg]
          rw [hc.1]
          cases ln with
          | zero => exact hr
          | succ k =>
            simp only [readable_mono h hc.2, Bool.and_self]
            exact hr
        · cases hr
      · cases hr
  case len t x =>
    simp only [evalH] at hr ⊢
    cases t <;> try exact hr
    generalize opd x e L = y at hr ⊢
    cases y <;> try exact hr
    rename_i id
    simp only [lenA] at hr
    split at hr
    · rename_i es ck hg
      simp only [lenA, h _ _ hg]
      exact hr
    · cases hr

theorem checks_at {L : List AV} : ∀ {back : List IStep} {chk : List Nat}, checks back e L H chk = true → ∀ d ∈ chk, ∀ s, back[d]? = some s → again s (lget d L) e (L.drop (d + 1)) H = true
  | back, [], _, d, hd, s, _ => by cases hd
  | back, c :: l, h, d, hd, s, hs => by
    simp only [checks] at h
    split at h
    · rename_i s' hs'
      rw [nth_eq] at hs'
      rw [Bool.and_eq_true] at h
      rcases List.mem_cons.1 hd with e | hd
      · subst e
        rw [hs] at hs'
        cases hs'
        rw [dropN_eq] at h
        exact h.1
      · exact checks_at h.2 d hd s hs
    · cases h
theorem lget_eq : ∀ {d : Nat} {L : List AV} {v : AV}, L[d]? = some v → lget d L = v
  | 0, [], v, h => by simp at h
  | 0, x :: l, v, h => by
    show x = v
    simpa using h
  | d + 1, [], v, h => by simp at h
  | d + 1, x :: l, v, h => lget_eq (d := d) (L := l) (by simpa using h)

theorem readsOk_at {bi : Nat} {chk : List Nat} : ∀ {l : List (Nat × IStep)} {q : Nat}, readsOk bi chk l q = true → ∀ d i s, l[d]? = some (i, s) → s.op.kd = .h → bi.testBit i = true ∨ q + d ∈ chk
  | [], q, _, d, i, s, h, _ => by simp at h
  | (i0, s0) :: l, q, h, d, i, s, hd, hk => by
    simp only [readsOk, Bool.and_eq_true] at h
    cases d with
    | zero =>
      simp only [List.getElem?_cons_zero, Option.some.injEq, Prod.mk.injEq] at hd
      obtain ⟨rfl, rfl⟩ := hd
      rw [hk] at h
      have := h.1
      rw [Bool.or_eq_true] at this
      rcases this with h | h
      · exact .inl h
      · exact .inr (by simpa using h)
    | succ d =>
      simp only [List.getElem?_cons_succ] at hd
      rcases readsOk_at h.2 d i s hd hk with h | h
      · exact .inl h
      · exact .inr (by rw [show q + (d + 1) = q + 1 + d by omega]; exact h)
end Go.AX
end

section
namespace Go.AX
/-! ## Regions: the state on the way -/
variable {P : Program} {ρ ρ' : Ren} {w w' : World} {H H' : Heap} {nt : Nat} {ops : Array Oper} {D : Nat → Prop} {e : Env}

/-- Nobody is panicking whom a frame of this kind could stop. -/
def KindOk (kind : CallKind) (cs : List Frame) : Prop := ∀ fr : Frame, fr.kind = kind → tryRecover fr cs = none

theorem CtlOk.same {k : Ctl} {ds : List Deferred} {r : Option Nat} (h : CtlOk ρ k ds r) : CtlOk ρ k ds r := h

/-- An effect. -/
theorem eff_run {B : Ren → World → Prop} {round : Rec → Id → List AV → Heap → CR} {rec : Rec} (hrec : RecOk P B rec) (hround : RoundOk P B round) {fr : Frame} {cs : List Frame} {K : List Item} {rest : List Nat} {i : Nat} {s : IStep} {o : Oper} {L : List AV} {k k' : Ctl} {v : AV} {ρf : Operand → Option Rf}
    (hm : fr.mode = .run) (ht : fr.todo = .inRegion ops (i :: rest) :: K) (ho : ops[i]? = some o) (hw : Region.wanted o (yielded ops fr.tmps) = true) (hc : comp P ρf o.op = some s.op) (hr : ∀ x ∈ o.op.operands.toList, ∀ r, ρf x = some r → VRel ρ (opd r e L) (fr.eval x))
    (hq : quiet s.op = false) (hst : stepS round rec s.op k e L H = .ok v H' k') (hH : HRel P ρ H w) (hB : B ρ w) (hk : CtlOk ρ k fr.defers fr.roundOf) (hkind : KindOk fr.kind cs) :
    ∃ v' w' ρ' ds, Steps P (lone fr cs w) (lone ({ fr with defers := ds }.finish v') cs w') ∧ VRel ρ' v v' ∧ HRel P ρ' H' w' ∧ Grow ρ ρ' H H' w w' ∧ CtlOk ρ' k' ds fr.roundOf := by
  have hfn : ∀ f, fr.eval (.func f) = .func (.func f) #[] #[] := fun f => rfl
  unfold stepS at hst
  split at hst
  · rename_i hkd; simp only [quiet, hkd] at hq; cases hq
  · rename_i hkd; simp only [quiet, hkd] at hq; cases hq
  · rename_i hkd; simp only [quiet, hkd] at hq; cases hq
  · -- turns what is there
    rename_i hkd
    split at hst
    · rename_i v1 H1 hev
      cases hst
      obtain ⟨n, w', ρ', f1, f2, f3, f4⟩ := evalE_sound hH hc hkd hev hr
      have hd := not_defer hc (by rw [hkd]; exact fun e => by cases e)
      rcases f2 with ⟨rfl, rfl⟩ | ⟨v', rfl, f2⟩
      · exact ⟨_, w', ρ', fr.defers, .one (st_oskip hm ht ho hw (.inr hd) f1), .tu [] #[] .nil, f3, f4, hk.mono f4.le⟩
      · exact ⟨_, w', ρ', fr.defers, .one (st_value hm ht ho hw (.inr hd) f1), f2, f3, f4, hk.mono f4.le⟩
    · cases hst
  · -- calls
    rename_i hkd
    split at hst
    · rename_i g args hev
      obtain ⟨hd, vs, h1, h2⟩ := call_sound hc hkd hev hr hfn
      cases hcr : rec g args H with
      | fail => rw [hcr] at hst; cases hst
      | ret v1 H1 =>
        rw [hcr] at hst
        cases hst
        obtain ⟨q1, q2⟩ := hrec g args H v H' hcr ρ w vs h1 hH hB
        obtain ⟨ρ', w', v', s1, s2, s3, s4⟩ := q2 fr cs
        have := st_enter (cs := cs) hm ht ho hw (.inr hd) ((h2 w).trans (q1 w))
        exact ⟨v', w', ρ', fr.defers, .head this s1, s2, s3, s4, hk.mono s4.le⟩
    · rename_i l args hev
      obtain ⟨hd, vs, h1, loc, h2, h3⟩ := call_sound hc hkd hev hr hfn
      cases hcr : round rec l args H with
      | fail => rw [hcr] at hst; cases hst
      | ret v1 H1 =>
        rw [hcr] at hst
        cases hst
        obtain ⟨f, tmps, as, bd, q1, q2⟩ := hround rec hrec l args H v H' hcr ρ w loc vs h2 h1 hH hB
        obtain ⟨ρ', w', v', s1, s2, s3, s4⟩ := q2 fr cs
        have := st_round (cs := cs) hm ht ho hw (.inr hd) ((h3 w).trans q1)
        exact ⟨v', w', ρ', fr.defers, .head this s1, s2, s3, s4, hk.mono s4.le⟩
    · cases hst
  · -- defers
    rename_i hkd
    split at hst
    · rename_i ds pm g args hev
      cases hst
      obtain ⟨d, h1, h2⟩ := defer_sound (w := w) hc hkd hev hr
      have hro : fr.roundOf = none := hk.r
      exact ⟨_, w, ρ, d :: fr.defers, .one (st_defer hm ht ho hw hro h2), .tu [] #[] .nil, hH, Grow.refl _ _ _, ⟨.cons _ _ _ _ h1 hk.d, hk.r⟩⟩
    · cases hst
  · cases hst
  · -- recover
    rename_i hkd
    split at hst
    · cases hst
      obtain ⟨h1, h2⟩ := recover_sound (w := w) (ev := fr.eval) hc hkd
      have hro : fr.roundOf = none := hk.r
      exact ⟨_, w, ρ, fr.defers, .one (st_recover hm ht ho hw hro (hkind fr rfl) h1), .if0, hH, Grow.refl _ _ _, hk⟩
    · cases hst

/-! ### The slots when one is written -/
theorem putT_same {tmps : Array Value} {t : Tmp} {v : Value} (h : t < tmps.size) : (putT tmps (some t) v).getD t Go.undef = v := by
  simp [putT, Array.getD_eq_getD_getElem?, h]
theorem putT_ne {tmps : Array Value} {d : Option Tmp} {t : Tmp} {v : Value} (h : d ≠ some t) : (putT tmps d v).getD t Go.undef = tmps.getD t Go.undef := by
  cases d with
  | none => rfl
  | some u =>
    have : u ≠ t := fun e => h (by rw [e])
    simp [putT, Array.getD_eq_getD_getElem?, Array.getElem?_setIfInBounds_ne this]
theorem putT_size {tmps : Array Value} {d : Option Tmp} {v : Value} : (putT tmps d v).size = tmps.size := by
  cases d <;> simp [putT]

theorem Slots.put (R : Reg nt ops) {ix : List Nat} {L : List AV} {tmps : Array Value} (h : Slots ρ ops D ix L e tmps) {i : Nat} {o : Oper} (ho : ops[i]? = some o) (hsz : nt ≤ tmps.size) {v : Value} (hv : ∀ r, RefOf ops i r → VRel ρ (refV ix L e r) v) :
    Slots ρ ops (fun x => D x ∨ x = i) ix L e (putT tmps o.dst v) := by
  intro j p t r hD hp hd hr
  by_cases e' : j = i
  · subst e'
    rw [ho] at hp
    cases hp
    rw [hd, putT_same ?_]
    · exact hv r hr
    · refine Nat.lt_of_lt_of_le (R.name j o ho t ?_) hsz
      unfold namesOf
      simp [hd]
  · have hDj : D j := by
      rcases hD with h | h
      · exact h
      · exact absurd h e'
    rw [putT_ne ((R.slot j p t hp hd i o ho (fun e => e' e.symm)).1)]
    exact h j p t r hDj hp hd hr
theorem Inits.put {tmps tmps0 : Array Value} (h : Inits ops D tmps tmps0) {i : Nat} {o : Oper} (ho : ops[i]? = some o) {v : Value} : Inits ops (fun x => D x ∨ x = i) (putT tmps o.dst v) tmps0 := by
  intro t ht
  rw [putT_ne (ht i o (.inr rfl) ho)]
  exact h t fun j p hD hp => ht j p (.inl hD) hp
theorem Slots.mono (hle : ρ.le ρ') {ix : List Nat} {L : List AV} {tmps : Array Value} (h : Slots ρ ops D ix L e tmps) : Slots ρ' ops D ix L e tmps := fun j o t r hD ho hd hr => (h j o t r hD ho hd hr).mono hle
/-- A value is told that no slot holds yet. -/
theorem Slots.push (R : Reg nt ops) (hc : Closed ops D) {ix : List Nat} {L : List AV} {tmps : Array Value} (h : Slots ρ ops D ix L e tmps) {i : Nat} (hi : ¬ D i) (v : AV) : Slots ρ ops D (i :: ix) (v :: L) e tmps := by
  intro j o t r hD ho hd hr
  rw [refV_cons]
  · exact h j o t r hD ho hd hr
  · intro e'
    exact hi (refOf_D R hc hr hD i e')
theorem Closed.add (hc : Closed ops D) {i : Nat} {o : Oper} (ho : ops[i]? = some o) (hp : Preds D o) : Closed ops (fun x => D x ∨ x = i) := by
  intro j p hD hpj ed hed hb
  rcases hD with hD | rfl
  · exact .inl (hc j p hD hpj ed hed hb)
  · rw [ho] at hpj
    cases hpj
    exact .inl (hp ed hed hb)
end Go.AX
end

section
namespace Go.AX
/-! ## A region's run -/
variable {P : Program} {nt : Nat} {ops : Array Oper}

def TodoOk (P : Program) (ops : Array Oper) : List (Nat × IStep) → List (Nat × IStep) → Prop
  | _, [] => True
  | back, (i, s) :: l => (∃ o m, SOk P ops (back.map (·.1)) i s o m) ∧ TodoOk P ops ((i, s) :: back) l

/-- What is the same all the way. -/
structure Cx where
  e : Env
  outs : List (Slot × Rf)
  rc : Rec
  round : Rec → Id → List AV → Heap → CR
  res : R
  ρ0 : Ren
  H0 : Heap
  w0 : World
  tmps0 : Array Value
  IX : List Nat
  fn : FuncId
  kind : CallKind
  rnd : Option Nat

structure St (P : Program) (nt : Nat) (ops : Array Oper) (X : Cx) (D : Nat → Prop) (back todo : List (Nat × IStep)) (L : List AV) (H : Heap) (k : Ctl) (ρ : Ren) (w : World) (gh : Nat → Option Id) (fr : Frame) : Prop where
  hrel : HRel P ρ H w
  grow : Grow X.ρ0 ρ X.H0 H X.w0 w
  len : back.length = L.length
  ents : ∀ (d i : Nat) (s : IStep), back[d]? = some (i, s) → ∃ o m, SOk P ops ((back.map (·.1)).drop (d + 1)) i s o m
  tods : TodoOk P ops back todo
  ord : orderOk (Region.before ops) back todo = true
  nodup : (back.map (·.1)).Nodup
  closed : Closed ops D
  slots : Slots ρ ops D (back.map (·.1)) L X.e fr.tmps
  inits : Inits ops D fr.tmps X.tmps0
  env : ERel ρ X.e X.tmps0
  size : fr.tmps.size = X.tmps0.size
  pend : ∀ (d i : Nat) (s : IStep) (v : AV), back[d]? = some (i, s) → L[d]? = some v → ¬ D i → Pend ρ H X.e gh i s v (L.drop (d + 1))
  inj : ∀ i i' id, ¬ D i → ¬ D i' → gh i = some id → gh i' = some id → i = i'
  ghin : ∀ i id, gh i = some id → ¬ D i → i ∈ back.map (·.1) ∧ ρ id = none ∧ ∃ o, H.get id = some o ∧ ∀ x s t, o ≠ .lin x s t
  ghlo : ∀ i id, gh i = some id → X.H0.next.num ≤ id.num
  ntod : ∀ x ∈ todo, ¬ D x.1
  cover : ∀ (i : Nat) (o : Oper), ops[i]? = some o → aliasOf o = none → i ∈ back.map (·.1) ∨ i ∈ todo.map (·.1)
  ctl : CtlOk ρ k fr.defers fr.roundOf
  mode : fr.mode = .run
  run : runSteps X.round X.rc X.outs X.e (back.map (·.2)) (todo.map (·.2)) k L H = X.res
  whole : (back.map (·.1)).reverse ++ todo.map (·.1) = X.IX
  fn : fr.fn = X.fn
  kind : fr.kind = X.kind
  rnd : fr.roundOf = X.rnd
  old0 : ∀ id o, X.H0.get id = some o → id.num < X.H0.next.num

theorem map_drop1 (back : List (Nat × IStep)) (i : Nat) (s : IStep) (d : Nat) : (((i, s) :: back).map (·.1)).drop (d + 1) = (back.map (·.1)).drop d := rfl

theorem orderOk_cons {b : Array Nat} {back l : List (Nat × IStep)} {i : Nat} {s : IStep} (h : orderOk b back ((i, s) :: l) = true) :
    i ∉ l.map (·.1) ∧ i ∉ back.map (·.1) ∧ (quiet s.op = false → (∀ x ∈ l, (b.getD x.1 0).testBit i = true) ∧ readsOk (b.getD i 0) s.chk back 0 = true) ∧ orderOk b ((i, s) :: back) l = true := by
  simp only [orderOk, Bool.and_eq_true, Bool.not_eq_true', Bool.or_eq_true, List.any_eq_false, beq_iff_eq, List.all_eq_true] at h
  obtain ⟨⟨⟨h1, h2⟩, h3⟩, h4⟩ := h
  refine ⟨?_, ?_, ?_, h4⟩
  · intro hm
    obtain ⟨x, hx, he⟩ := List.mem_map.1 hm
    exact h1 x hx he
  · intro hm
    obtain ⟨x, hx, he⟩ := List.mem_map.1 hm
    exact h2 x hx he
  · intro hq
    rcases h3 with h3 | h3
    · rw [hq] at h3; cases h3
    · exact h3

theorem evalA_notLin {o : IOp} {e : Env} {L : List AV} {x : Obj} {g : Id → AV} (h : evalA o e L = some (x, g)) : ∀ y s t, x ≠ .lin y s t := by
  intro y s t hx
  subst hx
  cases o <;> simp only [evalA, reduceCtorEq] at h <;> (repeat' split at h) <;> simp at h

section
variable {X : Cx} {D : Nat → Prop} {back todo l : List (Nat × IStep)} {L : List AV} {H : Heap} {k : Ctl} {ρ : Ren} {w : World} {gh : Nat → Option Id} {fr : Frame} {i : Nat} {s : IStep}

/-- A step that turns nothing is told. -/
theorem St.adv (R : Reg nt ops) (S : St P nt ops X D back ((i, s) :: l) L H k ρ w gh fr) (hres : X.res ≠ .fail) (hq : quiet s.op = true) : ∃ v H' gh', St P nt ops X D ((i, s) :: back) l (v :: L) H' k ρ w gh' fr := by
  have hrun := S.run
  obtain ⟨o1, o2, o3, o4⟩ := orderOk_cons S.ord
  have hni : ¬ D i := S.ntod (i, s) List.mem_cons_self
  obtain ⟨⟨o, m, hS⟩, hto⟩ := S.tods
  -- what is the same in all cases
  have key : ∀ (v : AV) (H' : Heap) (gi : Option Id), H.le H' → HRel P ρ H' w → Grow X.ρ0 ρ X.H0 H' X.w0 w → runSteps X.round X.rc X.outs X.e (((i, s) :: back).map (·.2)) (l.map (·.2)) k (v :: L) H' = X.res →
      Pend ρ H' X.e (fun x => if x = i then gi else gh x) i s v L → (∀ id, gi = some id → H.get id = none ∧ ρ id = none ∧ X.H0.next.num ≤ id.num ∧ ∃ o, H'.get id = some o ∧ ∀ x s t, o ≠ .lin x s t) →
      ∃ v H' gh', St P nt ops X D ((i, s) :: back) l (v :: L) H' k ρ w gh' fr := by
    intro v H' gi hle hH hG hr hP hgi
    refine ⟨v, H', fun x => if x = i then gi else gh x, ?_⟩
    have hgo : ∀ x, x ∈ back.map (·.1) → (if x = i then gi else gh x) = gh x := by
      intro x hx
      rw [if_neg]
      intro e
      subst e
      exact o2 hx
    refine ⟨hH, hG, by simp [S.len], ?_, hto, o4, ?_, S.closed, ?_, S.inits, S.env, S.size, ?_, ?_, ?_, ?_, ?_, ?_, S.ctl, S.mode, hr, ?_, S.fn, S.kind, S.rnd, S.old0⟩
    · intro d i' s' hd
      cases d with
      | zero =>
        simp only [List.getElem?_cons_zero, Option.some.injEq, Prod.mk.injEq] at hd
        obtain ⟨rfl, rfl⟩ := hd
        exact ⟨o, m, hS⟩
      | succ d =>
        simp only [List.getElem?_cons_succ] at hd
        exact S.ents d i' s' hd
    · rw [List.map_cons, List.nodup_cons]
      exact ⟨o2, S.nodup⟩
    · exact S.slots.push R S.closed hni v
    · intro d i' s' v' hd hv hn
      cases d with
      | zero =>
        simp only [List.getElem?_cons_zero, Option.some.injEq, Prod.mk.injEq] at hd hv
        obtain ⟨rfl, rfl⟩ := hd
        subst hv
        exact hP
      | succ d =>
        simp only [List.getElem?_cons_succ] at hd hv
        have hmem : i' ∈ back.map (·.1) := List.mem_map.2 ⟨(i', s'), List.mem_of_getElem? hd, rfl⟩
        have hg := hgo i' hmem
        cases S.pend d i' s' v' hd hv hn with
        | off h1 h2 h3 => exact .off h1 h2 (hg.trans h3)
        | q h1 h2 h3 h4 => exact .q h1 h2 h3 (hg.trans h4)
        | h h1 h2 h3 h4 => exact .h h1 h2 (evalH_mono hle h3) (hg.trans h4)
        | a h1 h2 x g id h3 h4 h5 h6 h7 => exact .a h1 h2 x g id h3 h4 (hg.trans h5) h6 (hle _ _ h7)
    · intro a b id ha hb h1 h2
      by_cases ea : a = i
      · by_cases eb : b = i
        · rw [ea, eb]
        · rw [if_pos ea] at h1
          rw [if_neg eb] at h2
          obtain ⟨_, _, o', ho', _⟩ := S.ghin b id h2 hb
          rw [(hgi id h1).1] at ho'
          cases ho'
      · by_cases eb : b = i
        · rw [if_neg ea] at h1
          rw [if_pos eb] at h2
          obtain ⟨_, _, o', ho', _⟩ := S.ghin a id h1 ha
          rw [(hgi id h2).1] at ho'
          cases ho'
        · rw [if_neg ea] at h1
          rw [if_neg eb] at h2
          exact S.inj a b id ha hb h1 h2
    · intro a id h1 ha
      by_cases ea : a = i
      · rw [if_pos ea] at h1
        obtain ⟨_, q1, _, q2⟩ := hgi id h1
        exact ⟨by rw [ea]; simp, q1, q2⟩
      · rw [if_neg ea] at h1
        obtain ⟨q1, q2, o', q3, q4⟩ := S.ghin a id h1 ha
        exact ⟨by rw [List.map_cons]; exact List.mem_cons_of_mem _ q1, q2, o', hle _ _ q3, q4⟩
    · intro a id h1
      by_cases ea : a = i
      · rw [if_pos ea] at h1
        exact (hgi id h1).2.2.1
      · rw [if_neg ea] at h1
        exact S.ghlo a id h1
    · intro x hx
      exact S.ntod x (List.mem_cons_of_mem _ hx)
    · intro j p hp ha
      rcases S.cover j p hp ha with h | h
      · exact .inl (by rw [List.map_cons]; exact List.mem_cons_of_mem _ h)
      · rw [List.map_cons] at h
        rcases List.mem_cons.1 h with e | h
        · exact .inl (by rw [e]; simp)
        · exact .inr h
    · rw [← S.whole]
      simp
  have hle0 : H.le H := fun _ _ h => h
  simp only [List.map_cons, runSteps] at hrun
  split at hrun
  · exact absurd hrun.symm hres
  · rename_i hw
    exact key undef H none hle0 S.hrel S.grow hrun (.off hw rfl (by simp)) (fun id h => by cases h)
  · rename_i hw
    split at hrun
    · exact absurd hrun.symm hres
    · rename_i v H1 k1 hst
      split at hrun
      · unfold stepS at hst
        split at hst
        · rename_i hkd
          split at hst
          · rename_i v' hev
            cases hst
            exact key _ _ none hle0 S.hrel S.grow hrun (.q hw hkd hev (by simp)) (fun id h => by cases h)
          · cases hst
        · rename_i hkd
          split at hst
          · rename_i v' hev
            cases hst
            exact key _ _ none hle0 S.hrel S.grow hrun (.h hw hkd hev (by simp)) (fun id h => by cases h)
          · cases hst
        · rename_i hkd
          split at hst
          · rename_i x g hev
            cases hst
            have hgn := S.hrel.get_next
            have hnone : H.get H.next = none := by
              cases hh : H.get H.next with
              | none => rfl
              | some o => exact absurd rfl (hgn _ _ hh)
            refine key _ _ (some H.next) (fun q o' hq => by rw [Heap.get_new_ne _ _ (hgn q o' hq)]; exact hq) (S.hrel.new x hgn) (Grow.trans S.old0 S.grow (Grow.newH S.hrel x)) hrun (.a hw hkd x g H.next hev rfl (by simp) S.hrel.fresh (Heap.get_new_same _ _)) ?_
            intro id hid
            cases hid
            exact ⟨hnone, S.hrel.fresh, S.grow.next, x, Heap.get_new_same _ _, evalA_notLin hev⟩
          · cases hst
        all_goals
          rename_i hkd
          simp only [quiet, hkd] at hq
          cases hq
      · exact absurd hrun.symm hres
end
end Go.AX
end

section
namespace Go.AX
variable {P : Program} {nt : Nat} {ops : Array Oper}
variable {X : Cx} {D : Nat → Prop} {back todo l : List (Nat × IStep)} {L : List AV} {H : Heap} {k : Ctl} {ρ : Ren} {w : World} {gh : Nat → Option Id} {fr : Frame} {i : Nat} {s : IStep}

/-- All that needs no effect is told. -/
theorem St.norm (R : Reg nt ops) (hres : X.res ≠ .fail) : ∀ (todo back : List (Nat × IStep)) (L : List AV) (H : Heap) (gh : Nat → Option Id), St P nt ops X D back todo L H k ρ w gh fr →
    ∃ back' todo' L' H' gh', St P nt ops X D back' todo' L' H' k ρ w gh' fr ∧ (todo' = [] ∨ ∃ i s l, todo' = (i, s) :: l ∧ quiet s.op = false)
  | [], back, L, H, gh, S => ⟨back, [], L, H, gh, S, .inl rfl⟩
  | (i, s) :: l, back, L, H, gh, S => by
    cases hq : quiet s.op with
    | true =>
      obtain ⟨v, H', gh', S'⟩ := S.adv R hres hq
      exact St.norm R hres l _ _ _ _ S'
    | false => exact ⟨back, _, L, H, gh, S, .inr ⟨i, s, l, rfl, hq⟩⟩

/-- The model carries an operation out of which the value is told. -/
theorem St.put (R : Reg nt ops) (S : St P nt ops X D back todo L H k ρ w gh fr) (hnt : nt ≤ fr.tmps.size) {o : Oper} (ho : ops[i]? = some o) (hp : Preds D o) {ρ' : Ren} {w' : World} {v : Value} (hv : ∀ r, RefOf ops i r → VRel ρ' (refV (back.map (·.1)) L X.e r) v)
    (hH : HRel P ρ' H w') (hG : Grow X.ρ0 ρ' X.H0 H X.w0 w') (hle : ρ.le ρ') (hgh : ∀ j id, gh j = some id → ¬ D j → j ≠ i → ρ' id = none) (htd : ∀ x ∈ todo, x.1 ≠ i) (T : List Item) :
    St P nt ops X (fun x => D x ∨ x = i) back todo L H k ρ' w' gh { fr with tmps := putT fr.tmps o.dst v, todo := T } := by
  refine ⟨hH, hG, S.len, S.ents, S.tods, S.ord, S.nodup, S.closed.add ho hp, (S.slots.mono hle).put R ho hnt hv, S.inits.put ho, S.env.mono hle, putT_size.trans S.size, ?_, ?_, ?_, S.ghlo, ?_, S.cover, S.ctl.mono hle, S.mode, S.run, S.whole, S.fn, S.kind, S.rnd, S.old0⟩
  · intro d j s' v' hd hv' hn
    have h1 : ¬ D j := fun h => hn (.inl h)
    have h2 : j ≠ i := fun h => hn (.inr h)
    cases S.pend d j s' v' hd hv' h1 with
    | off h1 h2 h3 => exact .off h1 h2 h3
    | q h1 h2 h3 h4 => exact .q h1 h2 h3 h4
    | h h1 h2 h3 h4 => exact .h h1 h2 h3 h4
    | a g1 g2 x g id g3 g4 g5 g6 g7 => exact .a g1 g2 x g id g3 g4 g5 (hgh j id g5 h1 h2) g7
  · intro a b id ha hb
    exact S.inj a b id (fun h => ha (.inl h)) (fun h => hb (.inl h))
  · intro a id hg ha
    obtain ⟨q1, q2, q3⟩ := S.ghin a id hg (fun h => ha (.inl h))
    exact ⟨q1, hgh a id hg (fun h => ha (.inl h)) (fun h => ha (.inr h)), q3⟩
  · intro x hx h
    rcases h with h | h
    · exact S.ntod x hx h
    · exact htd x hx h

theorem finish_eq {K : List Item} {rest : List Nat} {o : Oper} (ht : fr.todo = .inRegion ops (i :: rest) :: K) (ho : ops[i]? = some o) (v : Value) : fr.finish v = { fr with tmps := putT fr.tmps o.dst v, todo := .inRegion ops rest :: K } := by
  rw [finish_reg ht, ho]
  rfl

theorem TodoOk.na {back : List (Nat × IStep)} : ∀ {todo : List (Nat × IStep)} {back : List (Nat × IStep)}, TodoOk P ops back todo → ∀ x ∈ todo, ∃ o, ops[x.1]? = some o ∧ aliasOf o = none
  | [], _, _, x, hx => by cases hx
  | (i, s) :: l, back, h, x, hx => by
    obtain ⟨⟨o, m, hS⟩, ht⟩ := h
    rcases List.mem_cons.1 hx with e | hx
    · subst e
      exact ⟨o, hS.op, hS.na⟩
    · exact TodoOk.na (back := back) ht x hx

/-- A copy. -/
theorem St.alias (R : Reg nt ops) (hnt : nt ≤ 512) (S : St P nt ops X D back todo L H k ρ w gh fr) (hsz : nt ≤ fr.tmps.size) {o : Oper} (ho : ops[i]? = some o) {x : Operand} (ha : aliasOf o = some x) (hi : ¬ D i) (hp : Preds D o) {cs : List Frame} {K : List Item} {rest : List Nat} (ht : fr.todo = .inRegion ops (i :: rest) :: K) :
    ∃ v, step P (lone fr cs w) = .next (lone (fr.finish v) cs w) ∧ St P nt ops X (fun x => D x ∨ x = i) back todo L H k ρ w gh (fr.finish v) := by
  obtain ⟨hg, hop⟩ := alias_op ha
  have hex : (execOp fr.eval o).run P w = .ok (.value (fr.eval x)) w := by
    rcases hop with h | h <;> simp [execOp, h]
  have hnd : ∀ c, o.op ≠ .defer c := by
    intro c hc
    rcases hop with h | h <;> rw [h] at hc <;> cases hc
  have hw : Region.wanted o (yielded ops fr.tmps) = true := by simp [Region.wanted, hg]
  refine ⟨fr.eval x, st_value S.mode ht ho hw (.inr hnd) hex, ?_⟩
  rw [finish_eq ht ho]
  refine S.put R hsz ho hp ?_ S.hrel S.grow (Ren.le_refl ρ) (fun j id hg hn _ => (S.ghin j id hg hn).2.1) ?_ _
  · intro r hr
    rw [eval_evT]
    cases hr with
    | op _ o' h ha' => rw [ho] at h; cases h; rw [ha] at ha'; cases ha'
    | tmp _ o' s' i' p _ h ha' hlt hpp hd hr' =>
      rw [ho] at h
      cases h
      rw [ha] at ha'
      cases ha'
      have hD := (R.ahead S.closed ho hp hi (alias_names ha) hpp hd (by omega)).1 hlt
      exact S.slots i' p s' r hD hpp hd hr'
    | ini _ o' s' h ha' hn =>
      rw [ho] at h
      cases h
      rw [ha] at ha'
      cases ha'
      show VRel ρ (Env.get (Slot.of s') X.e) (fr.tmps.getD s' Go.undef)
      rw [S.inits s' ?_]
      · exact S.env s' (Nat.lt_of_lt_of_le (R.name i o ho s' (alias_names ha)) hnt)
      · intro j p hDj hpj hdj
        have hne : i ≠ j := fun e => hi (e ▸ hDj)
        rcases Nat.lt_or_gt_of_ne hne with h | h
        · exact (R.ahead S.closed ho hp hi (alias_names ha) hpj hdj hne).2 h hDj
        · exact hn j p h hpj hdj
    | oth _ o' x' h ha' hx =>
      rw [ho] at h
      cases h
      rw [ha] at ha'
      cases ha'
      cases x with
      | tmp s' => exact absurd rfl (hx s')
      | const v =>
        cases hv : toAV v with
        | none =>
          have : refV (back.map (·.1)) L X.e (.opd (.const v)) = .un := by simp only [refV, rfOf, hv, Option.map_none]
          rw [this]
          exact .un _
        | some a =>
          have : refV (back.map (·.1)) L X.e (.opd (.const v)) = a := by simp only [refV, rfOf, hv, Option.map_some]; rfl
          rw [this]
          exact toAV_sound hv
      | global g => exact .gl g
      | func f => exact .f f [] [] #[] #[] .nil .nil
  · intro x hx e
    obtain ⟨o', ho', hna⟩ := TodoOk.na (back := back) S.tods x hx
    rw [e, ho] at ho'
    cases ho'
    rw [ha] at hna
    cases hna

/-- A step that is told already. -/
theorem St.float (hext : ExtOk P) (R : Reg nt ops) (hnt : nt ≤ 512) (S : St P nt ops X D back todo L H k ρ w gh fr) (hsz : nt ≤ fr.tmps.size) {o : Oper} (ho : ops[i]? = some o) (hi : ¬ D i) (hp : Preds D o) (hb : i ∈ back.map (·.1)) (htd : ∀ x ∈ todo, x.1 ≠ i) {cs : List Frame} {K : List Item} {rest : List Nat} (ht : fr.todo = .inRegion ops (i :: rest) :: K) :
    ∃ v ρ' w', step P (lone fr cs w) = .next (lone (fr.finish v) cs w') ∧ St P nt ops X (fun x => D x ∨ x = i) back todo L H k ρ' w' gh (fr.finish v) := by
  obtain ⟨⟨i', s⟩, hx, rfl⟩ := List.mem_map.1 hb
  obtain ⟨d, hd⟩ := List.getElem?_of_mem hx
  have hdl : d < L.length := by rw [← S.len]; exact (List.getElem?_eq_some_iff.1 hd).1
  obtain ⟨o', m, hS⟩ := S.ents d i' s hd
  have := hS.op
  rw [ho] at this
  cases this
  have hP := S.pend d i' s _ hd (List.getElem?_eq_getElem hdl) hi
  have hlen : (back.map (·.1)).length = L.length := by rw [List.length_map]; exact S.len
  obtain ⟨v', w', ρ', f1, f2, f3, f4, f5, f6⟩ := pend_run (cs := cs) hext R hnt S.closed S.slots S.inits S.env hlen S.nodup hsz hS hp hi S.hrel hP S.grow (fun id h => S.ghlo i' id h) S.mode ht
  refine ⟨v', ρ', w', f1, ?_⟩
  rw [finish_eq ht ho]
  refine S.put R hsz ho hp ?_ f3 f4 f5 ?_ htd _
  · intro r hr
    cases hr with
    | op _ o' h ha' =>
      have heq : refV (back.map (·.1)) L X.e (.loc i') = L[d] := by
        have h0 : L.drop d = L[d] :: L.drop (d + 1) := List.drop_eq_getElem_cons hdl
        have h1 : (back.map (·.1)).drop d = i' :: (back.map (·.1)).drop (d + 1) := by
          have hdb : d < (back.map (·.1)).length := by omega
          have hge : (back.map (·.1))[d] = i' := by
            have : (back.map (·.1))[d]? = some i' := by rw [List.getElem?_map, hd]; rfl
            rw [List.getElem?_eq_getElem hdb] at this
            exact Option.some.inj this
          rw [List.drop_eq_getElem_cons hdb, hge]
        rw [← refV_drop d hlen S.nodup (by rw [h1]; exact List.mem_cons_self), h0, h1, refV_same]
      rw [heq]
      exact f2
    | tmp _ o' s' i2 p _ h ha' hlt hpp hd hr' => rw [ho] at h; cases h; rw [hS.na] at ha'; cases ha'
    | ini _ o' s' h ha' hn => rw [ho] at h; cases h; rw [hS.na] at ha'; cases ha'
    | oth _ o' x' h ha' hx => rw [ho] at h; cases h; rw [hS.na] at ha'; cases ha'
  · intro j id hg hn hne
    have hnone := (S.ghin j id hg hn).2.1
    rcases f6 with e | ⟨id', loc, hg', e⟩
    · rw [e]; exact hnone
    · rw [e, Ren.set_ne]
      · exact hnone
      · intro e'
        subst e'
        exact hne (S.inj j i' id hn hi hg hg')
end Go.AX
end

section
namespace Go.AX
variable {P : Program} {nt : Nat} {ops : Array Oper}
variable {X : Cx} {D : Nat → Prop} {back todo l : List (Nat × IStep)} {L : List AV} {H : Heap} {k : Ctl} {ρ : Ren} {w : World} {gh : Nat → Option Id} {fr : Frame} {i : Nat} {s : IStep}

/-- Behind an effect. -/
theorem St.behind (R : Reg nt ops) (S : St P nt ops X D back ((i, s) :: l) L H k ρ w gh fr) (hsz : nt ≤ fr.tmps.size) {o : Oper} {m : RM} (hS : SOk P ops (back.map (·.1)) i s o m) (hp : Preds D o) {v : AV} {v' : Value} {H' : Heap} {k' : Ctl} {ρ' : Ren} {w' : World} {ds : List Deferred}
    (hv : VRel ρ' v v') (hH : HRel P ρ' H' w') (hG : Grow ρ ρ' H H' w w') (hk : CtlOk ρ' k' ds fr.roundOf)
    (hrd : ∀ (d j : Nat) (t : IStep) (u : AV), back[d]? = some (j, t) → L[d]? = some u → ¬ D j → t.op.kd = .h → wanted t.guard X.e (L.drop (d + 1)) = some true → evalH t.op X.e (L.drop (d + 1)) H = some u → evalH t.op X.e (L.drop (d + 1)) H' = some u)
    (hrun : runSteps X.round X.rc X.outs X.e (((i, s) :: back).map (·.2)) (l.map (·.2)) k' (v :: L) H' = X.res) (T : List Item) :
    St P nt ops X (fun x => D x ∨ x = i) ((i, s) :: back) l (v :: L) H' k' ρ' w' gh { fr with tmps := putT fr.tmps o.dst v', defers := ds, todo := T } := by
  obtain ⟨o1, o2, o3, o4⟩ := orderOk_cons S.ord
  have hni : ¬ D i := S.ntod (i, s) List.mem_cons_self
  have hgo : ∀ id o', H.get id = some o' → ρ id = none → ρ' id = none := by
    intro id o' ho' hn
    cases h : ρ' id with
    | none => rfl
    | some loc =>
      have h1 := hG.new id loc h hn
      have h2 := S.hrel.old id o' ho'
      omega
  refine ⟨hH, Grow.trans S.old0 S.grow hG, by simp [S.len], ?_, S.tods.2, o4, ?_, S.closed.add hS.op hp, ?_, S.inits.put hS.op, S.env.mono hG.le, putT_size.trans S.size, ?_, ?_, ?_, S.ghlo, ?_, ?_, hk, S.mode, hrun, ?_, S.fn, S.kind, S.rnd, S.old0⟩
  · intro d i' s' hd
    cases d with
    | zero =>
      simp only [List.getElem?_cons_zero, Option.some.injEq, Prod.mk.injEq] at hd
      obtain ⟨rfl, rfl⟩ := hd
      exact ⟨o, m, hS⟩
    | succ d =>
      simp only [List.getElem?_cons_succ] at hd
      exact S.ents d i' s' hd
  · rw [List.map_cons, List.nodup_cons]
    exact ⟨o2, S.nodup⟩
  · refine ((S.slots.push R S.closed hni v).mono hG.le).put R hS.op hsz ?_
    intro r hr
    cases hr with
    | op _ o' h ha' => rw [refV_same]; exact hv
    | tmp _ o' s' i2 p _ h ha' hlt hpp hd hr' => rw [hS.op] at h; cases h; rw [hS.na] at ha'; cases ha'
    | ini _ o' s' h ha' hn => rw [hS.op] at h; cases h; rw [hS.na] at ha'; cases ha'
    | oth _ o' x' h ha' hx => rw [hS.op] at h; cases h; rw [hS.na] at ha'; cases ha'
  · intro d j t u hd hu hn
    cases d with
    | zero =>
      simp only [List.getElem?_cons_zero, Option.some.injEq, Prod.mk.injEq] at hd
      obtain ⟨rfl, rfl⟩ := hd
      exact absurd (.inr rfl) hn
    | succ d =>
      simp only [List.getElem?_cons_succ] at hd hu
      have hnj : ¬ D j := fun h => hn (.inl h)
      cases S.pend d j t u hd hu hnj with
      | off h1 h2 h3 => exact .off h1 h2 h3
      | q h1 h2 h3 h4 => exact .q h1 h2 h3 h4
      | h h1 h2 h3 h4 => exact .h h1 h2 (hrd d j t u hd hu hnj h2 h1 h3) h4
      | a h1 h2 x g id h3 h4 h5 h6 h7 => exact .a h1 h2 x g id h3 h4 h5 (hgo id x h7 h6) (hG.ghost id x h6 h7 (evalA_notLin h3))
  · intro a b id ha hb
    exact S.inj a b id (fun h => ha (.inl h)) (fun h => hb (.inl h))
  · intro a id hg ha
    obtain ⟨q1, q2, o', q3, q4⟩ := S.ghin a id hg (fun h => ha (.inl h))
    exact ⟨by rw [List.map_cons]; exact List.mem_cons_of_mem _ q1, hgo id o' q3 q2, o', hG.ghost id o' q2 q3 q4, q4⟩
  · intro x hx h
    rcases h with h | h
    · exact S.ntod x (List.mem_cons_of_mem _ hx) h
    · exact o1 (by rw [← h]; exact List.mem_map_of_mem hx)
  · intro j p hpj ha
    rcases S.cover j p hpj ha with h | h
    · exact .inl (by rw [List.map_cons]; exact List.mem_cons_of_mem _ h)
    · rw [List.map_cons] at h
      rcases List.mem_cons.1 h with e | h
      · exact .inl (by rw [e]; simp)
      · exact .inr h
  · rw [← S.whole]
    simp

theorem St.eff {B : Ren → World → Prop} (hstab : Stable B) (hB0 : B X.ρ0 X.w0) (R : Reg nt ops) (hnt : nt ≤ 512) (hrec : RecOk P B X.rc) (hround : RoundOk P B X.round) (S : St P nt ops X D back ((i, s) :: l) L H k ρ w gh fr) (hres : X.res ≠ .fail) (hsz : nt ≤ fr.tmps.size) (hq : quiet s.op = false) {o : Oper} (ho : ops[i]? = some o) (hp : Preds D o) {cs : List Frame} {K : List Item} {rest : List Nat}
    (ht : fr.todo = .inRegion ops (i :: rest) :: K) (hkind : KindOk fr.kind cs) :
    ∃ v H' k' ρ' w' fr', Steps P (lone fr cs w) (lone fr' cs w') ∧ fr'.todo = .inRegion ops rest :: K ∧ St P nt ops X (fun x => D x ∨ x = i) ((i, s) :: back) l (v :: L) H' k' ρ' w' gh fr' := by
  have hrun := S.run
  obtain ⟨o1, o2, o3, o4⟩ := orderOk_cons S.ord
  obtain ⟨o5, o6⟩ := o3 hq
  have hni : ¬ D i := S.ntod (i, s) List.mem_cons_self
  obtain ⟨⟨o', m, hS⟩, hto⟩ := S.tods
  have := hS.op
  rw [ho] at this
  cases this
  have hlen : (back.map (·.1)).length = L.length := by rw [List.length_map]; exact S.len
  have hS0 : SOk P ops ((back.map (·.1)).drop 0) i s o m := hS
  have hwant : ∀ b, wanted s.guard X.e L = some b → Region.wanted o (yielded ops fr.tmps) = b := fun b hb =>
    wanted_ok (n := 0) (L := L) R hnt S.closed S.slots S.inits S.env hlen S.nodup hsz hS0 hp hni hb
  simp only [List.map_cons, runSteps] at hrun
  split at hrun
  · exact absurd hrun.symm hres
  · rename_i hw
    have hst := st_op_skip (P := P) (cs := cs) (w := w) S.mode ht ho (hwant _ hw)
    refine ⟨undef, H, k, ρ, w, _, .one hst, ?_, ?_⟩
    · rw [finish_eq ht ho]
    · rw [finish_eq ht ho]
      exact S.behind R hsz hS hp (.tu [] #[] .nil) S.hrel (Grow.refl _ _ _) S.ctl (fun _ _ _ _ _ _ _ _ _ h => h) hrun _
  · rename_i hw
    split at hrun
    · exact absurd hrun.symm hres
    · rename_i v H1 k1 hst
      split at hrun
      · rename_i hchk
        have hcc : comp P (fun x => rfOf (back.map (·.1)) (resolve m x)) o.op = some s.op := by
          rcases hS.c with h | h
          · exact h
          · rw [h] at hq; cases hq
        have hr : ∀ x ∈ o.op.operands.toList, ∀ r, (fun x => rfOf (back.map (·.1)) (resolve m x)) x = some r → VRel ρ (opd r X.e L) (fr.eval x) := by
          intro x hx r hf
          rw [eval_evT]
          refine opd_ok R hnt S.closed S.slots S.inits S.env hlen S.nodup hS.op hp hni hS.rm 0 ?_ hf
          intro t ht
          subst ht
          unfold namesOf opTmps
          simp only [List.mem_append, List.mem_filterMap]
          exact .inl (.inr ⟨_, hx, rfl⟩)
        obtain ⟨v', w', ρ', ds, f1, f2, f3, f4, f5⟩ := eff_run hrec hround S.mode ht ho (hwant _ hw) hcc hr hq hst S.hrel (hstab hB0 S.grow) S.ctl hkind
        refine ⟨v, H1, k1, ρ', w', _, f1, ?_, ?_⟩
        · rw [finish_eq (fr := { fr with defers := ds }) ht ho]
        · rw [finish_eq (fr := { fr with defers := ds }) ht ho]
          refine S.behind R hsz hS hp f2 f3 f4 f5 ?_ hrun _
          intro d j t u hd hu hn hkd hwt hev
          rcases readsOk_at o6 d j t hd hkd with h | h
          · exact absurd (bits_closed S.closed i o j ho hp h) hn
          · rw [Nat.zero_add] at h
            have hd2 : (back.map (·.2))[d]? = some t := by rw [List.getElem?_map, hd]; rfl
            have hag := checks_at hchk d h t hd2
            rw [lget_eq hu] at hag
            unfold again at hag
            rw [hwt] at hag
            simp only at hag
            split at hag
            · rename_i w2 hev2
              rw [avEq_eq hag]
              exact hev2
            · cases hag
      · exact absurd hrun.symm hres

/-- Any order in which a region may be gone through. -/
def Lin (ops : Array Oper) : (Nat → Prop) → List Nat → Prop
  | D, [] => ∀ i, i < ops.size → D i
  | D, i :: rest => ¬ D i ∧ (∃ o, ops[i]? = some o ∧ Preds D o) ∧ Lin ops (fun x => D x ∨ x = i) rest

theorem region_run {B : Ren → World → Prop} (hstab : Stable B) (hB0 : B X.ρ0 X.w0) (hext : ExtOk P) (R : Reg nt ops) (hnt : nt ≤ 512) (hrec : RecOk P B X.rc) (hround : RoundOk P B X.round) (hres : X.res ≠ .fail) {cs : List Frame} {K : List Item} (hkind : KindOk X.kind cs) (hsz0 : nt ≤ X.tmps0.size) :
    ∀ (σ : List Nat) (D : Nat → Prop) (back todo : List (Nat × IStep)) (L : List AV) (H : Heap) (k : Ctl) (ρ : Ren) (w : World) (gh : Nat → Option Id) (fr : Frame),
      Lin ops D σ → St P nt ops X D back todo L H k ρ w gh fr → fr.todo = .inRegion ops σ :: K →
      ∃ D' back' L' H' k' ρ' w' gh' fr', Steps P (lone fr cs w) (lone fr' cs w') ∧ fr'.todo = K ∧ (∀ i, i < ops.size → D' i) ∧ St P nt ops X D' back' [] L' H' k' ρ' w' gh' fr'
  | [], D, back, todo, L, H, k, ρ, w, gh, fr, hlin, S0, ht => by
    obtain ⟨back', todo', L', H', gh', S, hor⟩ := St.norm R hres todo back L H gh S0
    rcases hor with rfl | ⟨i, s, l, rfl, hq⟩
    · refine ⟨D, back', L', H', k, ρ, w, gh', { fr with todo := K }, .one (st_region_end S.mode ht), rfl, hlin, ?_⟩
      exact ⟨S.hrel, S.grow, S.len, S.ents, S.tods, S.ord, S.nodup, S.closed, S.slots, S.inits, S.env, S.size, S.pend, S.inj, S.ghin, S.ghlo, S.ntod, S.cover, S.ctl, S.mode, S.run, S.whole, S.fn, S.kind, S.rnd, S.old0⟩
    · exfalso
      obtain ⟨o, ho, _⟩ := TodoOk.na (back := back') S.tods (i, s) List.mem_cons_self
      exact S.ntod (i, s) List.mem_cons_self (hlin i (Array.getElem?_eq_some_iff.1 ho).1)
  | j :: rest, D, back, todo, L, H, k, ρ, w, gh, fr, hlin, S0, ht => by
    obtain ⟨hnj, ⟨o, ho, hp⟩, hlin'⟩ := hlin
    obtain ⟨back', todo', L', H', gh', S, hor⟩ := St.norm R hres todo back L H gh S0
    have hsz : nt ≤ fr.tmps.size := by rw [S.size]; exact hsz0
    cases ha : aliasOf o with
    | some x =>
      obtain ⟨v, hst, S2⟩ := S.alias R hnt hsz ho ha hnj hp (cs := cs) ht
      obtain ⟨D', back2, L2, H2, k2, ρ2, w2, gh2, fr2, q1, q2⟩ := region_run hstab hB0 hext R hnt hrec hround hres hkind hsz0 rest _ back' todo' L' H' k ρ w gh' (fr.finish v) hlin' S2 (by rw [finish_eq ht ho])
      exact ⟨D', back2, L2, H2, k2, ρ2, w2, gh2, fr2, .head hst q1, q2⟩
    | none =>
      have hcov := S.cover j o ho ha
      by_cases hb : j ∈ back'.map (·.1)
      · have htd : ∀ x ∈ todo', x.1 ≠ j := by
          rcases hor with rfl | ⟨i, s, l, rfl, hq⟩
          · intro x hx; cases hx
          · -- none twice
            have key : ∀ (todo back : List (Nat × IStep)), orderOk (Region.before ops) back todo = true → ∀ x ∈ todo, x.1 ∉ back.map (·.1) := by
              intro todo
              induction todo with
              | nil => intro back _ x hx; cases hx
              | cons y l ih =>
                intro back h x hx
                obtain ⟨iy, sy⟩ := y
                obtain ⟨o1, o2, o3, o4⟩ := orderOk_cons h
                rcases List.mem_cons.1 hx with e | hx
                · subst e; exact o2
                · intro hm
                  exact ih _ o4 x hx (by rw [List.map_cons]; exact List.mem_cons_of_mem _ hm)
            intro x hx e
            exact key _ _ S.ord x hx (by rw [e]; exact hb)
        obtain ⟨v, ρ2, w2, hst, S2⟩ := S.float hext R hnt hsz ho hnj hp hb htd (cs := cs) ht
        obtain ⟨D', back2, L2, H2, k2, ρ3, w3, gh2, fr2, q1, q2⟩ := region_run hstab hB0 hext R hnt hrec hround hres hkind hsz0 rest _ back' todo' L' H' k ρ2 w2 gh' (fr.finish v) hlin' S2 (by rw [finish_eq ht ho])
        exact ⟨D', back2, L2, H2, k2, ρ3, w3, gh2, fr2, .head hst q1, q2⟩
      · rcases hcov with h | h
        · exact absurd h hb
        · rcases hor with rfl | ⟨i, s, l, rfl, hq⟩
          · cases h
          · obtain ⟨o1, o2, o3, o4⟩ := orderOk_cons S.ord
            rw [List.map_cons] at h
            rcases List.mem_cons.1 h with e | h
            · subst e
              obtain ⟨v, H2, k2, ρ2, w2, fr2, hst, htd, S2⟩ := S.eff hstab hB0 R hnt hrec hround hres hsz hq ho hp (cs := cs) ht (by rw [S.kind]; exact hkind)
              obtain ⟨D', back2, L2, H3, k3, ρ3, w3, gh2, fr3, q1, q2⟩ := region_run hstab hB0 hext R hnt hrec hround hres hkind hsz0 rest _ _ l _ H2 k2 ρ2 w2 gh' fr2 hlin' S2 htd
              exact ⟨D', back2, L2, H3, k3, ρ3, w3, gh2, fr3, hst.trans q1, q2⟩
            · exfalso
              obtain ⟨x, hx, rfl⟩ := List.mem_map.1 h
              exact S.ntod (i, s) List.mem_cons_self (bits_closed S.closed x.1 o i ho hp ((o3 hq).1 x hx))
end Go.AX
end

section
namespace Go.AX
variable {P : Program} {nt : Nat} {ops : Array Oper}

/-! ### The orders that may be drawn -/
theorem Lin.congr {D D' : Nat → Prop} (h : ∀ i, D i ↔ D' i) {σ : List Nat} (hl : Lin ops D σ) : Lin ops D' σ := by
  have : D = D' := funext fun i => propext (h i)
  rw [← this]
  exact hl

theorem lin_drawn (R : Reg nt ops) : ∀ (fuel t : Nat) (listed : Array Bool), listed.size = ops.size → listed.toList.count false ≤ fuel → Lin ops (fun i => listed.getD i false = true) (Region.linearise.go .any ops fuel t listed [])
  | 0, t, listed, hs, hc => by
    show ∀ i, i < ops.size → listed.getD i false = true
    intro i hi
    have hlt : i < listed.size := by omega
    have h0 : listed.toList.count false = 0 := by omega
    rw [List.count_eq_zero] at h0
    cases hb : listed[i] with
    | true => simp [Array.getD, hlt, hb]
    | false => exact absurd (by rw [← hb]; simp) h0
  | fuel + 1, t, listed, hs, hc => by
    simp only [Region.linearise.go]
    change Lin ops (fun i => listed.getD i false = true) (match (Region.ready .any ops listed)[t % (Region.ready .any ops listed).length]? with
      | some i => Region.linearise.go .any ops fuel (t / (Region.ready .any ops listed).length) (listed.setIfInBounds i true) [i]
      | none => [].reverse)
    cases hi : (Region.ready .any ops listed)[t % (Region.ready .any ops listed).length]? with
    | none =>
      have hnil : Region.ready .any ops listed = [] := by
        cases hr : Region.ready .any ops listed with
        | nil => rfl
        | cons x xs =>
          rw [hr] at hi
          have hlt : t % (x :: xs).length < (x :: xs).length := Nat.mod_lt _ (by simp)
          simp at hi
          simp at hlt
          omega
      show ∀ i, i < ops.size → listed.getD i false = true
      intro i
      induction i using Nat.strongRecOn with
      | _ i ih =>
        intro hlt
        have hlt' : i < listed.size := by omega
        cases hb : listed[i] with
        | true => simp [Array.getD, hlt', hb]
        | false =>
          have hmem : i ∈ Region.ready .any ops listed := by
            rw [mem_ready]
            refine ⟨by simp [Array.getD, hlt', hb], ops[i], Array.getElem?_eq_getElem hlt, ?_⟩
            intro ed hed hbi
            have := R.edge i ops[i] (Array.getElem?_eq_getElem hlt) ed hed hbi
            exact ih ed.on this (by omega)
          rw [hnil] at hmem
          cases hmem
    | some i =>
      simp only []
      rw [linearise_go_acc, List.reverse_singleton, List.singleton_append]
      have hmem := List.mem_of_getElem? hi
      rw [mem_ready] at hmem
      obtain ⟨h0, o, ho, hall⟩ := hmem
      have hlt : i < listed.size := by rw [hs]; exact (Array.getElem?_eq_some_iff.1 ho).1
      have hb : listed[i] = false := by simpa [Array.getD, hlt] using h0
      refine ⟨by simp [Array.getD, hlt, hb], ⟨o, ho, hall⟩, ?_⟩
      refine Lin.congr ?_ (lin_drawn R fuel (t / (Region.ready .any ops listed).length) (listed.setIfInBounds i true) (by simpa using hs) ?_)
      · intro x
        by_cases e : x = i
        · subst e
          simp [Array.getD, hlt]
        · have : i ≠ x := fun h => e h.symm
          simp only [Array.getD_eq_getD_getElem?, Array.getElem?_setIfInBounds_ne this, e, or_false]
      · rw [Array.toList_setIfInBounds, List.count_set (by simpa using hlt)]
        have hpos : 0 < listed.toList.count false := by
          rw [List.count_pos_iff]
          rw [← hb]
          simp
        have e1 : listed.toList[i]'(by simpa using hlt) = false := by simpa using hb
        rw [e1, if_pos (by decide), if_neg (by decide)]
        omega

theorem lin_range (R : Reg nt ops) : ∀ (n m : Nat), m + n = ops.size → Lin ops (fun i => i < m) (List.range' m n)
  | 0, m, h => fun i hi => by omega
  | n + 1, m, h => by
    rw [List.range'_succ]
    have hlt : m < ops.size := by omega
    refine ⟨by omega, ⟨ops[m], Array.getElem?_eq_getElem hlt, ?_⟩, ?_⟩
    · intro ed hed hb
      exact R.edge m _ (Array.getElem?_eq_getElem hlt) ed hed hb
    · exact Lin.congr (fun i => by omega) (lin_range R n (m + 1) (by omega))

theorem lin_schedule (R : Reg nt ops) (t : Nat) : Lin ops (fun _ => False) (Region.schedule true ops t) := by
  simp only [Region.schedule, Bool.true_or, if_true]
  refine Lin.congr ?_ (lin_drawn R ops.size t (Array.replicate ops.size false) (by simp) ?_)
  · intro i
    by_cases h : i < ops.size <;> simp [Array.getD, h]
  · exact Nat.le_trans List.count_le_length (by simp)
theorem lin_text (R : Reg nt ops) : Lin ops (fun _ => False) (List.range ops.size) := by
  rw [List.range_eq_range']
  exact Lin.congr (fun i => ⟨fun h => absurd h (Nat.not_lt_zero _), False.elim⟩) (lin_range R ops.size 0 (by omega))

/-! ### What is compiled -/
theorem istep_ok {b : Array Nat} {back : List (Nat × Oper × RM)} {i : Nat} {o : Oper} {m : RM} {s : IStep} (h : istep P ops.toList b back i o m = some s) (ho : ops[i]? = some o) (ha : aliasOf o = none) (hm : RMOk ops i m) : SOk P ops (back.map (·.1)) i s o m := by
  unfold istep at h
  simp only at h
  refine ⟨ho, ha, hm, ?_, ?_⟩
  · have hop : s.op = (comp P (fun x => rfOf (back.map (·.1)) (resolve m x)) o.op).getD noOp := by
      split at h
      · simp only [Option.some.injEq] at h
        rw [← h]
      · split at h
        · simp only [Option.map_eq_some_iff] at h
          obtain ⟨g, _, h⟩ := h
          rw [← h]
        · cases h
    cases hc : comp P (fun x => rfOf (back.map (·.1)) (resolve m x)) o.op with
    | none => rw [hc] at hop; exact .inr hop
    | some c => rw [hc] at hop; exact .inl (by rw [hop]; rfl)
  · split at h
    · rename_i hg
      simp only [hg]
      simp only [Option.some.injEq] at h
      rw [← h]
    · rename_i j w hg
      simp only [hg]
      split at h
      · rename_i t ht
        simp only [Option.map_eq_some_iff] at h
        obtain ⟨g, hgr, h⟩ := h
        rw [← h]
        rw [Array.getElem?_toList] at ht
        exact ⟨t, g, ht, hgr, rfl⟩
      · cases h

theorem isteps_ok {b : Array Nat} : ∀ (ord back : List (Nat × Oper × RM)) (steps : List IStep) (backS : List (Nat × IStep)), isteps P ops.toList b back ord = some steps → (∀ x ∈ ord, ops[x.1]? = some x.2.1 ∧ aliasOf x.2.1 = none ∧ RMOk ops x.1 x.2.2) → backS.map (·.1) = back.map (·.1) →
    steps.length = ord.length ∧ TodoOk P ops backS ((ord.map (·.1)).zip steps)
  | [], back, steps, backS, h, _, _ => by
    simp only [isteps, Option.some.injEq] at h
    subst h
    exact ⟨rfl, trivial⟩
  | (i, o, m) :: l, back, steps, backS, h, hall, hb => by
    simp only [isteps] at h
    split at h
    · rename_i c r hc hr
      simp only [Option.some.injEq] at h
      subst h
      obtain ⟨h1, h2, h3⟩ := hall (i, o, m) List.mem_cons_self
      obtain ⟨q1, q2⟩ := isteps_ok l ((i, o, m) :: back) r ((i, c) :: backS) hr (fun x hx => hall x (List.mem_cons_of_mem _ hx)) (by simp [hb])
      refine ⟨by simp [q1], ⟨o, m, ?_⟩, q2⟩
      rw [hb]
      exact istep_ok hc h1 h2 h3
    · cases h

theorem orderOf_mem {cs : List (Nat × Oper × RM)} {b : Array Nat} {eff : List Nat} {x : Nat × Oper × RM} (h : x ∈ orderOf P cs b eff) : x ∈ cs := by
  unfold orderOf at h
  rw [List.mem_flatMap] at h
  obtain ⟨k, _, h⟩ := h
  rw [List.mem_append] at h
  rcases h with h | h
  · exact (List.mem_filter.1 h).1
  · split at h
    · exact (List.mem_filter.1 h).1
    · cases h

structure RegOut (P : Program) (nt : Nat) (vis : List Tmp) (ops : Array Oper) (r : IReg) (todo : List (Nat × IStep)) (mf : RM) : Prop where
  reg : Reg nt ops
  steps : todo.map (·.2) = r.steps
  tods : TodoOk P ops [] todo
  ord : orderOk (Region.before ops) [] todo = true
  cover : ∀ (i : Nat) (o : Oper), ops[i]? = some o → aliasOf o = none → i ∈ todo.map (·.1)
  fin : RMOk ops ops.size mf
  outs : outsOf vis (todo.map (·.1)).reverse mf [] = some r.outs

theorem compReg_sound {vis : List Tmp} {r : IReg} (h : compReg P nt vis ops = some r) : ∃ todo mf, RegOut P nt vis ops r todo mf := by
  unfold compReg at h
  simp only at h
  generalize hssa : ssa ops.toList 0 [] = x at h
  obtain ⟨cs, mf⟩ := x
  simp only at h
  split at h
  · cases h
  · rename_i hreg
    split at h
    · rename_i steps outs hst hout
      split at h
      · rename_i hok
        simp only [Option.some.injEq] at h
        rw [Bool.and_eq_true, List.all_eq_true] at hok
        obtain ⟨s1, s2, s3⟩ := ssa_ok ops ops.toList 0 [] rfl ⟨fun t r h => by simp [RM.find] at h, fun t r h => by simp at h, fun t _ j o hj => absurd hj (by omega)⟩
        rw [hssa] at s1 s2 s3
        simp only at s1 s2 s3
        obtain ⟨q1, q2⟩ := isteps_ok (P := P) (ops := ops) _ [] steps [] hst (fun x hx => s1 x (orderOf_mem hx)) rfl
        refine ⟨_, mf, regOk_sound hreg, ?_, q2, hok.1, ?_, s2, ?_⟩
        · subst h
          rw [List.map_snd_zip]
          rw [List.length_map]
          omega
        · intro i o ho ha
          rw [List.map_fst_zip (by rw [List.length_map]; omega)]
          obtain ⟨x, hx, rfl⟩ := s3 i o (by omega) ho ha
          have := hok.2 x hx
          exact List.contains_iff_mem.1 this
        · subst h
          rw [List.map_fst_zip (by rw [List.length_map]; omega)]
          exact hout
      · cases h
    · cases h
end Go.AX
end

section
namespace Go.AX
/-! ## Code -/
variable {P : Program} {ρ ρ' : Ren} {w w' : World} {H H' : Heap}

theorem outsOf_mem {vis : List Tmp} {ix : List Nat} : ∀ {mf : RM} {seen : List Tmp} {outs : List (Slot × Rf)}, outsOf vis ix mf seen = some outs → ∀ sl g, (sl, g) ∈ outs → ∃ u ref, (u, ref) ∈ mf ∧ u ∈ vis ∧ sl = Slot.of u ∧ rfOf ix ref = some g
  | [], seen, outs, h, sl, g, hm => by
    simp only [outsOf, Option.some.injEq] at h
    subst h
    cases hm
  | (t, r) :: l, seen, outs, h, sl, g, hm => by
    simp only [outsOf] at h
    split at h
    · obtain ⟨u, ref, q1, q2⟩ := outsOf_mem h sl g hm
      exact ⟨u, ref, List.mem_cons_of_mem _ q1, q2⟩
    · rename_i hc
      split at h
      · rename_i g' rest hg hr
        simp only [Option.some.injEq] at h
        subst h
        rcases List.mem_cons.1 hm with e | hm
        · cases e
          simp only [Bool.or_eq_true, Bool.not_eq_true', not_or, Bool.not_eq_true, Bool.not_eq_false] at hc
          exact ⟨t, r, List.mem_cons_self, List.contains_iff_mem.1 hc.2, rfl, hg⟩
        · obtain ⟨u, ref, q1, q2⟩ := outsOf_mem hr sl g hm
          exact ⟨u, ref, List.mem_cons_of_mem _ q1, q2⟩
      · cases h
theorem outsOf_all {vis : List Tmp} {ix : List Nat} : ∀ {mf : RM} {seen : List Tmp} {outs : List (Slot × Rf)}, outsOf vis ix mf seen = some outs → ∀ u ref, (u, ref) ∈ mf → u ∈ vis → u ∉ seen → ∃ g, (Slot.of u, g) ∈ outs
  | [], seen, outs, h, u, ref, hm, _, _ => by cases hm
  | (t, r) :: l, seen, outs, h, u, ref, hm, hv, hs => by
    simp only [outsOf] at h
    split at h
    · rename_i hc
      rcases List.mem_cons.1 hm with e | hm
      · cases e
        simp only [Bool.or_eq_true, Bool.not_eq_true'] at hc
        rcases hc with hc | hc
        · exact absurd (List.contains_iff_mem.1 hc) hs
        · rw [List.contains_iff_mem.2 hv] at hc; cases hc
      · exact outsOf_all h u ref hm hv hs
    · split at h
      · rename_i g' rest hg hr
        simp only [Option.some.injEq] at h
        subst h
        by_cases e : u = t
        · subst e
          exact ⟨g', List.mem_cons_self⟩
        · rcases List.mem_cons.1 hm with e' | hm
          · cases e'; exact absurd rfl e
          · obtain ⟨g, hg⟩ := outsOf_all hr u ref hm hv (by
              intro h'
              rcases List.mem_cons.1 h' with h' | h'
              · exact e h'
              · exact hs h')
            exact ⟨g, List.mem_cons_of_mem _ hg⟩
      · cases h

theorem outs_get (L : List AV) (e0 : Env) (sl : Slot) : ∀ (outs : List (Slot × Rf)) (e : Env), (∃ g, (sl, g) ∈ outs ∧ Env.get sl (outsE L e0 outs e) = opd g e0 L) ∨ ((∀ g, (sl, g) ∉ outs) ∧ Env.get sl (outsE L e0 outs e) = Env.get sl e)
  | [], e => .inr ⟨(fun g h => by cases h), rfl⟩
  | (s, r) :: l, e => by
    simp only [outsE]
    rcases outs_get L e0 sl l (Env.put s (opd r e0 L) e) with ⟨g, h1, h2⟩ | ⟨h1, h2⟩
    · exact .inl ⟨g, List.mem_cons_of_mem _ h1, h2⟩
    · by_cases e' : sl = s
      · subst e'
        exact .inl ⟨r, List.mem_cons_self, by rw [h2, Env.get_put_same]⟩
      · refine .inr ⟨?_, by rw [h2, Env.get_put_ne _ _ _ _ e']⟩
        intro g hg
        rcases List.mem_cons.1 hg with h | h
        · cases h; exact e' rfl
        · exact h1 g h

structure FOk (P : Program) (ρ : Ren) (fn : FuncId) (k : Ctl) (e : Env) (fr : Frame) : Prop where
  hfn : fr.fn = fn
  size : ntOf P fn ≤ fr.tmps.size
  env : ERel ρ e fr.tmps
  hid : Hidden (visOf P fn) e
  ctl : CtlOk ρ k fr.defers fr.roundOf
  mode : fr.mode = .run

def At : Out → List Item → List Item → Prop
  | .norm, K, todo => todo = K
  | .exit id, K, todo => ∃ K2, todo = .code (.exit id) :: K2 ∧ exitTo id K2 = exitTo id K
  | .ret, _, todo => ∃ K2, todo = .code .ret :: K2

/-- What is there when code has run. -/
def Post (P : Program) (fn : FuncId) (o : Out) (e' : Env) (H' : Heap) (k' : Ctl) (ρ : Ren) (H : Heap) (w : World) (fr : Frame) (cs : List Frame) (K : List Item) : Prop :=
  ∃ ρ' w' fr', Steps P (lone fr cs w) (lone fr' cs w') ∧ At o K fr'.todo ∧ FOk P ρ' fn k' e' fr' ∧ fr'.kind = fr.kind ∧ fr'.roundOf = fr.roundOf ∧ HRel P ρ' H' w' ∧ Grow ρ ρ' H H' w w'

def RunOk (P : Program) (B : Ren → World → Prop) (fn : FuncId) (c : Code) (run : Run) : Prop :=
  ∀ rec, RecOk P B rec → ∀ k e H o e' H' k', run rec k e H = .ok o e' H' k' → ∀ ρ w fr cs K, FOk P ρ fn k e fr → HRel P ρ H w → B ρ w → KindOk fr.kind cs → fr.todo = .code c :: K → Post P fn o e' H' k' ρ H w fr cs K

def CodeOk (P : Program) (B : Ren → World → Prop) (code : Nat → IC → Run) : Prop := ∀ fn c ic, ntOf P fn ≤ 512 → compCode P (ntOf P fn) (visOf P fn) c = some ic → RunOk P B fn c (code fn ic)

theorem HRel.heap_eq (hH : HRel P ρ H w) (h : w'.heap = w.heap) : HRel P ρ H w' :=
  ⟨fun id loc hl => let ⟨o, ho, hk⟩ := hH.ok id loc hl; ⟨o, ho, hk.keep (Ren.le_refl _) (by rw [h])⟩, hH.kin, hH.old⟩
theorem Grow.heap_eq (h : w'.heap = w.heap) (hio : SameIO w w') : Grow ρ ρ H H w w' :=
  ⟨Ren.le_refl ρ, by rw [h]; exact Nat.le_refl _, fun _ _ _ => by rw [h], (fun _ _ h h' => by rw [h] at h'; cases h'), (fun _ _ h h' => by rw [h] at h'; cases h'), Nat.le_refl _, fun _ _ _ h _ => h, hio⟩

/-- A region, its order drawn or not. -/
theorem region_exec {B : Ren → World → Prop} (hstab : Stable B) (hext : ExtOk P) {round : Rec → Id → List AV → Heap → CR} (hround : RoundOk P B round) {rec : Rec} (hrec : RecOk P B rec) {fn : FuncId} (hnt : ntOf P fn ≤ 512) {ops : Array Oper} {r : IReg} (hc : compReg P (ntOf P fn) (visOf P fn) ops = some r)
    {k k' : Ctl} {e e' : Env} {o : Out} (hrun : runReg round rec r k e H = .ok o e' H' k') {fr : Frame} {cs : List Frame} {K : List Item} (hF : FOk P ρ fn k e fr) (hH : HRel P ρ H w) (hB : B ρ w) (hkind : KindOk fr.kind cs) {σ : List Nat} (hlin : Lin ops (fun _ => False) σ) (ht : fr.todo = .inRegion ops σ :: K) :
    Post P fn o e' H' k' ρ H w fr cs K := by
  obtain ⟨todo, mf, C⟩ := compReg_sound hc
  let X : Cx := ⟨e, r.outs, rec, round, .ok o e' H' k', ρ, H, w, fr.tmps, todo.map (·.1), fr.fn, fr.kind, fr.roundOf⟩
  have S0 : St P (ntOf P fn) ops X (fun _ => False) [] todo [] H k ρ w (fun _ => none) fr := by
    refine ⟨hH, Grow.refl _ _ _, rfl, (fun d i s h => by simp at h), C.tods, C.ord, List.nodup_nil, (fun j o h => h.elim), (fun j o t r h => h.elim), (fun t _ => rfl), hF.env, rfl, (fun d i s v h => by simp at h), (fun i i' id _ _ h => by cases h), (fun i id h => by cases h), (fun i id h => by cases h), (fun x _ h => h.elim), (fun i o h1 h2 => .inr (C.cover i o h1 h2)), hF.ctl, hF.mode, ?_, rfl, rfl, rfl, rfl, hH.old⟩
    show runSteps round rec r.outs e [] (todo.map (·.2)) k [] H = .ok o e' H' k'
    rw [C.steps]
    exact hrun
  obtain ⟨D', back, L2, H2, k2, ρ2, w2, gh2, fr2, q1, q2, q3, S⟩ := region_run hstab (show B X.ρ0 X.w0 from hB) hext C.reg hnt (X := X) hrec hround (fun h => by cases h) hkind hF.size σ _ [] todo [] H k ρ w _ fr hlin S0 ht
  have hr := S.run
  have hix : back.map (·.1) = (todo.map (·.1)).reverse := by
    have := S.whole
    rw [List.map_nil, List.append_nil] at this
    have h2 := congrArg List.reverse this
    rw [List.reverse_reverse] at h2
    exact h2
  change R.ok .norm (outsE L2 e r.outs e) H2 k2 = R.ok o e' H' k' at hr
  cases hr
  refine ⟨ρ2, w2, fr2, q1, q2, ⟨S.fn.trans hF.hfn, ?_, ?_, ?_, S.ctl, S.mode⟩, S.kind, S.rnd, S.hrel, S.grow⟩
  · rw [S.size]; exact hF.size
  · intro t ht
    rcases outs_get L2 e (Slot.of t) r.outs e with ⟨g, h1, h2⟩ | ⟨h1, h2⟩
    · rw [h2]
      obtain ⟨u, ref, m1, m2, m3, m4⟩ := outsOf_mem C.outs _ g h1
      obtain ⟨j, oj, hj, hoj, hdj, hrj⟩ := C.fin.mem u ref m1
      have hu : u < 512 := Nat.lt_of_lt_of_le (C.reg.name j oj hoj u (by unfold namesOf; simp [hdj])) hnt
      have := Slot.of_inj ht hu m3
      subst this
      rw [← hix] at m4
      rw [opd_refV m4]
      exact S.slots j oj t ref (q3 j hj) hoj hdj hrj
    · rw [h2]
      by_cases hwr : ∃ j oj, D' j ∧ ops[j]? = some oj ∧ oj.dst = some t
      · obtain ⟨j, oj, hDj, hoj, hdj⟩ := hwr
        cases hfd : mf.find t with
        | none => exact absurd hdj (C.fin.non t hfd j oj (Array.getElem?_eq_some_iff.1 hoj).1 hoj)
        | some ref =>
          have hmem : ∀ (m : RM), m.find t = some ref → (t, ref) ∈ m := by
            intro m
            induction m with
            | nil => intro h; simp [RM.find] at h
            | cons x m ih =>
              intro h
              obtain ⟨u, r'⟩ := x
              rw [RM.find_cons] at h
              split at h
              · rename_i he
                cases h
                rw [eq_of_beq he]
                exact List.mem_cons_self
              · exact List.mem_cons_of_mem _ (ih h)
          by_cases hv : t ∈ visOf P fn
          · obtain ⟨g, hg⟩ := outsOf_all C.outs t ref (hmem mf hfd) hv (by simp)
            exact absurd hg (h1 g)
          · rw [hF.hid t ht hv]
            exact .un _
      · rw [S.inits t (fun j oj hDj hoj hdj => hwr ⟨j, oj, hDj, hoj, hdj⟩)]
        exact S.env t ht
  · intro t ht hv
    rcases outs_get L2 e (Slot.of t) r.outs e with ⟨g, h1, h2⟩ | ⟨h1, h2⟩
    · obtain ⟨u, ref, m1, m2, m3, m4⟩ := outsOf_mem C.outs _ g h1
      obtain ⟨j, oj, hj, hoj, hdj, hrj⟩ := C.fin.mem u ref m1
      have hu : u < 512 := Nat.lt_of_lt_of_le (C.reg.name j oj hoj u (by unfold namesOf; simp [hdj])) hnt
      have := Slot.of_inj ht hu m3
      subst this
      exact absurd m2 hv
    · rw [h2]
      exact hF.hid t ht hv

theorem Post.steps {fn : FuncId} {o : Out} {e' : Env} {k' : Ctl} {fr fr1 : Frame} {cs : List Frame} {K K1 : List Item} {w1 : World} (h : step P (lone fr cs w) = .next (lone fr1 cs w1)) (hk : fr1.kind = fr.kind) (hr : fr1.roundOf = fr.roundOf) (hw : w1.heap = w.heap ∧ SameIO w w1) (hK : ∀ todo, At o K1 todo → At o K todo) (hH : HRel P ρ H w)
    (hp : Post P fn o e' H' k' ρ H w1 fr1 cs K1) : Post P fn o e' H' k' ρ H w fr cs K := by
  obtain ⟨ρ', w', fr', h1, h2, h3, h4, h5, h6, h7⟩ := hp
  exact ⟨ρ', w', fr', .head h h1, hK _ h2, h3, h4.trans hk, h5.trans hr, h6, Grow.trans hH.old (Grow.heap_eq hw.1 hw.2) h7⟩

theorem FOk.todo {fn : FuncId} {k : Ctl} {e : Env} {fr : Frame} (h : FOk P ρ fn k e fr) (T : List Item) : FOk P ρ fn k e { fr with todo := T } := ⟨h.hfn, h.size, h.env, h.hid, h.ctl, h.mode⟩
end Go.AX
end

section
namespace Go.AX
/-! ## Ranges over functions -/
variable {P : Program} {ρ ρ' : Ren} {w w' : World} {H H' : Heap}

theorem kind_normal (cs : List Frame) : KindOk .normal cs := by
  intro fr h
  simp [tryRecover, h]
theorem kind_deferred {c : Frame} (h : c.mode = .returning) (cs : List Frame) : KindOk .deferred (c :: cs) := by
  intro fr hk
  simp [tryRecover, hk, h]

section
variable {fr : Frame} {cs : List Frame} {K : List Item}
theorem st_beginRound (hm : fr.mode = .run) (h : fr.todo = .beginRound :: K) {l : Nat} (hr : fr.roundOf = some l) (hb : (Instr.beginRound l).run P w = .ok () w') : step P (lone fr cs w) = .next (lone { fr with todo := K } cs w') :=
  step_lone_go (by simp [stepG, stepG.exec, hm, h, hr, stepG.apply, Sem.run_bind, hb, Result.andThen, Frame.finish])
theorem st_leave {c : Frame} {l : Nat} {jump : Option Code} {v : Value} (hm : fr.mode = .run) (hr : fr.roundOf = some l) (hk : fr.kind = .normal) (he : (Instr.endRound l jump).run P w = .ok v w')
    (h : (jump = none ∧ fr.todo = []) ∨ (jump = some .ret ∧ fr.todo = .code .ret :: K) ∨ ∃ id, jump = some (.exit id) ∧ fr.todo = .code (.exit id) :: K ∧ exitTo id K = none) :
    step P (lone fr (c :: cs) w) = .next (lone (c.finish v) cs w') := by
  refine step_lone_go ?_
  rcases h with ⟨rfl, h⟩ | ⟨rfl, h⟩ | ⟨id, rfl, h, hx⟩
  · simp [stepG, stepG.exec, hm, h, hr, Sem.runT_eq, he, doReturn, hk]
  · simp [stepG, stepG.exec, hm, h, hr, Sem.runT_eq, he, doReturn, hk]
  · simp [stepG, stepG.exec, hm, h, hr, hx, Sem.runT_eq, he, doReturn, hk]
theorem st_range (hm : fr.mode = .run) {g : Operand} {ps : Array Tmp} {as bd : Code} (h : fr.todo = .code (.rangeFunc g ps as bd) :: K) {l f : Nat} {mark : List Deferred} {w1 : World} {vs ws : Array Value} (he : (Instr.enterLoop fr.fn fr.tmps ps as bd fr.roundOf).run P w = .ok (l, mark) w1)
    (hg : fr.eval g = .func (.func f) vs ws) {args : Array Value} (hc : (callFunc f (vs ++ #[.func (.yield l) #[] #[]] ++ ws)).run P w1 = .ok (.enter f args) w1) :
    step P (lone fr cs w) = .next (lone (Frame.enter P f args .normal) ({ fr with todo := .inRangeFunc l :: K, defers := mark ++ fr.defers } :: cs) w1) :=
  step_lone_go (by
    have hev : ({ fr with todo := .inRangeFunc l :: K, defers := mark ++ fr.defers, mode := .run } : Frame).eval g = .func (.func f) vs ws := by
      rw [← hg, eval_evT, eval_evT]
    have hev2 : ∀ v, ({ fr with todo := .inRangeFunc l :: K, defers := mark ++ fr.defers, mode := .run } : Frame).eval (.const v) = v := fun v => rfl
    have hc' : Sem.run P (callFunc f (vs.push (.func (.yield l) #[] #[]) ++ ws)) w1 = .ok (.enter f args) w1 := by simpa using hc
    simp [stepG, stepG.exec, hm, h, Sem.runT_eq, he, stepG.apply, Go.resolve, hev, hev2, Deferred.ofValue, Sem.run_bind, Go.invoke, hc', Result.andThen])
theorem st_endRange (hm : fr.mode = .run) {l : Nat} {jump : Option Code} (h : fr.todo = .endRangeFunc l :: K) (he : (Instr.endLoop l).run P w = .ok jump w') : step P (lone fr cs w) = .next (lone { fr with todo := (jump.map Item.code).toList ++ K } cs w') :=
  step_lone_go (by simp [stepG, stepG.exec, hm, h, Sem.runT_eq, he])
end

theorem loop_at (hH : HRel P ρ H w) {l : Id} {loc : Loc} (hl : ρ l = some loc) {st : LoopState} {pd : Option Jump} {env : Env} {ps : List Slot} {as bd : IC} {fn : Nat} {df : Id} (hg : H.get l = some (.loop st pd env ps as bd fn df)) : OOk P ρ H l loc w (.loop st pd env ps as bd fn df) := by
  obtain ⟨o, ho, hk⟩ := hH.ok l loc hl
  rw [hg] at ho
  cases ho
  exact hk

/-- The record of a loop is turned. -/
theorem loop_put (hH : HRel P ρ H w) {l : Id} {loc : Loc} (hl : ρ l = some loc) {st : LoopState} {pd : Option Jump} {env : Env} {ps : List Slot} {as bd : IC} {fn : Nat} {df : Id} (hg : H.get l = some (.loop st pd env ps as bd fn df)) {lp : Loop} (hlp : w.heap[loc.blk]? = some (.loop lp)) (st' : LoopState) (pd' : Option Jump) :
    HRel P ρ (H.put l (.loop st' pd' env ps as bd fn df)) (w.putObj loc.blk (.loop { lp with state := st', pending := pd'.map jumpCode })) ∧
    Grow ρ ρ H (H.put l (.loop st' pd' env ps as bd fn df)) w (w.putObj loc.blk (.loop { lp with state := st', pending := pd'.map jumpCode })) := by
  have hok := loop_at hH hl hg
  have hlt : loc.blk < w.heap.size := hok.lt
  have hsame : ∀ k, k ≠ loc.blk → (w.putObj loc.blk (.loop { lp with state := st', pending := pd'.map jumpCode })).heap[k]? = w.heap[k]? := fun k hk => World.putObj_heap_other hk
  refine ⟨hH.put1 hl (hH.solo hl hg (fun _ _ _ _ _ _ e => by cases e)) ?_ hsame, Grow.put1 hl hsame World.putObj_size ⟨rfl, rfl⟩⟩
  obtain ⟨l', h1, h2, h3, h4, h5, h6, h7, h8, h9, h10, h11, h12, h13⟩ := hok
  rw [hlp] at h1
  cases h1
  exact ⟨_, World.putObj_heap_same hlt, rfl, rfl, h4, h5, h6, h7, h8, h9, h10, h11, h12, h13⟩

theorem setParams_sound {vis : List Tmp} : ∀ {ps : List Tmp} {args : List AV} {vs : List Value} {env env' : Env} {tmps : Array Value}, setParams (ps.map Slot.of) args env = some env' → VRels ρ args vs → ERel ρ env tmps → Hidden vis env → (∀ t ∈ ps, t < tmps.size ∧ t < 512 ∧ t ∈ vis) →
    ps.length = vs.length ∧ ERel ρ env' ((ps.zip vs).foldl (fun tmps (t, a) => tmps.setIfInBounds t a) tmps) ∧ Hidden vis env' ∧ ((ps.zip vs).foldl (fun tmps (t, a) => tmps.setIfInBounds t a) tmps).size = tmps.size
  | [], [], _, env, env', tmps, h, .nil, hE, hh, _ => by
    simp only [List.map_nil, setParams, Option.some.injEq] at h
    subst h
    exact ⟨rfl, hE, hh, rfl⟩
  | [], _ :: _, _, env, env', tmps, h, .cons _ _ _ _ _ _, hE, hh, _ => by cases h
  | t :: ps, [], _, env, env', tmps, h, .nil, hE, hh, _ => by cases h
  | t :: ps, a :: l, v :: m, env, env', tmps, h, .cons _ _ _ _ hv ht, hE, hh, hp => by
    simp only [List.map_cons, setParams] at h
    obtain ⟨p1, p2, p3⟩ := hp t List.mem_cons_self
    have hE' : ERel ρ (Env.put (Slot.of t) a env) (tmps.setIfInBounds t v) := by
      intro u hu
      by_cases e : u = t
      · subst e
        rw [Env.get_put_same]
        simp only [Array.getD_eq_getD_getElem?, Array.getElem?_setIfInBounds_self, p1, if_true, Option.getD_some]
        exact hv
      · rw [Env.get_put_ne _ _ _ _ (fun e' => e (Slot.of_inj hu p2 e'))]
        have hne : t ≠ u := fun e' => e e'.symm
        simp only [Array.getD_eq_getD_getElem?, Array.getElem?_setIfInBounds_ne hne]
        have := hE u hu
        simpa only [Array.getD_eq_getD_getElem?] using this
    have hh' : Hidden vis (Env.put (Slot.of t) a env) := by
      intro u hu hn
      rw [Env.get_put_ne]
      · exact hh u hu hn
      · intro e'
        have := Slot.of_inj hu p2 e'
        subst this
        exact hn p3
    obtain ⟨q1, q2, q3, q4⟩ := setParams_sound (vis := vis) (tmps := tmps.setIfInBounds t v) h ht hE' hh' (fun u hu => by simpa using hp u (List.mem_cons_of_mem _ hu))
    exact ⟨by simp [q1], q2, q3, by simpa using q4⟩

theorem round_sound {B : Ren → World → Prop} (hstab : Stable B) {code : Nat → IC → Run} (hcode : CodeOk P B code) : RoundOk P B (roundA code) := by
  intro rec hrec l args H v H' h ρ w loc vs hl hvs hH hB
  unfold roundA at h
  split at h
  · rename_i pd env ps as bd fn df hg
    split at h
    · cases h
    · rename_i env' hsp
      obtain ⟨lp, a1, a2, a3, a4, a5, a6, a7, a8, a9, a10, a11, a12, loc', a13, a14⟩ := loop_at hH hl hg
      subst a7
      obtain ⟨b1, b2, b3, b4⟩ := setParams_sound hsp hvs a5 a6 (fun t ht => ⟨Nat.lt_of_lt_of_le (a8 t ht).1 a9, Nat.lt_of_lt_of_le (a8 t ht).1 a10, (a8 t ht).2⟩)
      have hfold : (lp.params.zip vs).foldl (fun tmps (t, a) => tmps.setIfInBounds t a) lp.tmps = (lp.params.toList.zip vs.toList).foldl (fun tmps (t, a) => tmps.setIfInBounds t a) lp.tmps := by
        rw [← Array.foldl_toList, Array.toList_zip]
      refine ⟨_, _, _, _, run_yield a1 (by simpa using b1.symm), ?_⟩
      rw [hfold]
      intro c cs
      -- the assignment
      split at h
      · rename_i e1 H1 k1 hr1
        have hF0 : FOk P ρ fn ⟨[], some l⟩ env' (Frame.round loc.blk lp.fn ((lp.params.toList.zip vs.toList).foldl (fun tmps (t, a) => tmps.setIfInBounds t a) lp.tmps) lp.assign lp.body .normal) :=
          ⟨a4, by rw [← b4] at a9; exact a9, b2, b3, ⟨.nil, loc, hl, rfl⟩, rfl⟩
        obtain ⟨ρ1, w1, fr1, s1, s2, s3, s4, s5, s6, s7⟩ := hcode fn lp.assign as a10 a11 rec hrec _ _ _ _ _ _ _ hr1 ρ w _ (c :: cs) [.beginRound, .code lp.body] hF0 hH hB (kind_normal _) rfl
        split at h
        · rename_i pd1 env1 ps1 as1 bd1 fn1 df1 hg1
          have hl1 := s7.le _ _ hl
          obtain ⟨lp1, c1, c2, c3, c4, c5⟩ := loop_at s6 hl1 hg1
          have hro1 : fr1.roundOf = some loc.blk := s5
          have st1 := st_beginRound (P := P) (cs := c :: cs) s3.mode s2 hro1 (run_beginRound c1 c2)
          have hbz := loop_put s6 hl1 hg1 c1 .busy pd1
          have hw1 : (w1.putObj loc.blk (.loop { lp1 with state := .busy, pending := pd1.map jumpCode })) = w1.putObj loc.blk (.loop { lp1 with state := .busy }) := by rw [← c3]
          rw [hw1] at hbz
          split at h
          · rename_i o e2 H2 r2 hr2
            obtain ⟨ρ2, w2, fr2, t1, t2, t3, t4, t5, t6, t7⟩ := hcode fn lp.body bd a10 a12 rec hrec _ _ _ _ _ _ _ hr2 ρ1 _ { fr1 with todo := [.code lp.body] } (c :: cs) [] (s3.todo _) hbz.1 (hstab (hstab hB s7) hbz.2) (by rw [show ({ fr1 with todo := [.code lp.body] } : Frame).kind = fr1.kind from rfl, s4]; exact kind_normal _) rfl
            have hl2 := t7.le _ _ hl1
            have hro2 : fr2.roundOf = some loc.blk := t5.trans hro1
            have hk2 : fr2.kind = .normal := t4.trans s4
            have hgr : Grow ρ ρ2 H H2 w w2 := Grow.trans hH.old (Grow.trans hH.old s7 hbz.2) t7
            split at h
            · rename_i st2 pd2 env2 ps2 as2 bd2 fn2 df2 hg2
              obtain ⟨lp2, d1, d2, d3, d4, d5⟩ := loop_at t6 hl2 hg2
              split at h
              · cases h
                obtain ⟨f1, f2⟩ := loop_put t6 hl2 hg2 d1 .ready none
                have := st_leave (P := P) (c := c) (cs := cs) (K := []) t3.mode hro2 hk2 (run_endRound none d1) (.inl ⟨rfl, t2⟩)
                exact ⟨ρ2, _, _, Steps.trans s1 (.head st1 (Steps.trans t1 (.one this))), .b true, f1, Grow.trans hH.old hgr f2⟩
              · cases h
                obtain ⟨f1, f2⟩ := loop_put t6 hl2 hg2 d1 .done (some .ret)
                obtain ⟨K2, hK2⟩ := t2
                have := st_leave (P := P) (c := c) (cs := cs) (K := K2) t3.mode hro2 hk2 (run_endRound (some .ret) d1) (.inr (.inl ⟨rfl, hK2⟩))
                exact ⟨ρ2, _, _, Steps.trans s1 (.head st1 (Steps.trans t1 (.one this))), .b false, f1, Grow.trans hH.old hgr f2⟩
              · rename_i id
                cases h
                obtain ⟨f1, f2⟩ := loop_put t6 hl2 hg2 d1 .done (some (.exit id))
                obtain ⟨K2, hK2, hx⟩ := t2
                have := st_leave (P := P) (c := c) (cs := cs) (K := K2) t3.mode hro2 hk2 (run_endRound (some (.exit id)) d1) (.inr (.inr ⟨id, rfl, hK2, hx⟩))
                exact ⟨ρ2, _, _, Steps.trans s1 (.head st1 (Steps.trans t1 (.one this))), .b false, f1, Grow.trans hH.old hgr f2⟩
            · cases h
          · cases h
        · cases h
      · cases h
  · cases h
end Go.AX
end

section
namespace Go.AX
variable {P : Program} {ρ ρ' : Ren} {w w' : World} {H H' : Heap}

theorem outer_sound {nt : Nat} (hnt : nt ≤ 512) {c : Operand} {g : Rf} (h : outer nt c = some g) {e : Env} {fr : Frame} (hE : ERel ρ e fr.tmps) : VRel ρ (opd g e []) (fr.eval c) := by
  rw [eval_evT]
  cases c with
  | tmp t =>
    simp only [outer] at h
    split at h
    · rename_i hb
      rw [Nat.blt_eq] at hb
      simp only [rfOf, Option.some.injEq] at h
      subst h
      exact hE t (Nat.lt_of_lt_of_le hb hnt)
    · cases h
  | const v =>
    simp only [outer, rfOf, Option.map_eq_some_iff] at h
    obtain ⟨a, ha, rfl⟩ := h
    exact toAV_sound ha
  | global g' =>
    simp only [outer, rfOf, Option.some.injEq] at h
    subst h
    exact .gl g'
  | func f =>
    simp only [outer, rfOf, Option.some.injEq] at h
    subst h
    exact .f f [] [] #[] #[] .nil .nil

/-- A block that is no cells gets a name. -/
theorem name_new (hH : HRel P ρ H w) {x : Obj} {ob : Go.Obj} (hok : ∀ ρ' : Ren, ρ.le ρ' → OOk P ρ' (H.new x) H.next ⟨w.heap.size, 0, 0, 0⟩ (w.alloc ob) x) :
    HRel P (ρ.set H.next ⟨w.heap.size, 0, 0, 0⟩) (H.new x) (w.alloc ob) ∧ Grow ρ (ρ.set H.next ⟨w.heap.size, 0, 0, 0⟩) H (H.new x) w (w.alloc ob) := by
  have hfr := hH.fresh
  have hsame : ∀ k, k < w.heap.size → (w.alloc ob).heap[k]? = w.heap[k]? := fun k hk => push_old _ _ hk
  exact ⟨(hH.new x hH.get_next).name hfr (Heap.get_new_same _ _) hsame (Nat.le_refl _) (hok _ (Ren.le_set hfr)), (Grow.newH hH x).name hfr (Nat.le_refl _) hsame (by rw [World.size_alloc]; omega) (Nat.le_refl _) ⟨rfl, rfl⟩⟩

theorem dfd_sound (hH : HRel P ρ H w) {k : Ctl} {H1 : Heap} {d : Id} {ds : List ADef} (h : dfdOf k H = some (H1, d, ds)) {defers : List Deferred} {rnd : Option Nat} (hk : CtlOk ρ k defers rnd) (fn : FuncId) (tmps : Array Value) (ps : Array Tmp) (as bd : Code) :
    ∃ ρ1 w1 mark locd, HRel P ρ1 H1 w1 ∧ Grow ρ ρ1 H H1 w w1 ∧ ρ1 d = some locd ∧ CtlOk ρ1 ⟨ds, k.rnd⟩ (mark ++ defers) rnd ∧
      (Instr.enterLoop fn tmps ps as bd rnd).run P w = .ok (w1.heap.size, mark) (w1.alloc (.loop { state := .ready, pending := none, fn, tmps, params := ps, assign := as, body := bd, defers := locd.blk })) := by
  unfold dfdOf at h
  split at h
  · rename_i ds0 l
    split at h
    · rename_i st pd env ps' as' bd' fn' df hg
      simp only [Option.some.injEq, Prod.mk.injEq] at h
      obtain ⟨rfl, rfl, rfl⟩ := h
      obtain ⟨loc, h1, h2⟩ := hk.r
      obtain ⟨lp, a1, _, _, _, _, _, _, _, _, _, _, _, loc', a13, a14⟩ := loop_at hH h1 hg
      refine ⟨ρ, w, [], loc', hH, Grow.refl _ _ _, a13, hk, ?_⟩
      rw [h2, run_enterLoop_inner a1, a14]
    · cases h
  · rename_i ds0
    simp only [Option.some.injEq, Prod.mk.injEq] at h
    obtain ⟨rfl, rfl, rfl⟩ := h
    have hr : rnd = none := hk.r
    obtain ⟨q1, q2⟩ := name_new hH (x := .dfd false) (ob := .deferred (some [])) (fun ρ' _ => World.alloc_heap_new w _)
    refine ⟨_, _, [{ target := .collected w.heap.size, args := #[] }], ⟨w.heap.size, 0, 0, 0⟩, q1, q2, Ren.set_same _ _, ⟨.cons _ _ _ _ (.coll _ _ (Ren.set_same _ _)) (hk.d.mono q2.le), hr⟩, ?_⟩
    rw [hr, run_enterLoop_outer, World.size_alloc]

theorem range_sound {B : Ren → World → Prop} (hstab : Stable B) {fn : FuncId} (hnt : ntOf P fn ≤ 512) {f : Operand} {ps : Array Tmp} {asc bdc : Code} {g : Rf} {as bd : IC} (hf : outer (ntOf P fn) f = some g) (ha : compCode P (ntOf P fn) (visOf P fn) asc = some as) (hb : compCode P (ntOf P fn) (visOf P fn) bdc = some bd)
    (hps : ∀ t ∈ ps.toList, t < ntOf P fn ∧ t ∈ visOf P fn) : RunOk P B fn (.rangeFunc f ps asc bdc) (fun rec k e H => rangeA rec (opd g e []) fn (ps.toList.map Slot.of) as bd k e H) := by
  intro rec hrec k e H o e' H' k' h ρ w fr cs K hF hH hB hkind ht
  simp only at h
  unfold rangeA at h
  have hv := outer_sound hnt hf hF.env
  generalize hy : opd g e [] = y at hv h
  generalize hz : fr.eval f = z at hv
  cases hv <;> try (cases h; done)
  rename_i fid first cap vs ws h1 h2
  simp only at h
  split at h
  · cases h
  · rename_i H1 d ds hd
    obtain ⟨ρ1, w1, mark, locd, a1, a2, a3, a4, a5⟩ := dfd_sound hH hd hF.ctl fr.fn fr.tmps ps asc bdc
    obtain ⟨b1, b2⟩ := name_new a1 (x := .loop .ready none e (ps.toList.map Slot.of) as bd fn d) (ob := .loop { state := .ready, pending := none, fn := fr.fn, tmps := fr.tmps, params := ps, assign := asc, body := bdc, defers := locd.blk }) (fun ρ' hle =>
      ⟨_, World.alloc_heap_new w1 _, rfl, rfl, hF.hfn, (hF.env.mono a2.le).mono hle, hF.hid, rfl, hps, hF.size, hnt, ha, hb, locd, hle _ _ a3, rfl⟩)
    split at h
    · rename_i rv H2 hcall
      have hl1 : ρ1.le (ρ1.set H1.next ⟨w1.heap.size, 0, 0, 0⟩) := b2.le
      have hargs : VRels (ρ1.set H1.next ⟨w1.heap.size, 0, 0, 0⟩) (app first (.yl H1.next :: cap)) (vs ++ #[Value.func (.yield w1.heap.size) #[] #[]] ++ ws).toList := by
        rw [app_eq, Array.toList_append, Array.toList_append, List.append_assoc]
        exact ((h1.mono a2.le).mono hl1).append (.cons _ _ _ _ (.yl H1.next ⟨w1.heap.size, 0, 0, 0⟩ (Ren.set_same _ _)) ((h2.mono a2.le).mono hl1))
      obtain ⟨q1, q2⟩ := hrec _ _ _ _ _ hcall _ _ _ hargs b1 (hstab (hstab hB a2) b2)
      have hst := st_range (cs := cs) hF.mode ht a5 hz (q1 _)
      obtain ⟨ρ3, w3, v3, s1, s2, s3, s4⟩ := q2 { fr with todo := .inRangeFunc w1.heap.size :: K, defers := mark ++ fr.defers } cs
      have hfin : ({ fr with todo := .inRangeFunc w1.heap.size :: K, defers := mark ++ fr.defers } : Frame).finish v3 = { fr with todo := .endRangeFunc w1.heap.size :: K, defers := mark ++ fr.defers } := by simp [Frame.finish]
      rw [hfin] at s1
      split at h
      · rename_i st pd env1 ps1 as1 bd1 fn1 df1 hg
        have hl3 := s4.le _ _ (Ren.set_same H1.next ⟨w1.heap.size, 0, 0, 0⟩)
        obtain ⟨lp, c1, c2, c3, c4, c5⟩ := loop_at s3 hl3 hg
        have hgo : ∀ (hb : st ≠ .busy) (pd' : Option Jump) (o' : Out), pd = pd' → (∀ todo, todo = (pd'.map fun j => Item.code (jumpCode j)).toList ++ K → At o' K todo) →
            Post P fn o' e (H2.put H1.next (.loop .exhausted pd env1 ps1 as1 bd1 fn1 df1)) ⟨ds, k.rnd⟩ ρ H w fr cs K := by
          intro hb pd' o' hpd hat
          have hend := st_endRange (P := P) (cs := cs) (fr := { fr with todo := .endRangeFunc w1.heap.size :: K, defers := mark ++ fr.defers }) hF.mode rfl (run_endLoop c1 (by rw [c2]; exact hb))
          obtain ⟨f1, f2⟩ := loop_put s3 hl3 hg c1 .exhausted pd
          have hw1 : (w3.putObj w1.heap.size (.loop { lp with state := .exhausted, pending := pd.map jumpCode })) = w3.putObj w1.heap.size (.loop { lp with state := .exhausted }) := by rw [← c3]
          rw [hw1] at f1 f2
          have hle : ρ.le ρ3 := Ren.le_trans a2.le (Ren.le_trans hl1 s4.le)
          refine ⟨ρ3, _, _, .head hst (Steps.trans s1 (.one hend)), ?_, ⟨hF.hfn, hF.size, hF.env.mono hle, hF.hid, ?_, hF.mode⟩, rfl, rfl, f1, ?_⟩
          · apply hat
            rw [c3, hpd]
            cases pd' <;> rfl
          · exact ⟨(a4.d.mono hl1).mono s4.le, hF.ctl.r.mono hle⟩
          · exact Grow.trans hH.old (Grow.trans hH.old (Grow.trans hH.old a2 b2) s4) f2
        split at h
        · cases h
        · rename_i hb
          have hb : st ≠ .busy := fun e => hb e
          obtain ⟨kd, kr⟩ := k
          simp only at h
          split at h
          · cases h
            exact hgo hb none .norm rfl (fun todo ht => ht)
          · cases h
            exact hgo hb (some .ret) .ret rfl (fun todo ht => ⟨K, ht⟩)
          · rename_i id
            cases h
            exact hgo hb (some (.exit id)) (.exit id) rfl (fun todo ht => ⟨K, ht, rfl⟩)
      · cases h
    · cases h

theorem loop_sound {B : Ren → World → Prop} (hstab : Stable B) {fn : FuncId} {a : Code} {body : Run} (hb : RunOk P B fn a body) : ∀ (m : Nat) (rec : Rec), RecOk P B rec → ∀ k e H o e' H' k', loopA body rec m k e H = .ok o e' H' k' → ∀ ρ w fr cs K, FOk P ρ fn k e fr → HRel P ρ H w → B ρ w → KindOk fr.kind cs → fr.todo = .code a :: .inLoop a :: K → Post P fn o e' H' k' ρ H w fr cs K
  | 0, rec, hrec, k, e, H, o, e', H', k', h, ρ, w, fr, cs, K, hF, hH, hB, hkind, ht => by cases h
  | m + 1, rec, hrec, k, e, H, o, e', H', k', h, ρ, w, fr, cs, K, hF, hH, hB, hkind, ht => by
    change (match body rec k e H with | .ok .norm e' H' k' => loopA body rec m k' e' H' | r => r) = .ok o e' H' k' at h
    split at h
    · rename_i e1 H1 k1 hr
      obtain ⟨ρ1, w1, fr1, s1, s2, s3, s4, s5, s6, s7⟩ := hb rec hrec _ _ _ _ _ _ _ hr ρ w fr cs (.inLoop a :: K) hF hH hB hkind ht
      have hst := st_inLoop (P := P) (cs := cs) (w := w1) s3.mode s2
      obtain ⟨ρ2, w2, fr2, t1, t2, t3, t4, t5, t6, t7⟩ := loop_sound hstab hb m rec hrec _ _ _ _ _ _ _ h ρ1 w1 { fr1 with todo := .code a :: .inLoop a :: K } cs K (s3.todo _) s6 (hstab hB s7) (by rw [show ({ fr1 with todo := .code a :: .inLoop a :: K } : Frame).kind = fr1.kind from rfl, s4]; exact hkind) rfl
      exact ⟨ρ2, w2, fr2, Steps.trans s1 (.head hst t1), t2, t3, t4.trans s4, t5.trans s5, t6, Grow.trans hH.old s7 t7⟩
    · rename_i hne
      obtain ⟨ρ1, w1, fr1, s1, s2, s3, s4, s5, s6, s7⟩ := hb rec hrec _ _ _ _ _ _ _ h ρ w fr cs (.inLoop a :: K) hF hH hB hkind ht
      refine ⟨ρ1, w1, fr1, s1, ?_, s3, s4, s5, s6, s7⟩
      cases o with
      | norm => exact absurd h (hne _ _ _)
      | exit id =>
        obtain ⟨K2, h1, h2⟩ := s2
        exact ⟨K2, h1, h2⟩
      | ret => exact s2

theorem exec_sound {B : Ren → World → Prop} (hstab : Stable B) (hext : ExtOk P) (hmix : P.follows .mixedOrders = true) {code : Nat → IC → Run} (hcode : CodeOk P B code) : CodeOk P B (exec code) := by
  intro fn c
  have hround := round_sound hstab hcode
  induction c with
  | skip =>
    intro ic hnt hc rec hrec k e H o e' H' k' h ρ w fr cs K hF hH hB hkind ht
    simp only [compCode, Option.some.injEq] at hc
    subst hc
    cases h
    exact ⟨ρ, w, _, .one (st_skip hF.mode ht), rfl, hF.todo _, rfl, rfl, hH, Grow.refl _ _ _⟩
  | region id ops draw =>
    intro ic hnt hc rec hrec k e H o e' H' k' h ρ w fr cs K hF hH hB hkind ht
    simp only [compCode, Option.some.injEq] at hc
    split at hc
    · rename_i r hr
      subst hc
      change runReg (roundA code) rec r k e H = _ at h
      obtain ⟨todo, mf, C⟩ := compReg_sound hr
      cases draw with
      | false =>
        exact Post.steps (st_region hF.mode ht) rfl rfl ⟨rfl, rfl, rfl⟩ (fun _ h => h) hH (region_exec hstab hext hround hrec hnt hr h (hF.todo _) hH hB hkind (lin_text C.reg) rfl)
      | true =>
        refine Post.steps (st_region_draw hF.mode ht) rfl rfl ⟨rfl, rfl, rfl⟩ (fun _ h => h) hH (region_exec hstab hext hround hrec hnt hr h (hF.todo _) (hH.heap_eq rfl) (hstab (H := H) (H' := H) hB (Grow.heap_eq rfl ⟨rfl, rfl⟩)) hkind ?_ rfl)
        rw [hmix]
        exact lin_schedule C.reg _
    · subst hc
      cases h
  | seq a b iha ihb =>
    intro ic hnt hc rec hrec k e H o e' H' k' h ρ w fr cs K hF hH hB hkind ht
    simp only [compCode] at hc
    split at hc
    · rename_i x y hx hy
      simp only [Option.some.injEq] at hc
      subst hc
      change (match exec code fn x rec k e H with | .ok .norm e' H' k' => exec code fn y rec k' e' H' | r => r) = .ok o e' H' k' at h
      refine Post.steps (st_seq hF.mode ht) rfl rfl ⟨rfl, rfl, rfl⟩ (fun _ h => h) hH ?_
      split at h
      · rename_i e1 H1 k1 hr
        obtain ⟨ρ1, w1, fr1, s1, s2, s3, s4, s5, s6, s7⟩ := iha x hnt hx rec hrec _ _ _ _ _ _ _ hr ρ w { fr with todo := .code a :: .code b :: K } cs (.code b :: K) (hF.todo _) hH hB hkind rfl
        obtain ⟨ρ2, w2, fr2, t1, t2, t3, t4, t5, t6, t7⟩ := ihb y hnt hy rec hrec _ _ _ _ _ _ _ h ρ1 w1 fr1 cs K s3 s6 (hstab hB s7) (by rw [s4]; exact hkind) s2
        exact ⟨ρ2, w2, fr2, Steps.trans s1 t1, t2, t3, t4.trans s4, t5.trans s5, t6, Grow.trans hH.old s7 t7⟩
      · rename_i hne
        obtain ⟨ρ1, w1, fr1, s1, s2, s3, s4, s5, s6, s7⟩ := iha x hnt hx rec hrec _ _ _ _ _ _ _ h ρ w { fr with todo := .code a :: .code b :: K } cs (.code b :: K) (hF.todo _) hH hB hkind rfl
        refine ⟨ρ1, w1, fr1, s1, ?_, s3, s4, s5, s6, s7⟩
        cases o with
        | norm => exact absurd h (hne _ _ _)
        | exit id =>
          obtain ⟨K2, h1, h2⟩ := s2
          exact ⟨K2, h1, h2⟩
        | ret => exact s2
    · cases hc
  | cond c a b iha ihb =>
    intro ic hnt hc rec hrec k e H o e' H' k' h ρ w fr cs K hF hH hB hkind ht
    simp only [compCode] at hc
    split at hc
    · rename_i g x y hg hx hy
      simp only [Option.some.injEq] at hc
      subst hc
      change (match opd g e [] with | .b true => exec code fn x rec k e H | .b false => exec code fn y rec k e H | _ => .fail) = .ok o e' H' k' at h
      have hv := outer_sound hnt hg hF.env
      split at h
      · rename_i hb
        rw [hb] at hv
        have hc : fr.eval c = .bool true := by
          generalize fr.eval c = z at hv
          cases hv
          rfl
        exact Post.steps (st_cond hF.mode ht hc) rfl rfl ⟨rfl, rfl, rfl⟩ (fun _ h => h) hH (iha x hnt hx rec hrec _ _ _ _ _ _ _ h ρ w _ cs K (hF.todo _) hH hB hkind rfl)
      · rename_i hb
        rw [hb] at hv
        have hc : fr.eval c = .bool false := by
          generalize fr.eval c = z at hv
          cases hv
          rfl
        exact Post.steps (st_cond hF.mode ht hc) rfl rfl ⟨rfl, rfl, rfl⟩ (fun _ h => h) hH (ihb y hnt hy rec hrec _ _ _ _ _ _ _ h ρ w _ cs K (hF.todo _) hH hB hkind rfl)
      · cases h
    · cases hc
  | block id a iha =>
    intro ic hnt hc rec hrec k e H o e' H' k' h ρ w fr cs K hF hH hB hkind ht
    simp only [compCode, Option.map_eq_some_iff] at hc
    obtain ⟨x, hx, rfl⟩ := hc
    change (match exec code fn x rec k e H with | .ok (.exit j) e' H' k' => (match Nat.beq j id with | true => R.ok .norm e' H' k' | false => R.ok (.exit j) e' H' k') | r => r) = .ok o e' H' k' at h
    refine Post.steps (st_block hF.mode ht) rfl rfl ⟨rfl, rfl, rfl⟩ (fun _ h => h) hH ?_
    split at h
    · rename_i j e1 H1 k1 hr
      obtain ⟨ρ1, w1, fr1, s1, s2, s3, s4, s5, s6, s7⟩ := iha x hnt hx rec hrec _ _ _ _ _ _ _ hr ρ w { fr with todo := .code a :: .inBlock id :: K } cs (.inBlock id :: K) (hF.todo _) hH hB hkind rfl
      obtain ⟨K2, h1, h2⟩ := s2
      split at h
      · rename_i hj
        have hj := Nat.eq_of_beq_eq_true hj
        cases h
        have hx' : exitTo j K2 = some K := by
          rw [h2, hj]
          simp [exitTo]
        exact ⟨ρ1, w1, _, Steps.trans s1 (.one (st_exit s3.mode h1 hx')), rfl, s3.todo _, s4, s5, s6, s7⟩
      · rename_i hj
        have hj := Nat.ne_of_beq_eq_false hj
        cases h
        refine ⟨ρ1, w1, fr1, s1, ⟨K2, h1, ?_⟩, s3, s4, s5, s6, s7⟩
        rw [h2]
        have : (id == j) = false := by
          rw [beq_eq_false_iff_ne]
          exact fun e => hj e.symm
        simp [exitTo, this]
    · rename_i hne
      obtain ⟨ρ1, w1, fr1, s1, s2, s3, s4, s5, s6, s7⟩ := iha x hnt hx rec hrec _ _ _ _ _ _ _ h ρ w { fr with todo := .code a :: .inBlock id :: K } cs (.inBlock id :: K) (hF.todo _) hH hB hkind rfl
      cases o with
      | norm =>
        exact ⟨ρ1, w1, _, Steps.trans s1 (.one (st_inBlock s3.mode s2)), rfl, s3.todo _, s4, s5, s6, s7⟩
      | exit j => exact absurd h (hne _ _ _ _)
      | ret => exact ⟨ρ1, w1, fr1, s1, s2, s3, s4, s5, s6, s7⟩
  | loop a iha =>
    intro ic hnt hc rec hrec k e H o e' H' k' h ρ w fr cs K hF hH hB hkind ht
    simp only [compCode, Option.map_eq_some_iff] at hc
    obtain ⟨x, hx, rfl⟩ := hc
    change loopA (exec code fn x) rec rounds k e H = _ at h
    exact Post.steps (st_loop hF.mode ht) rfl rfl ⟨rfl, rfl, rfl⟩ (fun _ h => h) hH (loop_sound hstab (iha x hnt hx) rounds rec hrec _ _ _ _ _ _ _ h ρ w _ cs K (hF.todo _) hH hB hkind rfl)
  | rangeFunc f ps as bd _ _ =>
    intro ic hnt hc
    simp only [compCode] at hc
    split at hc
    · rename_i g x y hg hx hy hps
      simp only [Option.some.injEq] at hc
      subst hc
      refine range_sound hstab hnt hg hx hy ?_
      intro t ht
      rw [List.all_eq_true] at hps
      have := hps t ht
      rw [Bool.and_eq_true, Nat.blt_eq] at this
      exact ⟨this.1, List.contains_iff_mem.1 this.2⟩
    · cases hc
  | exit id =>
    intro ic hnt hc rec hrec k e H o e' H' k' h ρ w fr cs K hF hH hB hkind ht
    simp only [compCode, Option.some.injEq] at hc
    subst hc
    cases h
    exact ⟨ρ, w, fr, Steps.refl _ _, ⟨K, ht, rfl⟩, hF, rfl, rfl, hH, Grow.refl _ _ _⟩
  | ret =>
    intro ic hnt hc rec hrec k e H o e' H' k' h ρ w fr cs K hF hH hB hkind ht
    simp only [compCode, Option.some.injEq] at hc
    subst hc
    cases h
    exact ⟨ρ, w, fr, Steps.refl _ _, ⟨K, ht⟩, hF, rfl, rfl, hH, Grow.refl _ _ _⟩
  | scope a _ =>
    intro ic hnt hc rec hrec k e H o e' H' k' h
    simp only [compCode, Option.some.injEq] at hc
    subst hc
    cases h
  | label l =>
    intro ic hnt hc rec hrec k e H o e' H' k' h
    simp only [compCode, Option.some.injEq] at hc
    subst hc
    cases h
  | goto l =>
    intro ic hnt hc rec hrec k e H o e' H' k' h
    simp only [compCode, Option.some.injEq] at hc
    subst hc
    cases h
  | refuse s =>
    intro ic hnt hc rec hrec k e H o e' H' k' h
    simp only [compCode, Option.some.injEq] at hc
    subst hc
    cases h
end Go.AX
end

section
namespace Go.AX
/-! ## Calls -/
variable {P : Program} {ρ ρ' : Ren} {w w' : World} {H H' : Heap}

def ResLt : ResultVar → Prop
  | .tmp t => t < 512
  | .cell t _ => t < 512
noncomputable def resRun (tmps : Array Value) : ResultVar → Sem Value
  | .tmp t => pure (tmps.getD t Go.undef)
  | .cell a t => do loadVar t (← asAddr (tmps.getD a Go.undef))

theorem result_sound (hH : HRel P ρ H w) {e : Env} {tmps : Array Value} (hE : ERel ρ e tmps) {r : ResultVar} {ir : IRes} (hc : compRes P r = some ir) (hlt : ResLt r) {v : AV} (h : resultA H e ir = some v) :
    ∃ v', (resRun tmps r).run P w = .ok v' w ∧ VRel ρ v v' := by
  cases r with
  | tmp t =>
    simp only [compRes, Option.some.injEq] at hc
    subst hc
    simp only [resultA, Option.some.injEq] at h
    subst h
    exact ⟨_, rfl, hE t hlt⟩
  | cell a t =>
    simp only [compRes] at hc
    split at hc
    · rename_i d k hu hs
      simp only [Option.some.injEq] at hc
      subst hc
      simp only [resultA] at h
      have hx := hE a hlt
      obtain ⟨v', f1, f2⟩ := load_sound hH hu hs h hx
      refine ⟨v', ?_, f2⟩
      rw [← f1]
      simp only [resRun]
      generalize tmps.getD a Go.undef = z at hx
      generalize Env.get (Slot.of a) e = y at hx h
      cases hx <;> first
        | (cases h; done)
        | rfl
    · cases hc

theorem results_list (hH : HRel P ρ H w) {e : Env} {tmps : Array Value} (hE : ERel ρ e tmps) : ∀ {rs : List ResultVar} {irs : List IRes} {vs : List AV}, compRess P rs = some irs → (∀ r ∈ rs, ResLt r) → resultsL H e irs = some vs →
    ∃ vals, (rs.mapM (resRun tmps)).run P w = .ok vals w ∧ VRels ρ vs vals
  | [], irs, vs, hc, _, h => by
    simp only [compRess, Option.some.injEq] at hc
    subst hc
    simp only [resultsL, Option.some.injEq] at h
    subst h
    exact ⟨[], rfl, .nil⟩
  | r :: rs, irs, vs, hc, hlt, h => by
    simp only [compRess] at hc
    split at hc
    · rename_i a b ha hb
      simp only [Option.some.injEq] at hc
      subst hc
      simp only [resultsL] at h
      split at h
      · rename_i v vs' hv hvs
        simp only [Option.some.injEq] at h
        subst h
        obtain ⟨v', f1, f2⟩ := result_sound hH hE ha (hlt r List.mem_cons_self) hv
        obtain ⟨vals, g1, g2⟩ := results_list hH hE hb (fun r hr => hlt r (List.mem_cons_of_mem _ hr)) hvs
        refine ⟨v' :: vals, ?_, .cons _ _ _ _ f2 g2⟩
        rw [List.mapM_cons]
        simp only [Sem.run_bind, f1, Result.andThen_ok, g1, Sem.run_pure]
      · cases h
    · cases hc

theorem results_sound (hH : HRel P ρ H w) {e : Env} {tmps : Array Value} (hE : ERel ρ e tmps) {fn : Func} {irs : List IRes} {v : AV} (hc : compRess P fn.results.toList = some irs) (hlt : ∀ r ∈ fn.results.toList, ResLt r) (h : resultsA irs H e = some v) :
    ∃ v', (results fn tmps).run P w = .ok v' w ∧ VRel ρ v v' := by
  unfold resultsA at h
  have key : ∀ vs vals, (fn.results.toList.mapM (resRun tmps)).run P w = .ok vals w → VRels ρ vs vals → (results fn tmps).run P w = .ok (if h : vals.length = 1 then vals[0] else .tuple vals.toArray) w := by
    intro vs vals h1 h2
    have e0 : results fn tmps = (do
        let vs ← fn.results.mapM (resRun tmps)
        pure (if h : vs.size = 1 then vs[0] else .tuple vs)) := by
      unfold results
      congr 2
    have e2 : (fn.results.mapM (resRun tmps)).run P w = .ok vals.toArray w := by
      rw [Array.mapM_eq_mapM_toList]
      simp only [map_eq_pure_bind, Sem.run_bind, h1, Result.andThen_ok, Sem.run_pure]
    rw [e0, Sem.run_bind, e2]
    simp only [Result.andThen_ok, Sem.run_pure, List.size_toArray]
    congr 1
  split at h
  · rename_i v1 hv1
    simp only [Option.some.injEq] at h
    subst h
    obtain ⟨vals, f1, f2⟩ := results_list hH hE hc hlt hv1
    cases f2 with
    | cons _ u _ m hu hm =>
      cases hm
      exact ⟨u, key _ _ f1 (.cons _ _ _ _ hu .nil), hu⟩
  · rename_i vs hne hvs
    simp only [Option.some.injEq] at h
    subst h
    obtain ⟨vals, f1, f2⟩ := results_list hH hE hc hlt hvs
    refine ⟨_, key _ _ f1 f2, ?_⟩
    have hl := f2.length
    rw [dif_neg]
    · exact .tu vs vals.toArray (by simpa using f2)
    · intro h1
      rw [h1] at hl
      match vs, hl with
      | [v], _ => exact hne v rfl
  · cases h

/-- The deferred calls. -/
theorem unwind_sound {B : Ren → World → Prop} (hstab : Stable B) {rec : Rec} (hrec : DefOk P B rec) {rs : List IRes} {e : Env} {cs : List Frame} : ∀ (ds : List ADef) (H : Heap) (v : AV) (H' : Heap), unwindA rec rs e ds H = .ret v H' → ∀ (ρ : Ren) (w : World) (fr : Frame), HRel P ρ H w → B ρ w → DRels ρ ds fr.defers → fr.mode = .returning →
    ∃ ρ' w', Steps P (lone fr cs w) (lone { fr with defers := [] } cs w') ∧ HRel P ρ' H' w' ∧ Grow ρ ρ' H H' w w' ∧ resultsA rs H' e = some v
  | [], H, v, H', h, ρ, w, fr, hH, hB, hd, hm => by
    simp only [unwindA, retA] at h
    split at h
    · rename_i v' hv
      cases h
      have hfd : fr.defers = [] := by
        generalize fr.defers = l at hd
        cases hd
        rfl
      refine ⟨ρ, w, ?_, hH, Grow.refl _ _ _, hv⟩
      rw [← hfd]
      exact Steps.refl _ _
    · cases h
  | .coll id :: ds, H, v, H', h, ρ, w, fr, hH, hB, hd, hm => by
    simp only [unwindA] at h
    split at h
    · rename_i hg
      have hfd : ∃ loc l, ρ id = some loc ∧ fr.defers = { target := .collected loc.blk, args := #[] } :: l ∧ DRels ρ ds l := by
        generalize fr.defers = l at hd
        cases hd with
        | cons a d l m h1 h2 =>
          cases h1 with
          | coll id loc hl => exact ⟨loc, m, hl, rfl, h2⟩
      obtain ⟨loc, l, hl, hfd, hds⟩ := hfd
      obtain ⟨o, ho, hk⟩ := hH.ok id loc hl
      rw [hg] at ho
      cases ho
      have hblk : w.heap[loc.blk]? = some (.deferred (some [])) := hk
      have hst : step P (lone fr cs w) = .next (lone { fr with defers := l } cs (w.putObj loc.blk (.deferred none))) :=
        step_lone_go (by simp [stepG, unwind, hm, hfd, Sem.runT_eq, run_takeDeferred hblk])
      have hsame : ∀ k, k ≠ loc.blk → (w.putObj loc.blk (.deferred none)).heap[k]? = w.heap[k]? := fun k hk => World.putObj_heap_other hk
      have hH1 := hH.put1 (x := .dfd true) hl (hH.solo hl hg (fun _ _ _ _ _ _ e => by cases e)) (w' := w.putObj loc.blk (.deferred none)) (World.putObj_heap_same hk.lt) hsame
      have hG1 : Grow ρ ρ H (H.put id (.dfd true)) w (w.putObj loc.blk (.deferred none)) := Grow.put1 hl hsame World.putObj_size ⟨rfl, rfl⟩
      obtain ⟨ρ', w', q1, q2, q3, q4⟩ := unwind_sound hstab hrec ds _ v H' h ρ _ { fr with defers := l } hH1 (hstab hB hG1) hds hm
      exact ⟨ρ', w', .head hst q1, q2, Grow.trans hH.old hG1 q3, q4⟩
    · cases h
  | .call f args :: ds, H, v, H', h, ρ, w, fr, hH, hB, hd, hm => by
    simp only [unwindA] at h
    split at h
    · rename_i rv H1 hcall
      have hfd : ∃ vs cap l, VRels ρ args (vs ++ cap).toList ∧ fr.defers = { target := .fn (.func f) cap, args := vs } :: l ∧ DRels ρ ds l := by
        generalize fr.defers = l at hd
        cases hd with
        | cons a d l m h1 h2 =>
          cases h1 with
          | call f args vs cap hv => exact ⟨vs, cap, m, hv, rfl, h2⟩
      obtain ⟨vs, cap, l, hv, hfd, hds⟩ := hfd
      obtain ⟨q1, q3⟩ := hrec f args H rv H1 hcall ρ w (vs ++ cap) hv hH hB
      have hst := step_defer (P := P) (cs := cs) (w := w) (fr := fr) (by rw [hm]; exact fun e => by cases e) hfd rfl (q1 w)
      obtain ⟨ρ1, w1, s1, s2, s3⟩ := q3 { fr with defers := l } cs hm
      obtain ⟨ρ', w', t1, t2, t3, t4⟩ := unwind_sound hstab hrec ds _ v H' h ρ1 w1 { fr with defers := l } s2 (hstab hB s3) (hds.mono s3.le) hm
      exact ⟨ρ', w', .head hst (Steps.trans s1 t1), t2, Grow.trans hH.old s3 t3, t4⟩
    · cases h

theorem startEnv_get : ∀ (args : List AV) (i : Nat) (e : Env) (t : Nat), t < 512 → i + args.length ≤ 512 → Env.get (Slot.of t) (startEnv args i e) = if i ≤ t then (match args[t - i]? with | some a => a | none => Env.get (Slot.of t) e) else Env.get (Slot.of t) e
  | [], i, e, t, ht, hi => by
    simp only [startEnv]
    split <;> simp
  | a :: l, i, e, t, ht, hi => by
    simp only [startEnv, List.length_cons] at hi ⊢
    rw [startEnv_get l (i + 1) _ t ht (by omega)]
    by_cases h1 : t = i
    · subst h1
      rw [if_neg (by omega), if_pos (Nat.le_refl _), Env.get_put_same]
      simp
    · have hne : Slot.of t ≠ Slot.of i := fun e' => h1 (Slot.of_inj ht (by omega) e')
      rw [Env.get_put_ne _ _ _ _ hne]
      by_cases h2 : i + 1 ≤ t
      · rw [if_pos h2, if_pos (by omega)]
        have : t - i = (t - (i + 1)) + 1 := by omega
        rw [this, List.getElem?_cons_succ]
      · rw [if_neg h2, if_neg (by omega)]

theorem start_get (t : Nat) : Env.get (Slot.of t) Env.start = .un := by
  unfold Slot.of Env.start
  cases Nat.ble 256 t <;> cases I16.nat (t / 16 % 16) <;> cases I16.nat (t % 16) <;> rfl

structure Comp (P : Program) (f : Nat) (fn : Func) (c : Code) (F : IFn) : Prop where
  fun_ : P.funcs[f]? = some fn
  b : fn.body = some c
  x : compCode P (ntOf P f) (visOf P f) c = some F.code
  r : compRess P fn.results.toList = some F.res
  nt : ntOf P f = fn.ntmps
  vis : visOf P f = visible fn c
  k1 : fn.ntmps ≤ 512
  k2 : fn.params.size + fn.nfree ≤ fn.ntmps
  k3 : ∀ r ∈ fn.results.toList, ResLt r
  k4 : fn.name ≠ "runtime.NumGoroutine"
  np : F.np = fn.params.size + fn.nfree

theorem comp_ok {f : Nat} {fn : Func} (hf : P.funcs[f]? = some fn) {F : IFn} (hc : compFn P fn = some F) : ∃ c, Comp P f fn c F := by
  unfold compFn at hc
  split at hc
  · cases hc
  rename_i c hb
  split at hc
  · rename_i x rs hx hrs hck
    simp only [Option.some.injEq] at hc
    subst hc
    simp only [Bool.and_eq_true, Nat.ble_eq, List.all_eq_true, bne_iff_ne, ne_eq] at hck
    obtain ⟨⟨⟨hk1, hk2⟩, hk3⟩, hk4⟩ := hck
    have hnt : ntOf P f = fn.ntmps := by simp [ntOf, hf]
    have hvis : visOf P f = visible fn c := by simp [visOf, hf, hb]
    refine ⟨c, hf, hb, by rw [hnt, hvis]; exact hx, hrs, hnt, hvis, hk1, hk2, ?_, hk4, rfl⟩
    intro r hr
    cases r with
    | tmp t => exact Nat.lt_of_lt_of_le (Nat.blt_eq.mp (hk3 _ hr)) hk1
    | cell t _ => exact Nat.lt_of_lt_of_le (Nat.blt_eq.mp (hk3 _ hr)) hk1
  · cases hc

theorem Comp.enters {f : Nat} {fn : Func} {c : Code} {F : IFn} (C : Comp P f fn c F) (vs : Array Value) (w : World) : (callFunc f vs).run P w = .ok (.enter f vs) w := by
  have hf := C.fun_
  have hb := C.b
  have hk4 := C.k4
  simp only [callFunc, program, Sem.run_bind]
  show Result.andThen (Result.ok P w) _ = _
  simp only [Result.andThen_ok, hf]
  rw [if_neg (by simpa using hk4), if_neg (by simp [hb])]
  rfl

/-- A function's code, up to its return. -/
theorem code_run {B : Ren → World → Prop} (hstab : Stable B) (hext : ExtOk P) (hmix : P.follows .mixedOrders = true) {rec : Rec} (hrec : RecOk P B rec) {f : Nat} {fn : Func} {c : Code} {F : IFn} (C : Comp P f fn c F) {args : List AV} (hnp : Nat.beq (len args) F.np = true) {o : Out} {e : Env} {H1 : Heap} {k : Ctl} (hex : exec code1 f F.code rec ⟨[], none⟩ (startEnv args 0 Env.start) H = .ok o e H1 k) (ho : o = .norm ∨ o = .ret)
    {vs : Array Value} (hv : VRels ρ args vs.toList) (hH : HRel P ρ H w) (hB : B ρ w) (kind : CallKind) (cs : List Frame) (hkind : KindOk kind cs) :
    ∃ ρ' w' fr, Steps P (lone (Frame.enter P f vs kind) cs w) (lone fr cs w') ∧ fr.kind = kind ∧ fr.mode = .returning ∧ fr.fn = f ∧ DRels ρ' k.defs fr.defers ∧ ERel ρ' e fr.tmps ∧ HRel P ρ' H1 w' ∧ Grow ρ ρ' H H1 w w' := by
  have hnp := Nat.eq_of_beq_eq_true hnp
  rw [len_eq, C.np] at hnp
  have hk1 := C.k1
  have hk2 := C.k2
  have hvl : vs.size = args.length := by
    have := hv.length
    rw [this]
    exact Array.length_toList.symm
  have henter : Frame.enter P f vs kind = { fn := f, tmps := vs ++ Array.replicate (fn.ntmps - vs.size) Go.undef, todo := [.code c], defers := [], mode := .run, kind } := by
    simp [Frame.enter, C.fun_, C.b]
  have hE : ERel ρ (startEnv args 0 Env.start) (vs ++ Array.replicate (fn.ntmps - vs.size) Go.undef) := by
    intro t ht
    rw [startEnv_get args 0 Env.start t ht (by omega), if_pos (Nat.zero_le _), Nat.sub_zero]
    cases ha : args[t]? with
    | none => rw [start_get]; exact .un _
    | some a =>
      obtain ⟨u, hu, hr⟩ := hv.get ha
      rw [Array.getElem?_toList] at hu
      have hlt : t < vs.size := (Array.getElem?_eq_some_iff.1 hu).1
      simp only [Array.getD_eq_getD_getElem?]
      rw [Array.getElem?_append_left hlt, hu]
      exact hr
  have hhid : Hidden (visOf P f) (startEnv args 0 Env.start) := by
    intro t ht hn
    rw [startEnv_get args 0 Env.start t ht (by omega), if_pos (Nat.zero_le _), Nat.sub_zero]
    cases ha : args[t]? with
    | none => exact start_get t
    | some a =>
      exfalso
      have hlt : t < args.length := (List.getElem?_eq_some_iff.1 ha).1
      apply hn
      rw [C.vis]
      unfold visible
      simp only
      rw [List.mem_eraseDups]
      simp only [List.mem_append, List.mem_range]
      rw [← hnp]
      exact .inl (.inl (.inl hlt))
  have hF : FOk P ρ f ⟨[], none⟩ (startEnv args 0 Env.start) (Frame.enter P f vs kind) := by
    rw [henter]
    refine ⟨rfl, ?_, hE, hhid, ⟨.nil, rfl⟩, rfl⟩
    rw [C.nt]
    simp
    omega
  have hcode := exec_sound hstab hext hmix (exec_sound hstab hext hmix (code := code0) (fun _ _ _ _ _ rec _ k e H o e' H' k' h => by cases h))
  obtain ⟨ρ1, w1, fr1, s1, s2, s3, s4, s5, s6, s7⟩ := hcode f c F.code (by rw [C.nt]; exact hk1) C.x rec hrec _ _ _ _ _ _ _ hex ρ w (Frame.enter P f vs kind) cs [] hF hH hB (by rw [henter]; exact hkind) (by rw [henter])
  have hro : fr1.roundOf = none := by rw [s5, henter]
  have hkd : fr1.kind = kind := by rw [s4, henter]
  have hst : step P (lone fr1 cs w1) = .next (lone { fr1 with mode := .returning } cs w1) := by
    rcases ho with rfl | rfl
    · exact st_end s3.mode s2 hro
    · obtain ⟨K2, hK2⟩ := s2
      exact st_ret s3.mode hK2 hro
  exact ⟨ρ1, w1, _, Steps.trans s1 (.one hst), hkd, rfl, s3.hfn, s3.ctl.d, s3.env, s6, s7⟩

/-- A function's run, up to its return. -/
theorem body_run {B : Ren → World → Prop} (hstab : Stable B) (hext : ExtOk P) (hmix : P.follows .mixedOrders = true) {rec recD : Rec} (hrec : RecOk P B rec) (hrecD : DefOk P B recD) {f : Nat} {fn : Func} {c : Code} {F : IFn} (C : Comp P f fn c F) {args : List AV} {v : AV} (h : bodyA f F rec recD args H = .ret v H')
    {vs : Array Value} (hv : VRels ρ args vs.toList) (hH : HRel P ρ H w) (hB : B ρ w) (kind : CallKind) (cs : List Frame) (hkind : KindOk kind cs) :
    ∃ ρ' w' fr v', Steps P (lone (Frame.enter P f vs kind) cs w) (lone fr cs w') ∧ fr.kind = kind ∧ fr.mode = .returning ∧ fr.defers = [] ∧ fr.fn = f ∧ (results fn fr.tmps).run P w' = .ok v' w' ∧ VRel ρ' v v' ∧ HRel P ρ' H' w' ∧ Grow ρ ρ' H H' w w' := by
  unfold bodyA at h
  split at h
  · cases h
  rename_i hnp
  have fin : ∀ (o : Out) (e : Env) (H1 : Heap) (ds : List ADef) (rn : Option Id), exec code1 f F.code rec ⟨[], none⟩ (startEnv args 0 Env.start) H = .ok o e H1 ⟨ds, rn⟩ → (o = .norm ∨ o = .ret) → unwindA recD F.res e ds H1 = .ret v H' →
      ∃ ρ' w' fr v', Steps P (lone (Frame.enter P f vs kind) cs w) (lone fr cs w') ∧ fr.kind = kind ∧ fr.mode = .returning ∧ fr.defers = [] ∧ fr.fn = f ∧ (results fn fr.tmps).run P w' = .ok v' w' ∧ VRel ρ' v v' ∧ HRel P ρ' H' w' ∧ Grow ρ ρ' H H' w w' := by
    intro o e H1 ds rn hex ho hun
    obtain ⟨ρ1, w1, fr1, s1, s2, s3, s4, s5, s6, s7, s8⟩ := code_run hstab hext hmix hrec C hnp hex ho hv hH hB kind cs hkind
    obtain ⟨ρ2, w2, t1, t2, t3, t4⟩ := unwind_sound (cs := cs) hstab hrecD ds H1 v H' hun ρ1 w1 fr1 s7 (hstab hB s8) s5 s3
    obtain ⟨v', u1, u2⟩ := results_sound t2 (s6.mono t3.le) C.r C.k3 t4
    exact ⟨ρ2, w2, { fr1 with defers := [] }, v', Steps.trans s1 t1, s2, s3, rfl, s4, u1, u2, t2, Grow.trans hH.old s8 t3⟩
  split at h
  · rename_i e H1 ds rn hex
    exact fin .norm e H1 ds rn hex (.inl rfl) h
  · rename_i e H1 ds rn hex
    exact fin .ret e H1 ds rn hex (.inr rfl) h
  · cases h

theorem body_sound {B : Ren → World → Prop} (hstab : Stable B) (hext : ExtOk P) (hmix : P.follows .mixedOrders = true) {rec recD : Rec} (hrec : RecOk P B rec) (hrecD : DefOk P B recD) {f : Nat} {fn : Func} {c : Code} {F : IFn} (C : Comp P f fn c F) {args : List AV} {v : AV} (h : bodyA f F rec recD args H = .ret v H') : CallOk P B f args H v H' := by
  intro ρ w vs hv hH hB
  refine ⟨C.enters vs, ?_⟩
  intro c' cs
  obtain ⟨ρ', w', fr, v', s1, s2, s3, s4, s5, s6, s7, s8, s9⟩ := body_run hstab hext hmix hrec hrecD C h hv hH hB .normal (c' :: cs) (kind_normal _)
  have hl : fr.leaving P w' (.returned v') := ⟨s3, s4, s2, fn, by rw [s5]; exact C.fun_, s6⟩
  exact ⟨ρ', w', v', Steps.trans s1 (.one (step_leave_returned hl)), s7, s8, s9⟩

/-- The functions that are told. -/
def TabOk (P : Program) (tab : Nat → Option IFn) : Prop := ∀ f F, tab f = some F → ∃ fn, P.funcs[f]? = some fn ∧ compFn P fn = some F

theorem defA_sound {B : Ren → World → Prop} (hstab : Stable B) (hext : ExtOk P) (hmix : P.follows .mixedOrders = true) {tab : Nat → Option IFn} (htab : TabOk P tab) {rec : Rec} (hrec : RecOk P B rec) : DefOk P B (defA tab rec) := by
  intro f args H v H' h ρ w vs hv hH hB
  unfold defA at h
  split at h
  · rename_i F hF
    obtain ⟨fn, h1, h2⟩ := htab f F hF
    obtain ⟨c, C⟩ := comp_ok h1 h2
    refine ⟨C.enters vs, ?_⟩
    intro c' cs hm
    unfold bodyD at h
    split at h
    · cases h
    rename_i hnp
    have fin : ∀ (o : Out) (e : Env) (H1 : Heap) (rn : Option Id), exec code1 f F.code rec ⟨[], none⟩ (startEnv args 0 Env.start) H = .ok o e H1 ⟨[], rn⟩ → (o = .norm ∨ o = .ret) → retA F.res e H1 = .ret v H' →
        ∃ ρ' w', Steps P (lone (Frame.enter P f vs .deferred) (c' :: cs) w) (lone c' cs w') ∧ HRel P ρ' H' w' ∧ Grow ρ ρ' H H' w w' := by
      intro o e H1 rn hex ho hun
      obtain ⟨ρ1, w1, fr1, s1, s2, s3, s4, s5, s6, s7, s8⟩ := code_run hstab hext hmix hrec C hnp hex ho hv hH hB .deferred (c' :: cs) (kind_deferred hm cs)
      unfold retA at hun
      split at hun
      · rename_i v1 hv1
        cases hun
        obtain ⟨v', u1, u2⟩ := results_sound s7 s6 C.r C.k3 hv1
        have hd : fr1.defers = [] := by
          change DRels ρ1 [] fr1.defers at s5
          generalize fr1.defers = l at s5
          cases s5
          rfl
        have hg : fr1.going P w1 (.returned v') := ⟨s3, hd, fn, by rw [s4]; exact C.fun_, u1⟩
        have := step_going_returned (c := c') (cs := cs) s2 hg
        have hset : ({ c' with mode := settle c'.mode } : Frame) = c' := by
          rw [hm]
          show ({ c' with mode := .returning } : Frame) = c'
          rw [← hm]
        rw [hset] at this
        exact ⟨ρ1, w1, Steps.trans s1 (.one this), s7, s8⟩
      · cases hun
    split at h
    · rename_i e H1 rn hex
      exact fin .norm e H1 rn hex (.inl rfl) h
    · rename_i e H1 rn hex
      exact fin .ret e H1 rn hex (.inr rfl) h
    · cases h
  · cases h

/-- What is known otherwise of calls. -/
def SummOk (P : Program) (B : Ren → World → Prop) (summ : Nat → List AV → Heap → Option CR) : Prop := ∀ f args H v H', summ f args H = some (.ret v H') → CallOk P B f args H v H'

theorem callA_sound {B : Ren → World → Prop} (hstab : Stable B) (hext : ExtOk P) (hmix : P.follows .mixedOrders = true) {tab dtab : Nat → Option IFn} {summ : Nat → List AV → Heap → Option CR} (htab : TabOk P tab) (hdtab : TabOk P dtab) (hsumm : SummOk P B summ) : ∀ n, RecOk P B (callA tab dtab summ n)
  | 0, f, args, H, v, H', h => by cases h
  | n + 1, f, args, H, v, H', h => by
    change (match summ f args H with | some r => r | none => match tab f with | some F => bodyA f F (callA tab dtab summ n) (defA dtab (callA tab dtab summ n)) args H | none => .fail) = .ret v H' at h
    have ih := callA_sound hstab hext hmix htab hdtab hsumm n
    split at h
    · rename_i r hs
      subst h
      exact hsumm f args H v H' hs
    · split at h
      · rename_i F hF
        obtain ⟨fn, h1, h2⟩ := htab f F hF
        obtain ⟨c, C⟩ := comp_ok h1 h2
        exact body_sound hstab hext hmix ih (defA_sound hstab hext hmix hdtab ih) C h
      · cases h

/-- A told call, as the kit says calls. -/
theorem calls_told {B : Ren → World → Prop} (hstab : Stable B) (hext : ExtOk P) (hmix : P.follows .mixedOrders = true) {tab dtab : Nat → Option IFn} {summ : Nat → List AV → Heap → Option CR} (htab : TabOk P tab) (hdtab : TabOk P dtab) (hsumm : SummOk P B summ) {n f : Nat} {args : List AV} {v : AV} (hs : summ f args H = none) (h : callA tab dtab summ n f args H = .ret v H')
    {vs : Array Value} (hv : VRels ρ args vs.toList) (hH : HRel P ρ H w) (hB : B ρ w) : Calls P f vs w fun en w' => ∃ ρ' v', en = .returned v' ∧ VRel ρ' v v' ∧ HRel P ρ' H' w' ∧ Grow ρ ρ' H H' w w' := by
  intro cs
  cases n with
  | zero => cases h
  | succ n =>
    change (match summ f args H with | some r => r | none => match tab f with | some F => bodyA f F (callA tab dtab summ n) (defA dtab (callA tab dtab summ n)) args H | none => .fail) = .ret v H' at h
    rw [hs] at h
    simp only at h
    split at h
    · rename_i F hF
      obtain ⟨fn, h1, h2⟩ := htab f F hF
      obtain ⟨c, C⟩ := comp_ok h1 h2
      have ih := callA_sound hstab hext hmix htab hdtab hsumm n
      obtain ⟨ρ', w', fr, v', s1, s2, s3, s4, s5, s6, s7, s8, s9⟩ := body_run hstab hext hmix ih (defA_sound hstab hext hmix hdtab ih) C h hv hH hB .normal cs (kind_normal _)
      exact ⟨.returned v', w', fr, ⟨ρ', v', rfl, s7, s8, s9⟩, s1, s5, s3, s4, s2, fn, by rw [s5]; exact C.fun_, s6⟩
    · cases h
end Go.AX
end

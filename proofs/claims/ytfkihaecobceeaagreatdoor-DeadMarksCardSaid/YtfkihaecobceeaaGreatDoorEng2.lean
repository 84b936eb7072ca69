/- The relation between that heap and a world of the model, and each single step: what the executor does, the model does. -/
import Derived.Test.YtfkihaecobceeaaGreatDoorEng1
set_option autoImplicit false
set_option linter.all false
section
namespace Go.AX
/-! ## Operations that read the heap -/
variable {P : Program} {ρ : Ren} {w : World} {H : Heap}

theorem VRels.flat_get {l : List AV} (h : l.all AV.flat = true) {j : Nat} {a : AV} (hj : l[j]? = some a) : a.flat = true := by
  rw [List.all_eq_true] at h
  exact h a (List.mem_of_getElem? hj)

/-- What a block's record tells of the model's cells. -/
theorem record_sound (hH : HRel P ρ H w) {id : Id} {loc : Loc} (hl : ρ id = some loc) {ix sz : Nat} {cs : List AV} (h : H.record id ix = some (sz, cs)) :
    ∃ c e fz, w.heap[loc.blk]? = some (.cells c e fz) ∧ sz = loc.sz ∧ cs.length = sz ∧ cs.all AV.flat = true ∧ loc.base + ix * sz + sz ≤ c.size ∧
      ∀ j a, cs[j]? = some a → ∃ v, c[loc.base + ix * sz + j]? = some v ∧ VRel ρ a v := by
  obtain ⟨o, ho, hok⟩ := hH.ok id loc hl
  unfold Heap.record at h
  rw [ho] at h
  cases o with
  | one ty sz' cs' =>
    simp only at h
    split at h
    · rename_i _
      simp only [Option.some.injEq, Prod.mk.injEq] at h
      obtain ⟨rfl, rfl⟩ := h
      obtain ⟨h1, h2, h3, c, e, fz, h4, h5, h6, h7, h8, _⟩ := hok
      have hlen := h8.length
      simp only [Array.length_toList] at hlen
      refine ⟨c, e, fz, h4, h1.symm, by omega, h7, by omega, ?_⟩
      intro j a hj
      obtain ⟨v, hv, hr⟩ := h8.get hj
      refine ⟨v, ?_, hr⟩
      have e9 : loc.base + 0 * sz' + j = j := by omega
      rw [e9, ← Array.getElem?_toList]
      exact hv
    · cases h
  | arr ty sz' n d t lin =>
    simp only at h
    split at h
    · rename_i hb
      simp only [Option.some.injEq, Prod.mk.injEq] at h
      obtain ⟨rfl, rfl⟩ := h
      rw [Bool.and_eq_true, Nat.blt_eq] at hb
      obtain ⟨hix, hrd⟩ := hb
      obtain ⟨h1, h2, h3, _, c, e, fz, h4, h5, h6, h7, _⟩ := hok
      have hm : (ix + 1) * sz' ≤ n * sz' := Nat.mul_le_mul_right _ hix
      rw [Nat.succ_mul] at hm
      refine ⟨c, e, fz, h4, h1.symm, (h3 ix).1, (h3 ix).2, by omega, ?_⟩
      intro j a hj
      exact h7 ix hix hrd j a hj
    · cases h
  | lin _ _ _ => cases hok
  | map _ _ => cases h
  | loop _ _ _ _ _ _ _ _ => cases h
  | dfd _ => cases h
  | it _ _ _ _ => cases h

theorem cell_of {b o : Nat} {c : Array Value} {e : TypeId} {fz : Nat × Nat} (h : w.heap[b]? = some (.cells c e fz)) : w.cell? ⟨b, o, none⟩ = c[o]? := by
  simp [World.cell?, h]

theorem load_sound (hH : HRel P ρ H w) {t : TypeId} {d : TypeDesc} {k : Nat} {x v : AV} (hu : P.underlying t = some d) (hs : sz? P t = some k) (h : loadA (isAggD d) k H x = some v) {a : Value} (hx : VRel ρ x a) :
    ∃ v', (Instr.loadAt t a).run P w = .ok v' w ∧ VRel ρ v v' := by
  cases hx <;> try (cases h; done)
  rename_i id ix off loc hl
  simp only [loadA] at h
  split at h
  · rename_i sz cs hrec
    split at h
    · rename_i hle
      rw [Nat.ble_eq] at hle
      obtain ⟨c, e, fz, h1, h3, h4, h5, h6, h7⟩ := record_sound hH hl hrec
      subst h3
      simp only [Instr.loadAt, Instr.sureAddr, loadVar, Sem.run_bind, Sem.run_pure, Result.andThen_ok, run_isAgg' hu]
      cases hd : isAggD d with
      | true =>
        rw [hd] at h
        simp only [Option.some.injEq] at h
        subst h
        rw [takeN_eq, dropN_eq]
        have hex : ∀ j, j < k → ∃ v, c[loc.base + ix * loc.sz + (off + j)]? = some v ∧ VRel ρ (cs.getD (off + j) .un) v := by
          intro j hj
          have hj' : off + j < cs.length := by omega
          obtain ⟨v, hv, hr⟩ := h7 (off + j) _ (List.getElem?_eq_getElem hj')
          refine ⟨v, hv, ?_⟩
          simpa [List.getD, List.getElem?_eq_getElem hj'] using hr
        have hrun := run_loadCells (P := P) w ⟨loc.blk, loc.base + ix * loc.sz + off, none⟩ k (fun j => c.getD (loc.base + ix * loc.sz + (off + j)) Go.undef) (fun j hj => by
          obtain ⟨v, hv, _⟩ := hex j hj
          rw [addr_add, cell_of h1, Nat.add_assoc _ off j, hv]
          simp [Array.getD_eq_getD_getElem?, hv])
        refine ⟨_, by simp only [if_true, Sem.run_bind, run_sizeOf' hs, Result.andThen_ok, hrun, Sem.run_pure]; rfl, .ag _ _ (all_take _ (all_drop _ h5)) ?_⟩
        apply VRels.of_get
        · simp; omega
        · intro j a u ha hu'
          have hj : j < k := by
            have := (List.getElem?_eq_some_iff.1 ha).1
            simp at this
            omega
          rw [List.getElem?_take_of_lt hj, List.getElem?_drop] at ha
          obtain ⟨v, hv, hr⟩ := hex j hj
          simp only [List.getElem?_map, List.getElem?_range hj, Option.map_some, Option.some.injEq] at hu'
          subst hu'
          simpa [Array.getD_eq_getD_getElem?, hv, List.getD, ha] using hr
      | false =>
        rw [hd] at h
        simp only at h
        rw [nth_eq] at h
        obtain ⟨v', hv, hr⟩ := h7 off v h
        refine ⟨v', ?_, hr⟩
        simp only [Bool.false_eq_true, if_false, run_load, cell_of h1, hv]
    · cases h
  · cases h

theorem len_sound (hH : HRel P ρ H w) {tg : LenT} {x v : AV} {a : Value} (h : lenA tg H x = some v) (hx : VRel ρ x a) {args : Array TypeId} {t ty : TypeId} {u : TypeDesc} (ht : args[0]? = some t) (hu : P.underlying t = some u)
    (htg : match tg with | .s => u = .string | .sl => ∃ e, u = .slice e | .mp => ∃ k e, u = .map k e | .arr n => ∃ e, u = .array n e) :
    ∃ v', (Builtin.len_ args ty #[a]).run P w = .ok v' w ∧ VRel ρ v v' := by
  have e0 : (#[a] : Array Value)[0]? = some a := rfl
  unfold Builtin.len_
  simp only [ht, e0, Sem.run_bind, run_underlying hu, Result.andThen_ok]
  cases tg with
  | s =>
    simp only at htg
    subst htg
    cases hx <;> try (cases h; done)
    rename_i l s hs
    simp only [lenA, Option.some.injEq] at h
    subst h
    refine ⟨_, rfl, ?_⟩
    rw [len_eq, ← hs]
    have : (s.data.toList.map UInt8.toNat).length = s.size := by rw [List.length_map, Array.length_toList]; rfl
    rw [this]
    exact .i _ _
  | sl =>
    obtain ⟨e, rfl⟩ := htg
    cases hx <;> try (cases h; done)
    · simp only [lenA, Option.some.injEq] at h
      subst h
      exact ⟨_, rfl, .i _ _⟩
    · simp only [lenA, Option.some.injEq] at h
      subst h
      exact ⟨_, rfl, .i _ _⟩
  | mp =>
    obtain ⟨k, e, rfl⟩ := htg
    cases hx <;> try (cases h; done)
    · simp only [lenA, Option.some.injEq] at h
      subst h
      exact ⟨_, rfl, .i _ _⟩
    · rename_i id loc hl
      simp only [lenA] at h
      split at h
      · rename_i es ck hg
        simp only [Option.some.injEq] at h
        subst h
        obtain ⟨o, ho, hok⟩ := hH.ok id loc hl
        rw [hg] at ho
        simp only [Option.some.injEq] at ho
        subst ho
        obtain ⟨es', h1, h2, _, _⟩ := hok
        refine ⟨_, by simp only [Sem.run_bind, run_getObj_map (P := P) w loc.blk es' ck h1, Result.andThen_ok]; rfl, ?_⟩
        have := h2.length
        simp only [List.length_map, Array.length_toList] at this
        rw [len_eq, this]
        exact .i _ _
      · cases h
  | arr n =>
    obtain ⟨e, rfl⟩ := htg
    simp only [lenA, Option.some.injEq] at h
    subst h
    exact ⟨_, rfl, .i _ _⟩
end Go.AX
end

section
namespace Go.AX
/-! ## bytes to a string; a map's entry -/
variable {P : Program} {ρ : Ren} {w : World} {H : Heap}

theorem readable_down {id : Id} {lin : Option Id} {i j : Nat} (h : H.readable id j lin = true) (hij : i ≤ j) : H.readable id i lin = true := by
  unfold Heap.readable at h ⊢
  cases lin with
  | none => rfl
  | some l =>
    simp only at h ⊢
    split at h
    · simp only [Bool.or_eq_true] at h ⊢
      rcases h with h | h
      · exact Or.inl h
      · right
        split at h
        · rfl
        · rw [Nat.blt_eq] at h ⊢
          omega
    · cases h

theorem bytesAt_len {t : PT (List AV)} {d : List AV} : ∀ {n ix : Nat} {l : List Nat}, bytesAt t d n ix = some l → l.length = n ∧ ∀ (i : Nat) (c : Nat), l[i]? = some c → recAt t d (ix + i) = [.i .u8 (.ofNat c)] ∧ c < 256
  | 0, ix, l, h => by
    simp only [bytesAt, Option.some.injEq] at h
    subst h
    exact ⟨rfl, fun i c hc => by simp at hc⟩
  | n + 1, ix, l, h => by
    unfold bytesAt at h
    split at h
    · rename_i c hrec
      split at h
      · rename_i hlt
        split at h
        · rename_i l' hl'
          simp only [Option.some.injEq] at h
          subst h
          obtain ⟨h1, h2⟩ := bytesAt_len hl'
          refine ⟨by simp [h1], ?_⟩
          intro i c' hc'
          cases i with
          | zero =>
            simp only [List.getElem?_cons_zero, Option.some.injEq] at hc'
            subst hc'
            exact ⟨hrec, Nat.blt_eq.mp hlt⟩
          | succ i =>
            simp only [List.getElem?_cons_succ] at hc'
            have := h2 i c' hc'
            rwa [Nat.add_assoc, Nat.add_comm 1 i] at this
        · cases h
      · cases h
    · cases h

theorem fold_bytes : ∀ (l : List Nat) (s : ByteArray), (∀ c ∈ l, c < 256) →
    ((l.map Int.ofNat).foldl (fun r n => r.push (UInt8.ofNat n.toNat)) s).data.toList.map UInt8.toNat = s.data.toList.map UInt8.toNat ++ l
  | [], s, _ => by simp
  | c :: l, s, h => by
    simp only [List.map_cons, List.foldl_cons]
    rw [fold_bytes l _ fun x hx => h x (List.mem_cons_of_mem _ hx)]
    have hc := h c (List.mem_cons_self ..)
    have : (UInt8.ofNat (Int.ofNat c).toNat).toNat = c := by
      simp only [Int.ofNat_eq_natCast, Int.toNat_natCast, UInt8.toNat_ofNat']
      omega
    simp [ByteArray.push]
    exact hc

theorem bytesStr_sound (hH : HRel P ρ H w) {x v : AV} (h : bytesOfA H x = some v) {a : Value} (hx : VRel ρ x a) : ∃ v', (Conv.bytesToString a).run P w = .ok v' w ∧ VRel ρ v v' := by
  cases hx <;> try (cases h; done)
  · simp only [bytesOfA, Option.some.injEq] at h
    subst h
    exact ⟨.string .empty, rfl, .s _ _ rfl⟩
  · rename_i id st ln cap sz loc c hl hz hlc hc ht o ho
    simp only [bytesOfA] at h
    split at h
    · rename_i ty' n d t lin hg
      split at h
      · rename_i hb
        simp only [Option.map_eq_some_iff] at h
        obtain ⟨l, hbl, rfl⟩ := h
        rw [Bool.and_eq_true, Nat.ble_eq] at hb
        obtain ⟨hle, hrd⟩ := hb
        obtain ⟨hlen, hget⟩ := bytesAt_len hbl
        obtain ⟨ob, hob, hok⟩ := hH.ok id loc hl
        rw [hg] at hob
        simp only [Option.some.injEq] at hob
        subst hob
        obtain ⟨h1, h2, h3, _, cc, e, fz, h4, h5, h6, h7, _⟩ := hok
        have hcells : (loadCells ⟨loc.blk, o, none⟩ ln).run P w = .ok ((l.map Int.ofNat).map (Value.int .u8)).toArray w := by
          have := run_loadCells_list (P := P) w ⟨loc.blk, o, none⟩ ((l.map Int.ofNat).map (Value.int .u8)) (fun j u hu => by
            simp only [List.getElem?_map, Option.map_eq_some_iff] at hu
            obtain ⟨b, ⟨c', hc', rfl⟩, rfl⟩ := hu
            have hj : j < ln := by rw [← hlen]; exact (List.getElem?_eq_some_iff.1 hc').1
            obtain ⟨hr1, hr2⟩ := hget j c' hc'
            have hrd' : H.readable id (st + j) lin = true := by
              cases ln with
              | zero => omega
              | succ m => exact readable_down hrd (by omega)
            obtain ⟨v', hv1, hv2⟩ := h7 (st + j) (by omega) hrd' 0 (.i .u8 (.ofNat c')) (by rw [hr1]; rfl)
            rw [addr_add, cell_of h4, ho (by omega), h1]
            have e1 : loc.base + st * 1 + j = loc.base + (st + j) * 1 + 0 := by omega
            rw [e1, hv1]
            cases hv2
            rfl)
          rw [List.length_map, List.length_map, hlen] at this
          exact this
        refine ⟨_, run_bytesToString w _ ln c _ hcells, .s _ _ ?_⟩
        rw [fold_bytes l _ fun c hc => by
          obtain ⟨i, hi⟩ := List.getElem?_of_mem hc
          exact (hget i c hi).2]
        rfl
      · cases h
    · cases h

theorem sameNow_sound {kt : TypeId} {u : TypeDesc} {c : CT} (hu : P.underlying kt = some u) (hc : cellT P kt = some c) {x y : AV} {r : Bool} (h : cellEq c x y = some r) {a b : Value} (hx : VRel ρ x a) (hy : VRel ρ y b) :
    Instr.sameNow u a b = some r := by
  unfold cellT at hc
  rw [hu] at hc
  cases c with
  | i =>
    cases x <;> cases y <;> simp only [cellEq, reduceCtorEq] at h
    split at h
    · rename_i hk
      obtain rfl := kindEq_iff.1 hk
      simp only [Option.some.injEq] at h
      subst h
      cases hx; cases hy
      rw [intEq_eq]
      split at hc <;> simp only [Option.some.injEq, reduceCtorEq] at hc
      rename_i hu'
      simp only [Option.some.injEq] at hu'
      subst hu'
      simp [Instr.sameNow]
    · cases h
  | s =>
    cases x <;> cases y <;> simp only [cellEq, reduceCtorEq, Option.some.injEq] at h
    subst h
    cases hx with
    | s _ s hs =>
      cases hy with
      | s _ s' hs' =>
        split at hc <;> simp only [Option.some.injEq, reduceCtorEq] at hc
        rename_i hu'
        simp only [Option.some.injEq] at hu'
        subst hu'
        simp only [Instr.sameNow, Option.some.injEq]
        rw [beq_toListBytes, ByteArray.toList_eq, ByteArray.toList_eq, Bool.eq_iff_iff, natsEq_iff, ← hs, ← hs', natsOf_inj, beq_iff_eq]
  | b =>
    cases x <;> cases y <;> simp only [cellEq, reduceCtorEq, Option.some.injEq] at h
    rename_i m n
    subst h
    cases hx; cases hy
    split at hc <;> simp only [Option.some.injEq, reduceCtorEq] at hc
    rename_i hu'
    simp only [Option.some.injEq] at hu'
    subst hu'
    cases m <;> cases n <;> rfl

theorem findKey_sound {kt : TypeId} {u : TypeDesc} {c : CT} (hu : P.underlying kt = some u) (hc : cellT P kt = some c) {k : AV} {kv : Value} (hk : VRel ρ k kv) :
    ∀ {es : List (AV × AV × Nat)} {es' : List MapEntry} {r : Option AV} (i : Nat), findKeyA c k es = some r → VRels ρ (es.map fun x => x.1) (es'.map (·.key)) → VRels ρ (es.map fun x => x.2.1) (es'.map (·.val)) →
      ∃ r', Instr.findNow u kv es' i = some r' ∧ (match r, r' with | none, none => True | some v, some (_, v') => VRel ρ v v' | _, _ => False)
  | [], [], r, i, h, _, _ => by
    simp only [findKeyA, Option.some.injEq] at h
    subst h
    exact ⟨none, rfl, trivial⟩
  | [], _ :: _, _, _, _, h, _ => by cases h
  | _ :: _, [], _, _, _, h, _ => by cases h
  | (a, v, bn) :: es, x :: es', r, i, h, h1, h2 => by
    cases h1 with
    | cons _ _ _ _ ha h1' =>
    cases h2 with
    | cons _ _ _ _ hv h2' =>
      simp only [findKeyA] at h
      split at h
      · rename_i he
        simp only [Option.some.injEq] at h
        subst h
        have := sameNow_sound hu hc he hk ha
        exact ⟨some (i, x.val), by simp [Instr.findNow, this], hv⟩
      · rename_i he
        have := sameNow_sound hu hc he hk ha
        obtain ⟨r', f1, f2⟩ := findKey_sound hu hc hk (i + 1) h h1' h2'
        exact ⟨r', by simp [Instr.findNow, this, f1], f2⟩
      · cases h

theorem checkKey_ok {kt : TypeId} {u : TypeDesc} {c : CT} (hu : P.underlying kt = some u) (hc : cellT P kt = some c) (b : Bool) (v : Value) : (Instr.checkKey b 10000 kt v).run P w = .ok () w := by
  unfold cellT at hc
  rw [hu] at hc
  rw [show (10000 : Nat) = 9999 + 1 from rfl]
  unfold Instr.checkKey
  rw [Sem.run_bind, run_underlying hu, Result.andThen_ok]
  split at hc <;> first
    | (rename_i h; simp only [Option.some.injEq] at h; subst h; cases v <;> rfl)
    | cases hc

theorem lookup_sound (hH : HRel P ρ H w) {t kt el : TypeId} {c : CT} {z : AV} {ok : Bool} {m k v : AV} (hu : P.underlying t = some (.map kt el)) (hc : cellT P kt = some c) (hz : zeroV? P el = some z)
    (h : lookupA c z ok H m k = some v) {a b : Value} (hm : VRel ρ m a) (hk : VRel ρ k b) : ∃ v', (Instr.lookup t a b ok).run P w = .ok v' w ∧ VRel ρ v v' := by
  obtain ⟨zv, hzr, hzv⟩ := zeroV_sound (w := w) (ρ := ρ) hz
  have hku : ∃ u, P.underlying kt = some u := by
    unfold cellT at hc
    cases hk : P.underlying kt with
    | none => rw [hk] at hc; cases hc
    | some u => exact ⟨u, rfl⟩
  obtain ⟨u, hku⟩ := hku
  have fin : ∀ (r : Option AV) (r' : Option (Nat × Value)), (match r, r' with | none, none => True | some v, some (_, v') => VRel ρ v v' | _, _ => False) →
      ∃ v', (do let (v, ok') ← (match r' with | some (_, v) => (pure (v, true) : Sem (Value × Bool)) | none => do pure (← zeroValue el, false)); pure (if ok then .tuple #[v, .bool ok'] else v) : Sem Value).run P w = .ok v' w ∧ VRel ρ (orZero ok z r) v' := by
    intro r r' hr
    cases r with
    | none =>
      cases r' with
      | some _ => cases hr
      | none =>
        simp only [Sem.run_bind, hzr, Result.andThen_ok, Sem.run_pure]
        cases ok with
        | true => exact ⟨_, rfl, .tu _ _ (.cons _ _ _ _ hzv (.cons _ _ _ _ (.b _) .nil))⟩
        | false => exact ⟨_, rfl, hzv⟩
    | some v0 =>
      cases r' with
      | none => cases hr
      | some p =>
        obtain ⟨i, v0'⟩ := p
        simp only [Sem.run_bind, Result.andThen_ok, Sem.run_pure]
        cases ok with
        | true => exact ⟨_, rfl, .tu _ _ (.cons _ _ _ _ hr (.cons _ _ _ _ (.b _) .nil))⟩
        | false => exact ⟨_, rfl, hr⟩
  cases hm <;> try (cases h; done)
  · simp only [lookupA, Option.some.injEq] at h
    subst h
    obtain ⟨v', f1, f2⟩ := fin none none trivial
    refine ⟨v', ?_, f2⟩
    unfold Instr.lookup
    simp only [Sem.run_bind, run_underlying hu, Result.andThen_ok, Sem.run_pure, checkKey_ok hku hc, Instr.findKey, run_underlying hku, Instr.findNow]
    simpa only [Sem.run_bind, hzr, Result.andThen_ok, Sem.run_pure] using f1
  · rename_i id loc hl
    simp only [lookupA] at h
    split at h
    · rename_i es ck hg
      split at h
      · rename_i r hr
        simp only [Option.some.injEq] at h
        subst h
        obtain ⟨o, ho, hok⟩ := hH.ok id loc hl
        rw [hg] at ho
        simp only [Option.some.injEq] at ho
        subst ho
        obtain ⟨es', h1, h2, h3, _⟩ := hok
        obtain ⟨r', g1, g2⟩ := findKey_sound hku hc hk 0 hr h2 h3
        obtain ⟨v', f1, f2⟩ := fin r r' g2
        refine ⟨v', ?_, f2⟩
        unfold Instr.lookup
        simp only [Sem.run_bind, run_underlying hu, Result.andThen_ok, Sem.run_pure, run_getObj_map (P := P) w loc.blk es' ck h1, checkKey_ok hku hc, Instr.findKey, run_underlying hku, g1]
        cases r' with
        | none => simpa only [Sem.run_bind, hzr, Result.andThen_ok, Sem.run_pure] using f1
        | some p => simpa only [Sem.run_bind, hzr, Result.andThen_ok, Sem.run_pure] using f1
      · cases h
    · cases h
end Go.AX
end

section
namespace Go.AX
/-! ## What reads, joined -/
variable {P : Program} {ρ : Ren} {w : World} {H : Heap}

theorem entryAt_sound {b : Nat} : ∀ {es : List (AV × AV × Nat)} {es' : List MapEntry} {v : AV}, VRels ρ (es.map fun x => x.1) (es'.map (·.key)) → VRels ρ (es.map fun x => x.2.1) (es'.map (·.val)) → es.map (fun x => x.2.2) = es'.map (·.born) → entryAt b es = some v →
    ∃ e, es'.find? (fun e => e.born == b) = some e ∧ VRel ρ v (.tuple #[e.key, e.val])
  | [], _, _, _, _, _, h => by cases h
  | _ :: _, [], _, _, _, h3, _ => by simp at h3
  | (k, x, c) :: es, y :: es', v, h1, h2, h3, h => by
    cases h1 with
    | cons _ _ _ _ a1 b1 =>
    cases h2 with
    | cons _ _ _ _ a2 b2 =>
      simp only [List.map_cons, List.cons.injEq] at h3
      obtain ⟨h3, h4⟩ := h3
      simp only [entryAt] at h
      cases hb : Nat.beq c b with
      | true =>
        rw [hb] at h
        simp only [Option.some.injEq] at h
        subst h
        have : (y.born == b) = true := by rw [← h3, beq_iff_eq]; exact Nat.eq_of_beq_eq_true hb
        exact ⟨y, by simp [List.find?_cons, this], .tu _ _ (.cons _ _ _ _ a1 (.cons _ _ _ _ a2 .nil))⟩
      | false =>
        rw [hb] at h
        have : (y.born == b) = false := by
          rw [← h3]
          cases hq : (c == b) with
          | false => rfl
          | true => rw [beq_iff_eq] at hq; subst hq; simp at hb
        obtain ⟨e, f1, f2⟩ := entryAt_sound b1 b2 h4 h
        exact ⟨e, by simp [List.find?_cons, this, f1], f2⟩

theorem iter_addr {id : Id} {ix off : Nat} {a : Value} (h : VRel ρ (.p id ix off) a) (h0 : ix = 0) (h1 : off = 0) {loc : Loc} (hl : ρ id = some loc) (hb : loc.base = 0) : a = .pointer (some ⟨loc.blk, 0, none⟩) := by
  cases h with
  | p _ _ _ loc' h' =>
    rw [hl] at h'
    cases h'
    subst h0 h1
    simp [hb]

theorem name_of {id : Id} {ix off : Nat} {a : Value} (h : VRel ρ (.p id ix off) a) : ∃ loc, ρ id = some loc := by
  cases h with
  | p _ _ _ loc h' => exact ⟨loc, h'⟩

theorem entry_sound (hH : HRel P ρ H w) {x v : AV} (h : entryA H x = some v) {a : Value} (hx : VRel ρ x a) : ∃ v', (Instr.entry a).run P w = .ok v' w ∧ VRel ρ v v' := by
  unfold entryA at h
  split at h
  · rename_i id
    split at h
    · rename_i m since b seen last hg
      split at h
      · rename_i es clock hm
        split at h
        · rename_i hcl
          obtain rfl := Nat.eq_of_beq_eq_true hcl
          obtain ⟨loc, hl⟩ := name_of hx
          obtain ⟨o, ho, hok⟩ := hH.ok id loc hl
          rw [hg] at ho
          cases ho
          obtain ⟨h0, mo, seen', h1, h2, locm, h3, h4⟩ := hok
          subst h4
          obtain rfl := iter_addr hx rfl rfl hl h0
          obtain ⟨o, ho, hok⟩ := hH.ok m locm h3
          rw [hm] at ho
          cases ho
          obtain ⟨es', k1, k2, k3, k4⟩ := hok
          obtain ⟨e, f1, f2⟩ := entryAt_sound k2 k3 k4 h
          refine ⟨_, ?_, f2⟩
          have hback : seen'.back? = some b := by
            have : seen'.toList = seen.reverse ++ [b] := by
              have := congrArg List.reverse h2
              simpa using this
            rw [← Array.getLast?_toList, this]
            simp
          have hf : es'.find? (fun e => e.born == b) = some e := by rw [← Array.find?_toList]; exact f1
          simp only [Instr.entry, getObj, Sem.run_bind, Sem.run, h1, k1, Result.andThen, hback, bne_self_eq_false, Bool.false_eq_true, if_false, hf]
          rfl
        · cases h
      · cases h
    · cases h
  · cases h

theorem evalH_sound (hH : HRel P ρ H w) {o : Oper} {c : IOp} {ρf : Operand → Option Rf} {ev : Operand → Value} {e : Env} {L : List AV} {v : AV} (hc : comp P ρf o.op = some c) (hk : c.kd = .h) (h : evalH c e L H = some v)
    (hr : ∀ x ∈ o.op.operands.toList, ∀ r, ρf x = some r → VRel ρ (opd r e L) (ev x)) : ∃ v', (execOp ev o).run P w = .ok (.value v') w ∧ VRel ρ v v' := by
  obtain ⟨dst, op, ty, pos, aft, g⟩ := o
  simp only at hc hr
  cases op <;> simp only [comp, reduceCtorEq] at hc
  case load t a =>
    split at hc
    · rename_i d k r hu hs hr'
      simp only [Option.some.injEq] at hc
      subst hc
      simp only [evalH] at h
      obtain ⟨v', f1, f2⟩ := load_sound hH hu hs h (hr a (by simp [Op.operands]) _ hr')
      exact ⟨v', val_of f1, f2⟩
    · cases hc
  case lookup t m k ok =>
    split at hc
    · rename_i kt el r s hu h1 h2
      split at hc
      · rename_i c' z hc' hz
        simp only [Option.some.injEq] at hc
        subst hc
        simp only [evalH] at h
        obtain ⟨v', f1, f2⟩ := lookup_sound hH hu hc' hz h (hr m (by simp [Op.operands]) _ h1) (hr k (by simp [Op.operands]) _ h2)
        exact ⟨v', val_of f1, f2⟩
      · cases hc
    · cases hc
  case entry x =>
    simp only [Option.map_eq_some_iff] at hc
    obtain ⟨r, h1, rfl⟩ := hc
    simp only [evalH] at h
    obtain ⟨v', f1, f2⟩ := entry_sound hH h (hr x (by simp [Op.operands]) _ h1)
    exact ⟨v', val_of f1, f2⟩
  case convert src dst' x =>
    split at hc
    · simp only [Option.some.injEq] at hc; subst hc; cases hk
    · simp only [Option.some.injEq] at hc; subst hc; cases hk
    · split at hc
      · simp only [Option.some.injEq] at hc; subst hc; cases hk
      · cases hc
    · rename_i el r h1 h2 h3
      split at hc
      · rename_i hel
        simp only [Option.some.injEq] at hc
        subst hc
        simp only [evalH] at h
        have hx := hr x (by simp [Op.operands]) _ h3
        obtain ⟨v', f1, f2⟩ := bytesStr_sound (P := P) hH h hx
        refine ⟨v', val_of ?_, f2⟩
        unfold convert
        generalize ev x = a at hx f1 ⊢
        generalize opd r e L = y at hx h
        cases hx <;> first
          | (cases h; done)
          | (simp only [Sem.run_bind, run_underlying h1, run_underlying h2, run_underlying hel, Result.andThen_ok]; exact f1)
      · cases hc
    · cases hc
  case call cl =>
    have hargs : ∀ y ∈ cl.args.toList, ∀ r, ρf y = some r → VRel ρ (opd r e L) (ev y) := by
      intro y hy r hr'
      refine hr y ?_ r hr'
      simp only [Op.operands, Call.operands, Array.toList_append, List.mem_append]
      exact Or.inr hy
    split at hc
    · rename_i hcal
      split at hc
      · rename_i t x ht hx
        have hxm : x ∈ cl.args.toList := by rw [Array.getElem?_eq_some_iff] at hx; obtain ⟨hi, rfl⟩ := hx; simp
        have key : ∀ (tg : LenT) (r : Rf) (u : TypeDesc), ρf x = some r → P.underlying t = some u → lenA tg H (opd r e L) = some v →
            (match tg with | .s => u = .string | .sl => ∃ e, u = .slice e | .mp => ∃ k e, u = .map k e | .arr n => ∃ e, u = .array n e) →
            ∃ v', (execOp ev ⟨dst, .call cl, ty, pos, aft, g⟩).run P w = .ok (.value v') w ∧ VRel ρ v v' := by
          intro tg r u hr' hu hl htg
          obtain ⟨v', f1, f2⟩ := len_sound (ty := ty) hH hl (hargs x hxm r hr') ht hu htg
          refine ⟨v', ?_, f2⟩
          have e2 : Builtin.len_ cl.argTypes ty (cl.args.map ev) = Builtin.len_ cl.argTypes ty #[ev x] := by
            unfold Builtin.len_
            have e1 : (cl.args.map ev)[0]? = some (ev x) := by rw [Array.getElem?_map, hx]; rfl
            have e3 : (#[ev x] : Array Value)[0]? = some (ev x) := rfl
            rw [e1, e3]
          simp only [execOp, Go.resolve, hcal, Sem.run_bind, Sem.run_pure, Result.andThen_ok, Go.invoke, Go.builtin, e2, f1]
        split at hc
        · rename_i n el r hu hr'
          simp only [Option.some.injEq] at hc
          subst hc
          exact key (.arr n) _ _ hr' hu h ⟨_, rfl⟩
        · rename_i r hu hr'
          simp only [Option.some.injEq] at hc
          subst hc
          exact key .s _ _ hr' hu h rfl
        · rename_i el r hu hr'
          simp only [Option.some.injEq] at hc
          subst hc
          exact key .sl _ _ hr' hu h ⟨_, rfl⟩
        · rename_i k el r hu hr'
          simp only [Option.some.injEq] at hc
          subst hc
          exact key .mp _ _ hr' hu h ⟨_, _, rfl⟩
        · cases hc
      · cases hc
    all_goals
      (repeat' split at hc) <;> first
        | (cases hc; done)
        | (simp only [Option.some.injEq] at hc; subst hc; cases hk; done)
        | (simp only [Option.map_eq_some_iff] at hc; obtain ⟨r, _, rfl⟩ := hc; cases hk; done)
  case makeFunc fn fi ca =>
    cases fn <;> simp only [comp, reduceCtorEq] at hc <;> (repeat' split at hc) <;> first
      | (cases hc; done)
      | (simp only [Option.some.injEq] at hc; subst hc; cases hk; done)
      | (simp only [Option.map_eq_some_iff] at hc; obtain ⟨r, _, rfl⟩ := hc; cases hk; done)
  all_goals
    (repeat' split at hc) <;> first
      | (cases hc; done)
      | (simp only [Option.some.injEq] at hc; subst hc; cases hk; done)
      | (simp only [Option.map_eq_some_iff] at hc; obtain ⟨r, _, rfl⟩ := hc; cases hk; done)
end Go.AX
end

section
namespace Go.AX
/-! ## What makes a block -/
variable {P : Program} {ρ ρ' : Ren} {w w' : World} {H : Heap}

def Ren.set (ρ : Ren) (id : Id) (loc : Loc) : Ren := fun i => if i = id then some loc else ρ i
theorem Ren.set_same (id : Id) (loc : Loc) : ρ.set id loc id = some loc := by simp [Ren.set]
theorem Ren.set_ne {id q : Id} (loc : Loc) (h : q ≠ id) : ρ.set id loc q = ρ q := by simp [Ren.set, h]
theorem Ren.le_set {id : Id} {loc : Loc} (h : ρ id = none) : ρ.le (ρ.set id loc) := by
  intro q l hq
  by_cases e : q = id
  · subst e; rw [h] at hq; cases hq
  · rw [Ren.set_ne _ e]; exact hq

theorem ERel.mono (hle : ρ.le ρ') {e : Env} {tmps : Array Value} (h : ERel ρ e tmps) : ERel ρ' e tmps := fun t ht => (h t ht).mono hle

theorem OOk.keep {id : Id} {loc : Loc} {o : Obj} (h : OOk P ρ H id loc w o) (hle : ρ.le ρ') (hb : w'.heap[loc.blk]? = w.heap[loc.blk]?) : OOk P ρ' H id loc w' o := by
  cases o with
  | one ty sz cs =>
    obtain ⟨h1, h2, h3, c, e, fz, h4, h5, h6, h7, h8, hty⟩ := h
    exact ⟨h1, h2, h3, c, e, fz, by rw [hb]; exact h4, h5, h6, h7, h8.mono hle, hty⟩
  | arr ty sz n d t lin =>
    obtain ⟨h1, h2, h3, hl, c, e, fz, h4, h5, h6, h7, hty⟩ := h
    refine ⟨h1, h2, h3, hl, c, e, fz, by rw [hb]; exact h4, h5, h6, ?_, hty⟩
    intro ix hix hrd j a hj
    obtain ⟨v, hv, hr⟩ := h7 ix hix hrd j a hj
    exact ⟨v, hv, hr.mono hle⟩
  | lin _ _ _ => cases h
  | map es clock =>
    obtain ⟨es', h1, h2, h3, h4⟩ := h
    exact ⟨es', by rw [hb]; exact h1, h2.mono hle, h3.mono hle, h4⟩
  | loop st pd env ps as bd fn df =>
    obtain ⟨l, h1, h2, h3, h4, h5, h6, h7, h8, h9, h10, h13, h14, loc', h11, h12⟩ := h
    exact ⟨l, by rw [hb]; exact h1, h2, h3, h4, h5.mono hle, h6, h7, h8, h9, h10, h13, h14, loc', hle _ _ h11, h12⟩
  | dfd _ =>
    show w'.heap[loc.blk]? = _
    rw [hb]
    exact h
  | it m since seen last =>
    obtain ⟨h0, mo, seen', h1, h2, h3⟩ := h
    refine ⟨h0, mo, seen', by rw [hb]; exact h1, h2, ?_⟩
    cases m with
    | none => exact h3
    | some q =>
      obtain ⟨l, h4, h5⟩ := h3
      exact ⟨l, hle _ _ h4, h5⟩

theorem OOk.lt {id : Id} {loc : Loc} {o : Obj} (h : OOk P ρ H id loc w o) : loc.blk < w.heap.size := by
  have key : ∀ x, w.heap[loc.blk]? = some x → loc.blk < w.heap.size := fun x hx => (Array.getElem?_eq_some_iff.1 hx).1
  cases o with
  | one ty sz cs => obtain ⟨_, _, _, c, e, fz, h4, _⟩ := h; exact key _ h4
  | arr ty sz n d t lin => obtain ⟨_, _, _, _, c, e, fz, h4, _⟩ := h; exact key _ h4
  | lin _ _ _ => cases h
  | map es clock => obtain ⟨es', h1, _⟩ := h; exact key _ h1
  | loop st pd env ps as bd fn df => obtain ⟨l, h1, _⟩ := h; exact key _ h1
  | dfd _ => exact key _ h
  | it m since seen last => obtain ⟨_, mo, seen', h1, _⟩ := h; exact key _ h1

/-- The world has a new block: a name gets it. -/
theorem HRel.name (hH : HRel P ρ H w) {id : Id} {loc : Loc} {x : Obj} (hn : ρ id = none) (hg : H.get id = some x) (hsame : ∀ k, k < w.heap.size → w'.heap[k]? = w.heap[k]?) (hb : w.heap.size ≤ loc.blk)
    (hok : OOk P (ρ.set id loc) H id loc w' x) : HRel P (ρ.set id loc) H w' := by
  have old : ∀ q l, q ≠ id → ρ.set id loc q = some l → ρ q = some l := fun q l hne hq => by rwa [Ren.set_ne _ hne] at hq
  refine ⟨?_, ?_, hH.old⟩
  · intro q l hq
    by_cases e : q = id
    · subst e
      rw [Ren.set_same] at hq
      cases hq
      exact ⟨x, hg, hok⟩
    · obtain ⟨o, ho, hk⟩ := hH.ok q l (old q l e hq)
      exact ⟨o, ho, hk.keep (Ren.le_set hn) (hsame _ hk.lt)⟩
  · intro a b la lb ha hb' hab
    by_cases ea : a = id
    · by_cases eb : b = id
      · exact Or.inl (ea.trans eb.symm)
      · subst ea
        rw [Ren.set_same] at ha
        cases ha
        obtain ⟨o, ho, hk⟩ := hH.ok b lb (old b lb eb hb')
        have := hk.lt
        omega
    · by_cases eb : b = id
      · subst eb
        rw [Ren.set_same] at hb'
        cases hb'
        obtain ⟨o, ho, hk⟩ := hH.ok a la (old a la ea ha)
        have := hk.lt
        omega
      · exact hH.kin a b la lb (old a la ea ha) (old b lb eb hb') hab

theorem Grow.name {ρ0 : Ren} {H0 : Heap} {w0 : World} (g : Grow ρ0 ρ H0 H w0 w) {id : Id} {loc : Loc} (hn : ρ id = none) (hid : H0.next.num ≤ id.num) (hsame : ∀ k, k < w.heap.size → w'.heap[k]? = w.heap[k]?) (hsz : w.heap.size ≤ w'.heap.size)
    (hb : w.heap.size ≤ loc.blk) (hio : SameIO w w') : Grow ρ0 (ρ.set id loc) H0 H w0 w' := by
  refine ⟨Ren.le_trans g.le (Ren.le_set hn), Nat.le_trans g.size hsz, ?_, ?_, ?_, g.next, g.ghost, hio.1.trans g.io.1, hio.2.trans g.io.2⟩
  · intro k hk hne
    rw [hsame k (Nat.lt_of_lt_of_le hk g.size)]
    exact g.same k hk hne
  · intro q l hq hq0
    by_cases e : q = id
    · subst e
      rw [Ren.set_same] at hq
      cases hq
      exact Or.inl (Nat.le_trans g.size hb)
    · rw [Ren.set_ne _ e] at hq
      exact g.blk q l hq hq0
  · intro q l hq hq0
    by_cases e : q = id
    · subst e; exact hid
    · rw [Ren.set_ne _ e] at hq
      exact g.new q l hq hq0

/-- What an operation that makes a block does: the world gets new blocks behind the old ones; one of them is as it is told. -/
def Makes (P : Program) (ρ : Ren) (w : World) (x : Obj) (g : Id → AV) (r : Result Next) : Prop :=
  ∃ v' w' loc, r = .ok (.value v') w' ∧ (w.heap.size ≤ w'.heap.size ∧ SameIO w w') ∧ (∀ k, k < w.heap.size → w'.heap[k]? = w.heap[k]?) ∧ w.heap.size ≤ loc.blk ∧
    ∀ (id : Id) (H : Heap), ρ id = none → VRel (ρ.set id loc) (g id) v' ∧ OOk P (ρ.set id loc) H id loc w' x

theorem push_old {α : Type} (a : Array α) (x : α) {k : Nat} (h : k < a.size) : (a.push x)[k]? = a[k]? := by
  rw [Array.getElem?_push]
  split
  · omega
  · rfl

theorem makes_one {vs : List AV} {cs : Array Value} {t : TypeId} (hv : VRels ρ vs cs.toList) (hf : vs.all AV.flat = true) :
    Makes P ρ w (.one t (len vs) vs) (fun id => .p id 0 0) (((do pure (.value (.pointer (some (← newRow t cs)))) : Sem Next)).run P w) := by
  have hl := hv.length
  simp only [Array.length_toList] at hl
  refine ⟨_, { w with heap := w.heap.push (.cells cs t (0, 0)) }, ⟨w.heap.size, 0, len vs, len vs⟩, rfl, ⟨by simp, rfl, rfl⟩, fun k hk => push_old _ _ hk, Nat.le_refl _, ?_⟩
  intro id H hn
  refine ⟨?_, rfl, rfl, rfl, cs, t, (0, 0), by simp, fun o ho => by simp, by rw [len_eq]; exact hl.symm, hf, hv.mono (Ren.le_set hn), rfl⟩
  have := VRel.p (ρ := ρ.set id ⟨w.heap.size, 0, len vs, len vs⟩) id 0 0 _ (Ren.set_same _ _)
  simpa using this
end Go.AX
end

section
namespace Go.AX
/-! ## New arrays -/
variable {P : Program} {ρ ρ' : Ren} {w w' : World} {H : Heap}

theorem makes_arr {k n m ln : Nat} {d : List AV} {tr : PT (List AV)} {c : Array Value} (hrec : ∀ ix, (recAt tr d ix).length = k ∧ (recAt tr d ix).all AV.flat = true) (hsz : n * k ≤ c.size) (hln : ln ≤ m) (hm : m * k ≤ c.size)
    (hel : ∀ ix, ix < n → ∀ j a, (recAt tr d ix)[j]? = some a → ∃ v, c[ix * k + j]? = some v ∧ VRel ρ a v) {blk : Nat} {t : TypeId} {fz : Nat × Nat} {cap : Option Nat} (hcap : ∀ q, cap = some q → m = q)
    (hw : w'.heap[blk]? = some (.cells c t fz)) (hfz : Thaw c fz) (id : Id) (hn : ρ id = none) :
    VRel (ρ.set id ⟨blk, 0, k, c.size⟩) (.sl id 0 ln cap k) (.slice (some ⟨blk, 0, none⟩) ln m) ∧ OOk P (ρ.set id ⟨blk, 0, k, c.size⟩) H id ⟨blk, 0, k, c.size⟩ w' (.arr t k n d tr none) := by
  refine ⟨?_, rfl, by simpa using hsz, hrec, (fun l hl => by cases hl), c, t, fz, hw, fun _ => hfz, rfl, ?_, rfl, rfl⟩
  · exact .sl id 0 ln cap k ⟨blk, 0, k, c.size⟩ m (Ren.set_same _ _) rfl hln hcap (by simpa using hm) 0 (fun _ => by simp)
  · intro ix hix _ j a hj
    obtain ⟨v, hv, hr⟩ := hel ix hix j a hj
    refine ⟨v, ?_, hr.mono (Ren.le_set hn)⟩
    simpa using hv

theorem recAt_e (d : List AV) (ix : Nat) : recAt .e d ix = d := by simp [recAt, PT.get_e]

theorem recAt_put_same (r : List AV) (ix : Nat) (t : PT (List AV)) (d : List AV) : recAt (PT.put r (.ofNat ix) t) d ix = r := by simp [recAt, PT.get_put_same]
theorem recAt_put_ne (r : List AV) {ix q : Nat} (t : PT (List AV)) (d : List AV) (h : q ≠ ix) : recAt (PT.put r (.ofNat ix) t) d q = recAt t d q := by
  have : Id.ofNat q ≠ Id.ofNat ix := fun e => h (Id.ofNat_inj e)
  simp [recAt, PT.get_put_ne _ _ _ _ this]

structure Elems (ρ : Ren) (k n : Nat) (z : List AV) (t : PT (List AV)) (c : Array Value) : Prop where
  rec' : ∀ ix, (recAt t z ix).length = k ∧ (recAt t z ix).all AV.flat = true
  el : ∀ ix, ix < n → ∀ j a, (recAt t z ix)[j]? = some a → ∃ v, c[ix * k + j]? = some v ∧ VRel ρ a v

theorem splice_get {l vs : List Value} {o p : Nat} (h : o + vs.length ≤ l.length) :
    (l.take o ++ vs ++ l.drop (o + vs.length))[p]? = if p < o then l[p]? else if p < o + vs.length then vs[p - o]? else l[p]? := by
  have hto : (l.take o).length = o := by rw [List.length_take]; omega
  split
  · rename_i hp
    rw [List.append_assoc, List.getElem?_append_left (by omega), List.getElem?_take_of_lt hp]
  · rename_i hp
    split
    · rename_i hp2
      rw [List.append_assoc, List.getElem?_append_right (by omega), List.getElem?_append_left (by omega), hto]
    · rename_i hp2
      rw [List.getElem?_append_right (by rw [List.length_append]; omega), List.getElem?_drop, List.length_append, hto]
      congr 1
      omega

theorem Elems.put {k n i : Nat} {z : List AV} {t : PT (List AV)} {c r : Array Value} (h : Elems ρ k n z t c) {vs : List AV} {ws : List Value} (hv : VRels ρ vs ws) (hf : vs.all AV.flat = true) (hk : vs.length = k) (hi : i < n) (hc : n * k ≤ c.size)
    (hr : r.toList = c.toList.take (i * k) ++ ws ++ c.toList.drop (i * k + ws.length)) : Elems ρ k n z (PT.put vs (.ofNat i) t) r := by
  have hwl : ws.length = k := by rw [← hv.length]; exact hk
  have hik : i * k + k ≤ n * k := by
    have := Nat.mul_le_mul_right k hi
    rw [Nat.succ_mul] at this
    exact this
  have hget : ∀ p, r[p]? = if p < i * k then c[p]? else if p < i * k + k then ws[p - i * k]? else c[p]? := by
    intro p
    have hlc : i * k + ws.length ≤ c.toList.length := by rw [hwl, Array.length_toList]; omega
    rw [← Array.getElem?_toList, hr, splice_get hlc, hwl]
    simp only [Array.getElem?_toList]
  refine ⟨?_, ?_⟩
  · intro ix
    by_cases e : ix = i
    · subst e
      rw [recAt_put_same]
      exact ⟨hk, hf⟩
    · rw [recAt_put_ne _ _ _ e]
      exact h.rec' ix
  · intro ix hix j a hj
    by_cases e : ix = i
    · subst e
      rw [recAt_put_same] at hj
      obtain ⟨v, hv', hr'⟩ := hv.get hj
      have hjk : j < k := by rw [← hk]; exact (List.getElem?_eq_some_iff.1 hj).1
      refine ⟨v, ?_, hr'⟩
      rw [hget, if_neg (by omega), if_pos (by omega)]
      have : ix * k + j - ix * k = j := by omega
      rw [this]
      exact hv'
    · rw [recAt_put_ne _ _ _ e] at hj
      have hjk : j < k := by rw [← (h.rec' ix).1]; exact (List.getElem?_eq_some_iff.1 hj).1
      obtain ⟨v, hv', hr'⟩ := h.el ix hix j a hj
      refine ⟨v, ?_, hr'⟩
      rw [hget]
      rcases Nat.lt_or_gt_of_ne e with hlt | hgt
      · have := Nat.mul_le_mul_right k hlt
        rw [Nat.succ_mul] at this
        rw [if_pos (by omega)]
        exact hv'
      · have := Nat.mul_le_mul_right k hgt
        rw [Nat.succ_mul] at this
        rw [if_neg (by omega), if_neg (by omega)]
        exact hv'

theorem elems_sound {e : Env} {L : List AV} {ev : Operand → Value} {ρf : Operand → Option Rf} {k n : Nat} {z : List AV} :
    ∀ {parts : List (Nat × Operand)} {l : List (Nat × Rf)}, rfsAt ρf parts = some l → (∀ x ∈ parts, ∀ r, ρf x.2 = some r → VRel ρ (opd r e L) (ev x.2)) → (l.all fun x => Nat.blt x.1 n) = true →
    ∀ {t tr : PT (List AV)} {c : Array Value}, partElems e L k l t = some tr → Elems ρ k n z t c → c.size = n * k →
      ∃ r, Instr.fill (fun i => some (i * k, k)) c (parts.map fun x => (x.1, ev x.2)) = some r ∧ r.size = n * k ∧ Elems ρ k n z tr r
  | [], l, h, _, _, t, tr, c, hp, hE, hc => by
    simp only [rfsAt, Option.some.injEq] at h
    subst h
    simp only [partElems, Option.some.injEq] at hp
    subst hp
    exact ⟨c, rfl, hc, hE⟩
  | (i, x) :: parts, l, h, hr, hall, t, tr, c, hp, hE, hc => by
    simp only [rfsAt] at h
    split at h
    · rename_i g l' hg hl'
      simp only [Option.some.injEq] at h
      subst h
      simp only [List.all_cons, Bool.and_eq_true, Nat.blt_eq] at hall
      obtain ⟨hi, hall⟩ := hall
      simp only [partElems] at hp
      split at hp
      · rename_i vs hvs
        split at hp
        · rename_i hk
          have hk := Nat.eq_of_beq_eq_true hk
          rw [len_eq] at hk
          obtain ⟨hv, hf⟩ := cellsOf_sound hvs (hr (i, x) (List.mem_cons_self ..) g hg)
          have hv : VRels ρ vs (ev x).cells.toList := hv
          have hsz : (ev x).cells.size = k := by
            have h1 := hv.length
            have h2 : (ev x).cells.toList.length = (ev x).cells.size := Array.length_toList
            rw [← h2, ← h1]
            exact hk
          have hik : i * k + k ≤ n * k := by
            have := Nat.mul_le_mul_right k hi
            rw [Nat.succ_mul] at this
            exact this
          have hle : i * k + (ev x).cells.size ≤ c.size := by omega
          have hspl := foldl_splice hle
          generalize hr1 : ((ev x).cells.zipIdx.foldl (fun (cs : Array Value) (p : Value × Nat) => cs.setIfInBounds (i * k + p.2) p.1) c) = r1 at hspl
          have hE' := hE.put (r := r1) hv hf hk hi (by omega) (by rw [hspl, Array.length_toList])
          have hs1 : r1.size = n * k := by
            have := congrArg List.length hspl
            simp only [Array.length_toList, List.length_append, List.length_take, List.length_drop] at this
            omega
          obtain ⟨r, f1, f2, f3⟩ := elems_sound hl' (fun y hy => hr y (List.mem_cons_of_mem _ hy)) hall hp hE' hs1
          refine ⟨r, ?_, f2, f3⟩
          simp only [List.map_cons, Instr.fill]
          have hcond : ((ev x).cells.size ≠ k || i * k + (ev x).cells.size > c.size) = false := by
            simp [hsz]
            omega
          simp only [hcond]
          rw [← f1, ← hr1]
          rfl
        · cases hp
      · cases hp
    · cases h

end Go.AX
end

section
namespace Go.AX
/-! ## What makes a block, joined -/
variable {P : Program} {ρ ρ' : Ren} {w w' : World} {H : Heap}

theorem range_mod (zero : Array Value) (len k : Nat) (hk : zero.size = k) {ix j : Nat} (hix : ix < len) {v : Value} (hv : zero[j]? = some v) : ((Array.range (len * k)).map fun i => zero[i % zero.size]!)[ix * k + j]? = some v := by
  have hj : j < k := by rw [← hk]; exact (Array.getElem?_eq_some_iff.1 hv).1
  have hlt : ix * k + j < len * k := by
    have := Nat.mul_le_mul_right k hix
    rw [Nat.succ_mul] at this
    omega
  rw [Array.getElem?_map, Array.getElem?_range, if_pos hlt, Option.map_some, hk]
  have : (ix * k + j) % k = j := by rw [Nat.mul_comm, Nat.mul_add_mod]; exact Nat.mod_eq_of_lt hj
  rw [this]
  obtain ⟨h1, h2⟩ := Array.getElem?_eq_some_iff.1 hv
  rw [getElem!_pos zero j h1, h2]

/-- An array of zeros. -/
theorem elems_zero {k n : Nat} {z : List AV} {zero : Array Value} (hz : VRels ρ z zero.toList) (hf : z.all AV.flat = true) (hk : z.length = k) : Elems ρ k n z .e ((Array.range (n * k)).map fun i => zero[i % zero.size]!) := by
  have hsz : zero.size = k := by
    have h1 := hz.length
    have h2 : zero.toList.length = zero.size := Array.length_toList
    rw [← h2, ← h1]
    exact hk
  refine ⟨fun ix => by rw [recAt_e]; exact ⟨hk, hf⟩, ?_⟩
  intro ix hix j a hj
  rw [recAt_e] at hj
  obtain ⟨v, hv, hr⟩ := hz.get hj
  exact ⟨v, range_mod zero n k hsz hix (by rw [← Array.getElem?_toList]; exact hv), hr⟩

theorem byteElems_rec : ∀ (l : List Nat) (ix q : Nat) (t : PT (List AV)) (d : List AV), recAt (byteElems l ix t) d q = if q < ix then recAt t d q else match l[q - ix]? with | some c => [.i .u8 (.ofNat c)] | none => recAt t d q
  | [], ix, q, t, d => by simp [byteElems]
  | c :: l, ix, q, t, d => by
    simp only [byteElems]
    rw [byteElems_rec l (ix + 1) q]
    by_cases h : q < ix
    · rw [if_pos (by omega), if_pos h, recAt_put_ne _ _ _ (by omega)]
    · rw [if_neg h]
      by_cases e : q = ix
      · subst e
        rw [if_pos (by omega), recAt_put_same, Nat.sub_self]
        rfl
      · rw [if_neg (by omega)]
        obtain ⟨m, hm⟩ : ∃ m, q - ix = m + 1 := ⟨q - ix - 1, by omega⟩
        have h2 : q - (ix + 1) = m := by omega
        rw [hm, h2, List.getElem?_cons_succ, recAt_put_ne _ _ _ e]

theorem makes_arr' {k n m ln : Nat} {d : List AV} {tr : PT (List AV)} {c : Array Value} (hE : Elems ρ k n d tr c) (hsz : n * k ≤ c.size) (hln : ln ≤ m) (hm : m * k ≤ c.size) {t : TypeId} {cap : Option Nat} (hcap : ∀ q, cap = some q → m = q) :
    Makes P ρ w (.arr t k n d tr none) (fun id => .sl id 0 ln cap k) (((do pure (.value (.slice (some (← newRow t c)) ln m)) : Sem Next)).run P w) := by
  refine ⟨_, { w with heap := w.heap.push (.cells c t (0, 0)) }, ⟨w.heap.size, 0, k, c.size⟩, rfl, ⟨by simp, rfl, rfl⟩, fun k hk => push_old _ _ hk, Nat.le_refl _, ?_⟩
  intro id H hn
  exact makes_arr (t := t) (fz := (0, 0)) hE.rec' hsz hln hm hE.el hcap (by simp) (fun o ho => by simp) id hn

theorem push_modify_old {o : Go.Obj} {f : Go.Obj → Go.Obj} {a : Array Go.Obj} {k : Nat} (h : k < a.size) : ((a.push o).modify a.size f)[k]? = a[k]? := by
  rw [Array.getElem?_modify, if_neg (by omega), push_old _ _ h]
theorem push_modify_new {o : Go.Obj} {f : Go.Obj → Go.Obj} {a : Array Go.Obj} : ((a.push o).modify a.size f)[a.size]? = some (f o) := by
  rw [Array.getElem?_modify, if_pos rfl]
  simp

theorem makes_bytes {l : List Nat} {s : ByteArray} (hs : s.data.toList.map UInt8.toNat = l) {el : TypeId} :
    Makes P ρ w (.arr el 1 (len l) [.i .u8 0] (byteElems l 0 .e) none) (fun id => .sl id 0 (len l) none 1) (((do pure (.value (← Conv.stringToBytes el s)) : Sem Next)).run P w) := by
  have hsz : s.size = l.length := by rw [← hs, List.length_map]; exact Array.length_toList.symm
  obtain ⟨cap, hcap, hch⟩ : ∃ cap, s.size ≤ cap ∧ (choose (.appendCap s.size 0 el)).run P w = .ok cap { w with drawn := w.drawn + 1 } := by
    refine ⟨_, ?_, run_choose (P := P) (w := w) _ |>.trans (by rw [if_neg (by simp [Question.forced])])⟩
    exact Nat.le_add_right _ _
  generalize hc : (s.data.map fun b => Value.int .u8 b.toNat) ++ Array.replicate (cap - s.size) (.int .u8 0) = c
  have hcs : c.size = cap := by
    rw [← hc]
    simp only [Array.size_append, Array.size_map, Array.size_replicate]
    have : s.data.size = s.size := rfl
    omega
  have hget : ∀ (q cc : Nat), l[q]? = some cc → c[q]? = some (.int .u8 (.ofNat cc)) := by
    intro q cc hq
    have hql := (List.getElem?_eq_some_iff.1 hq).1
    rw [← hs, List.getElem?_map, Option.map_eq_some_iff] at hq
    obtain ⟨b, hb, rfl⟩ := hq
    rw [← hc, Array.getElem?_append_left (by simp; have : s.data.size = s.size := rfl; omega), Array.getElem?_map]
    rw [Array.getElem?_toList] at hb
    rw [hb]
    rfl
  have hE : Elems ρ 1 (len l) [.i .u8 0] (byteElems l 0 .e) c := by
    have hrec := fun q => byteElems_rec l 0 q (.e : PT (List AV)) [.i .u8 0]
    simp only [Nat.not_lt_zero, if_false, Nat.sub_zero, recAt_e] at hrec
    refine ⟨?_, ?_⟩
    · intro ix
      rw [hrec]
      cases l[ix]? <;> exact ⟨rfl, rfl⟩
    · intro ix hix j a hj
      rw [len_eq] at hix
      rw [hrec, List.getElem?_eq_getElem hix] at hj
      cases j with
      | succ j => simp at hj
      | zero =>
        simp only [List.getElem?_cons_zero, Option.some.injEq] at hj
        subst hj
        refine ⟨_, ?_, .i _ _⟩
        rw [Nat.mul_one, Nat.add_zero]
        exact hget ix _ (List.getElem?_eq_getElem hix)
  refine ⟨.slice (some ⟨w.heap.size, 0, none⟩) s.size cap, { w with drawn := w.drawn + 1, heap := (w.heap.push (.cells c el (0, 0))).modify w.heap.size fun
      | .cells c' elem (lo, hi) => .cells c' elem (if lo == hi then (c.size, c.size + 1) else (min lo c.size, max hi (c.size + 1)))
      | o => o }, ⟨w.heap.size, 0, 1, c.size⟩, ?_, ⟨by simp, rfl, rfl⟩, fun k hk => push_modify_old hk, Nat.le_refl _, ?_⟩
  · have hshape : ∀ w0 : World, World.shape? { w0 with heap := w0.heap.push (.cells c el (0, 0)) } w0.heap.size = some (el, c.size) := by
      intro w0
      simp [World.shape?]
    have hrow : ∀ w0 : World, (newRow el c).run P w0 = .ok ⟨w0.heap.size, 0, none⟩ { w0 with heap := w0.heap.push (.cells c el (0, 0)) } := fun w0 => rfl
    simp only [Conv.stringToBytes, Sem.run_bind, hch, Result.andThen_ok, hc, hrow, markStringish, run_shape]
    have h2 := hshape { w with drawn := w.drawn + 1 }
    simp only at h2
    rw [h2]
    rfl
  · intro id H hn
    have hlen : len l = s.size := by rw [len_eq, hsz]
    rw [hlen]
    rw [hlen] at hE
    exact makes_arr (t := el) (fz := (c.size, c.size + 1)) hE.rec' (by omega) hcap (by omega) hE.el (fun q hq => by cases hq) push_modify_new (fun o ho => by simp; omega) id hn
end Go.AX
end

section
namespace Go.AX
/-! ## What makes a block, joined -/
variable {P : Program} {ρ ρ' : Ren} {w w' : World} {H : Heap}

theorem evalA_sound {o : Oper} {c : IOp} {ρf : Operand → Option Rf} {ev : Operand → Value} {e : Env} {L : List AV} {x : Obj} {mk : Id → AV} (hc : comp P ρf o.op = some c) (hk : c.kd = .a) (h : evalA c e L = some (x, mk))
    (hr : ∀ x ∈ o.op.operands.toList, ∀ r, ρf x = some r → VRel ρ (opd r e L) (ev x)) : Makes P ρ w x mk ((execOp ev o).run P w) := by
  obtain ⟨dst, op, ty, pos, aft, g⟩ := o
  simp only at hc hr
  cases op <;> simp only [comp, reduceCtorEq] at hc
  case alloc t =>
    simp only [Option.map_eq_some_iff] at hc
    obtain ⟨z, hz, rfl⟩ := hc
    simp only [evalA, Option.some.injEq, Prod.mk.injEq] at h
    obtain ⟨rfl, rfl⟩ := h
    obtain ⟨zv, hzr, hzv, hzf⟩ := zero_sound (w := w) (ρ := ρ) hz
    have := makes_one (P := P) (w := w) (t := t) hzv hzf
    simp only [execOp, Instr.alloc, Sem.run_bind, hzr, Result.andThen_ok, newVar, Sem.run_pure] at this ⊢
    exact this
  case box t a =>
    simp only [Option.map_eq_some_iff] at hc
    obtain ⟨r, hx, rfl⟩ := hc
    simp only [evalA] at h
    split at h
    · rename_i vs hvs
      simp only [Option.some.injEq, Prod.mk.injEq] at h
      obtain ⟨rfl, rfl⟩ := h
      obtain ⟨hv, hf⟩ := cellsOf_sound hvs (hr a (by simp [Op.operands]) r hx)
      have := makes_one (P := P) (w := w) (t := t) hv hf
      simp only [execOp, Instr.box, Sem.run_bind, Result.andThen_ok, newVar, Sem.run_pure] at this ⊢
      exact this
    · cases h
  case buildSlice t len parts =>
    split at hc
    · rename_i el hu
      split at hc
      · rename_i z l hz hl
        split at hc
        · rename_i hcond
          obtain ⟨hs, hle, hall⟩ := hcond
          simp only [Option.some.injEq] at hc
          subst hc
          simp only [evalA] at h
          split at h
          · rename_i tr htr
            simp only [Option.some.injEq, Prod.mk.injEq] at h
            obtain ⟨rfl, rfl⟩ := h
            obtain ⟨zv, hzr, hzv, hzf⟩ := zero_sound (w := w) (ρ := ρ) hz
            have hparts : ∀ y ∈ parts.toList, ∀ r, ρf y.2 = some r → VRel ρ (opd r e L) (ev y.2) := by
              intro y hy r hr'
              refine hr y.2 ?_ r hr'
              simp only [Op.operands, List.mem_map]
              exact ⟨y, hy, rfl⟩
            have hgen : ∀ zero : Array Value, (len * z.length ≠ 0 → zero = zv.cells) → Elems ρ z.length len z .e ((Array.range (len * z.length)).map fun i => zero[i % zero.size]!) := by
              intro zero hzero
              by_cases h0 : len * z.length = 0
              · refine ⟨fun ix => by rw [recAt_e]; exact ⟨rfl, hzf⟩, ?_⟩
                intro ix hix j a hj
                rw [recAt_e] at hj
                have hjl := (List.getElem?_eq_some_iff.1 hj).1
                rcases Nat.mul_eq_zero.1 h0 with h1 | h1 <;> omega
              · rw [hzero h0]
                exact elems_zero hzv hzf rfl
            have e1 : (parts.map fun x => (x.1, ev x.2)).toList = parts.toList.map fun x => (x.1, ev x.2) := by simp
            by_cases h0 : len * z.length = 0
            · obtain ⟨r, f1, f2, f3⟩ := elems_sound hl hparts hall htr (hgen #[] (fun h => absurd h0 h)) (by simp)
              have := makes_arr' (P := P) (w := w) (ln := len) (m := len) (t := el) (cap := some len) f3 (by omega) (Nat.le_refl _) (by omega) (fun q hq => by cases hq; rfl)
              simp only [execOp, Instr.buildSlice, Sem.run_bind, run_underlying hu, run_sizeOf' hs, Result.andThen_ok, if_neg (Nat.not_lt.2 hle), if_pos h0, e1, f1, Sem.run_pure] at this ⊢
              exact this
            · obtain ⟨r, f1, f2, f3⟩ := elems_sound hl hparts hall htr (hgen zv.cells (fun _ => rfl)) (by simp)
              have := makes_arr' (P := P) (w := w) (ln := len) (m := len) (t := el) (cap := some len) f3 (by omega) (Nat.le_refl _) (by omega) (fun q hq => by cases hq; rfl)
              simp only [execOp, Instr.buildSlice, Sem.run_bind, run_underlying hu, run_sizeOf' hs, Result.andThen_ok, if_neg (Nat.not_lt.2 hle), if_neg h0, hzr, e1, f1, Sem.run_pure] at this ⊢
              exact this
          · cases h
        · cases hc
      · cases hc
    · cases hc
  case convert src dst' y =>
    split at hc
    · simp only [Option.some.injEq] at hc; subst hc; cases hk
    · simp only [Option.some.injEq] at hc; subst hc; cases hk
    · rename_i el r h1 h2 h3
      split at hc
      · rename_i hel
        simp only [Option.some.injEq] at hc
        subst hc
        simp only [evalA] at h
        have hx := hr y (by simp [Op.operands]) _ h3
        generalize opd r e L = a at h hx
        split at h
        · rename_i l
          simp only [Option.some.injEq, Prod.mk.injEq] at h
          obtain ⟨rfl, rfl⟩ := h
          simp only [execOp]
          generalize ev y = b at hx ⊢
          cases hx with
          | s _ s hs =>
            have := makes_bytes (P := P) (ρ := ρ) (w := w) (el := el) hs
            unfold convert
            simp only [Sem.run_bind, run_underlying h1, run_underlying h2, run_underlying hel, Result.andThen_ok] at this ⊢
            exact this
        · cases h
      · cases hc
    · split at hc
      · simp only [Option.some.injEq] at hc; subst hc; cases hk
      · cases hc
    · cases hc
  case makeMap t res =>
    split at hc
    · rename_i kt el r hu hr'
      simp only [Option.some.injEq] at hc
      subst hc
      have ho := opdO_sound (ρ := ρ) (e := e) (L := L) (ev := ev) hr' (fun x hx => hr x (by subst hx; simp [Op.operands]))
      have key : ∀ g0 : (Id → AV), g0 = (fun id => AV.m id) → Makes P ρ w (.map [] 0) g0 (.ok (.value (.map (some w.heap.size))) { w with heap := w.heap.push (.map #[] 0) }) := by
        intro g0 hg0
        subst hg0
        refine ⟨_, _, ⟨w.heap.size, 0, 0, 0⟩, rfl, ⟨by simp, rfl, rfl⟩, fun k hk => push_old _ _ hk, Nat.le_refl _, ?_⟩
        intro id H hn
        exact ⟨.m id _ (Ren.set_same _ _), #[], by simp, .nil, .nil, rfl⟩
      simp only [evalA] at h
      cases res with
      | none =>
        simp only [rfO, Option.some.injEq] at hr'
        subst hr'
        simp only [opdO, Option.some.injEq, Prod.mk.injEq] at h
        obtain ⟨rfl, rfl⟩ := h
        exact key _ rfl
      | some y =>
        simp only [rfO, Option.map_eq_some_iff] at hr'
        obtain ⟨g', hg', rfl⟩ := hr'
        have hx := hr y (by simp [Op.operands]) _ hg'
        simp only [opdO] at h
        generalize opd g' e L = a at h hx
        split at h
        · rename_i heq; cases heq
        · rename_i k n heq
          simp only [Option.some.injEq] at heq
          subst heq
          simp only [Option.some.injEq, Prod.mk.injEq] at h
          obtain ⟨rfl, rfl⟩ := h
          simp only [execOp, Option.map_some]
          generalize ev y = b at hx ⊢
          cases hx
          have := key _ rfl
          simp only [Instr.makeMap, Sem.run_bind, run_underlying hu, Result.andThen_ok, asInt, asIntOf, Sem.run_pure]
          exact this
        · cases h
    · cases hc
  case makeSlice t lo co =>
    split at hc
    · rename_i el hu
      split at hc
      · rename_i z r s i hz h1 h2 hi
        split at hc
        · rename_i hsz
          simp only [Option.some.injEq] at hc
          subst hc
          simp only [evalA] at h
          split at h
          · rename_i n m hn hm
            split at h
            · rename_i hb
              simp only [Option.some.injEq, Prod.mk.injEq] at h
              obtain ⟨rfl, rfl⟩ := h
              simp only [Bool.and_eq_true, Nat.ble_eq, Nat.blt_eq] at hb
              obtain ⟨⟨hnm, hroom⟩, hm63⟩ := hb
              obtain ⟨k1, e1⟩ := intIn_sound hn (hr lo (by simp [Op.operands]) _ h1)
              obtain ⟨k2, e2⟩ := intIn_sound hm (hr co (by simp [Op.operands]) _ h2)
              obtain ⟨zv, hzr, hzv, hzf⟩ := zero_sound (w := w) (ρ := ρ) hz
              have hwr : ∀ q : Nat, q < 9223372036854775808 → IntKind.i64.wrap (q : Int) = (q : Int) := by
                intro q hq
                have hb : IntKind.bits .i64 = 64 := rfl
                have hsg : IntKind.signed .i64 = true := rfl
                unfold IntKind.wrap
                simp only [hb, hsg, Bool.true_and]
                have h1 : ((q : Int) % (2 ^ 64 : Int)) = q := by omega
                rw [h1, if_neg (by rw [decide_eq_true_iff]; omega)]
              have hty : (typeInfo el).run P w = .ok i w := by
                simp [typeInfo, hi]
              have hsz' : sz? P el = some z.length := by
                unfold sz?
                rw [hi]
                exact congrArg some hsz
              have hE : ∀ zero : Array Value, (m * z.length ≠ 0 → zero = zv.cells) → Elems ρ z.length m z .e ((Array.range (m * z.length)).map fun i => zero[i % zero.size]!) := by
                intro zero hzero
                by_cases h0 : m * z.length = 0
                · refine ⟨fun ix => by rw [recAt_e]; exact ⟨rfl, hzf⟩, ?_⟩
                  intro ix hix j a hj
                  rw [recAt_e] at hj
                  have hjl := (List.getElem?_eq_some_iff.1 hj).1
                  rcases Nat.mul_eq_zero.1 h0 with h1 | h1 <;> omega
                · rw [hzero h0]
                  exact elems_zero hzv hzf rfl
              have hcond : (decide ((m : Int) < 0) || decide ((i.bytes : Int) * (m : Int) > 2 ^ 48)) = false := by
                rw [Bool.or_eq_false_iff]
                refine ⟨by rw [decide_eq_false_iff_not]; omega, ?_⟩
                rw [decide_eq_false_iff_not]
                have : ((i.bytes * m : Nat) : Int) ≤ 281474976710656 := by omega
                rw [Int.natCast_mul] at this
                omega
              have hneg : decide ((n : Int) < 0) = false := by rw [decide_eq_false_iff_not]; omega
              have hgt : decide ((n : Int) > (m : Int)) = false := by rw [decide_eq_false_iff_not]; omega
              have hgo : ∀ zero : Array Value, (m * z.length ≠ 0 → zero = zv.cells) → _ := fun zero hzero =>
                makes_arr' (P := P) (w := w) (ln := n) (m := m) (t := el) (cap := some m) (hE zero hzero) (by simp) hnm (by simp) (fun q hq => by cases hq; rfl)
              by_cases h0 : m * z.length = 0
              · have := hgo #[] (fun h => absurd h0 h)
                simp only [execOp, Instr.makeSlice, Sem.run_bind, run_underlying hu, Result.andThen_ok, e1, e2, asInt, asIntOf, Sem.run_pure, hty, hwr n (by omega), hwr m hm63, hcond, hneg, hgt, Bool.or_self, Bool.false_eq_true, if_false, run_askRoom, run_sizeOf' hsz', Int.toNat_natCast, Int.ofNat_eq_natCast, if_pos h0] at this ⊢
                exact this
              · have := hgo zv.cells (fun _ => rfl)
                simp only [execOp, Instr.makeSlice, Sem.run_bind, run_underlying hu, Result.andThen_ok, e1, e2, asInt, asIntOf, Sem.run_pure, hty, hwr n (by omega), hwr m hm63, hcond, hneg, hgt, Bool.or_self, Bool.false_eq_true, if_false, run_askRoom, run_sizeOf' hsz', Int.toNat_natCast, Int.ofNat_eq_natCast, if_neg h0, hzr] at this ⊢
                exact this
            · cases h
          · cases h
        · cases hc
      · cases hc
    · cases hc
  case call cl =>
    (repeat' split at hc) <;> first
      | (cases hc; done)
      | (simp only [Option.some.injEq] at hc; subst hc; cases hk; done)
      | (simp only [Option.map_eq_some_iff] at hc; obtain ⟨r, _, rfl⟩ := hc; cases hk; done)
      | (simp only [Option.map_eq_some_iff] at hc; obtain ⟨r, _, rfl⟩ := hc; cases hk; done)
  case makeFunc fn fi ca =>
    cases fn <;> simp only [comp, reduceCtorEq] at hc <;> (repeat' split at hc) <;> first
      | (cases hc; done)
      | (simp only [Option.some.injEq] at hc; subst hc; cases hk; done)
      | (simp only [Option.map_eq_some_iff] at hc; obtain ⟨r, _, rfl⟩ := hc; cases hk; done)
  all_goals
    (repeat' split at hc) <;> first
      | (cases hc; done)
      | (simp only [Option.some.injEq] at hc; subst hc; cases hk; done)
      | (simp only [Option.map_eq_some_iff] at hc; obtain ⟨r, _, rfl⟩ := hc; cases hk; done)
end Go.AX
end

section
namespace Go.AX
/-! ## What turns what is there -/
variable {P : Program} {ρ ρ' : Ren} {w w' : World} {H H' : Heap}

theorem one_cell {a : AV} {v : Value} (h : VRel ρ a v) (hf : a.flat = true) : v.oneCell' = true := by
  cases h <;> first
    | rfl
    | (cases hf; done)

theorem thaw_set {c : Array Value} {fz : Nat × Nat} {i : Nat} {v : Value} (h : Thaw c fz) : Thaw (c.setIfInBounds i v) fz := by
  intro o ho
  rw [Array.size_setIfInBounds] at ho
  exact h o ho

theorem run_storeCells_thaw (g o : Nat) (t : TypeId) (fz : Nat × Nat) : ∀ (vs : List Value) (i : Nat) (cur : Array Value) (w : World), w.heap[g]? = some (.cells cur t fz) → Thaw cur fz → o + i + vs.length ≤ cur.size → (∀ v ∈ vs, v.oneCell' = true) →
    (storeCells ⟨g, o, none⟩ vs i).run P w = .ok () (w.setRow g (cur.toList.take (o + i) ++ vs ++ cur.toList.drop (o + i + vs.length)).toArray)
  | [], i, cur, w, hg, _, _, _ => by
    simp only [storeCells, List.append_nil, List.length_nil, Nat.add_zero, List.take_append_drop, Array.toArray_toList]
    rw [setRow_self w g cur t fz hg]
    rfl
  | v :: rest, i, cur, w, hg, hfz, hl, h1 => by
    have hi : o + i < cur.size := by simp at hl; omega
    have hadd : (⟨g, o, none⟩ : Addr).add i = ⟨g, o + i, none⟩ := addr_add _ _ _
    have hcell : w.cell? ⟨g, o + i, none⟩ = some cur[o + i] := by simp [World.cell?, hg, hi]
    have hfro : w.frozen? ⟨g, o + i, none⟩ = false := by
      obtain ⟨lo, hi'⟩ := fz
      have := hfz (o + i) hi
      simp only [World.frozen?, hg, Bool.and_eq_false_iff, decide_eq_false_iff_not]
      simp only at this
      by_cases hlo : lo ≤ o + i
      · right; intro h; exact this ⟨hlo, h⟩
      · left; exact hlo
    have hst : (store ((⟨g, o, none⟩ : Addr).add i) v).run P w = .ok () (w.setRow g (cur.setIfInBounds (o + i) v)) := by
      rw [hadd, run_store P w _ v _ (h1 v (by simp)), hcell]
      simp [hfro, setCell_eq_setRow w g (o + i) cur t fz v hg]
    have ih := run_storeCells_thaw g o t fz rest (i + 1) (cur.setIfInBounds (o + i) v) (w.setRow g (cur.setIfInBounds (o + i) v)) (setRow_heap w g cur _ t _ hg) (thaw_set hfz) (by simp at hl ⊢; omega) (fun x hx => h1 x (by simp [hx]))
    simp only [storeCells, Sem.run_bind, hst, Result.andThen_ok, ih, setRow_setRow]
    congr 3
    have e := list_seg_step cur.toList (o + i) v rest (by simp at hl ⊢; omega)
    simpa [Array.toList_setIfInBounds, Nat.add_assoc] using e

/-- What is told of a block stays, as long as the lineages' heads do. -/
theorem OOk.heap {id : Id} {loc : Loc} {o : Obj} (h : OOk P ρ H id loc w o) (hl : ∀ l x st top, H.get l = some (.lin x st top) → H'.get l = some (.lin x st top)) : OOk P ρ H' id loc w o := by
  cases o with
  | one ty sz cs => exact h
  | arr ty sz n d t lin =>
    obtain ⟨h1, h2, h3, h4, c, e, fz, h5, h6, h7, h8, hty⟩ := h
    refine ⟨h1, h2, h3, ?_, c, e, fz, h5, fun hlt => h6 ?_, h7, ?_, hty⟩
    · intro l hl'
      obtain ⟨x, st, top, hg, hn⟩ := h4 l hl'
      exact ⟨x, st, top, hl _ _ _ _ hg, hn⟩
    · cases lin with
      | none => rfl
      | some l =>
        obtain ⟨x, st, top, hg, hn⟩ := h4 l rfl
        simp only [Heap.latest, hl _ _ _ _ hg] at hlt
        simp only [Heap.latest, hg]
        exact hlt
    · intro ix hix hrd
      refine h8 ix hix ?_
      cases lin with
      | none => rfl
      | some l =>
        obtain ⟨x, st, top, hg, hn⟩ := h4 l rfl
        have hg' := hl _ _ _ _ hg
        simp only [Heap.readable, hg'] at hrd
        simp only [Heap.readable, hg]
        exact hrd
  | lin _ _ _ => cases h
  | map es clock => exact h
  | loop st pd env ps as bd fn df => exact h
  | dfd _ => exact h
  | it _ _ _ _ => exact h

/-- A block that has one name alone is written. -/
theorem HRel.put1 (hH : HRel P ρ H w) {id : Id} {loc : Loc} {x : Obj} (hid : ρ id = some loc) (hsolo : ∀ b lb, ρ b = some lb → lb.blk = loc.blk → b = id) (hok : OOk P ρ (H.put id x) id loc w' x)
    (hsame : ∀ k, k ≠ loc.blk → w'.heap[k]? = w.heap[k]?) : HRel P ρ (H.put id x) w' := by
  obtain ⟨o0, ho0, hk0⟩ := hH.ok id loc hid
  have hlin : ∀ l y st top, H.get l = some (.lin y st top) → (H.put id x).get l = some (.lin y st top) := by
    intro l y st top hl
    have : l ≠ id := by
      intro e
      subst e
      rw [hl] at ho0
      cases ho0
      cases hk0
    rw [Heap.get_put_ne _ _ this]
    exact hl
  refine ⟨?_, ?_, ?_⟩
  · intro q l hq
    by_cases e : q = id
    · subst e
      rw [hid] at hq
      cases hq
      exact ⟨x, Heap.get_put_same _ _ _, hok⟩
    · obtain ⟨o, ho, hk⟩ := hH.ok q l hq
      refine ⟨o, by rw [Heap.get_put_ne _ _ e]; exact ho, (hk.heap hlin).keep (Ren.le_refl ρ) (hsame _ ?_)⟩
      intro hb
      exact e (hsolo q l hq hb)
  · intro a b la lb ha hb hab
    by_cases ea : a = id
    · subst ea
      rw [hid] at ha
      cases ha
      exact Or.inl (hsolo b lb hb hab.symm).symm
    · by_cases eb : b = id
      · subst eb
        rw [hid] at hb
        cases hb
        exact absurd (hsolo a la ha hab) ea
      · rcases hH.kin a b la lb ha hb hab with h | ⟨h1, l, ty, sz, n, d, t, ty', sz', n', d', t', g1, g2⟩
        · exact Or.inl h
        · exact Or.inr ⟨h1, l, ty, sz, n, d, t, ty', sz', n', d', t', by rw [Heap.get_put_ne _ _ ea]; exact g1, by rw [Heap.get_put_ne _ _ eb]; exact g2⟩
  · intro q o hq
    rw [Heap.next_put]
    by_cases e : q = id
    · subst e; exact hH.old q o0 ho0
    · rw [Heap.get_put_ne _ _ e] at hq
      exact hH.old q o hq

theorem Grow.put1 {id : Id} {loc : Loc} {x : Obj} (hid : ρ id = some loc) (hsame : ∀ k, k ≠ loc.blk → w'.heap[k]? = w.heap[k]?) (hsz : w'.heap.size = w.heap.size) (hio : SameIO w w') : Grow ρ ρ H (H.put id x) w w' := by
  refine ⟨Ren.le_refl ρ, by omega, ?_, (fun _ _ h h' => by rw [h] at h'; cases h'), (fun _ _ h h' => by rw [h] at h'; cases h'), by rw [Heap.next_put]; exact Nat.le_refl _, ?_, hio⟩
  · intro k hk hne
    exact hsame k fun e => hne id loc hid e.symm
  · intro q o hq ho _
    have : q ≠ id := by
      intro e
      subst e
      rw [hid] at hq
      cases hq
    rw [Heap.get_put_ne _ _ this]
    exact ho
end Go.AX
end

section
namespace Go.AX
/-! ## A map's update -/
variable {P : Program} {ρ ρ' : Ren} {w w' : World} {H H' : Heap}

theorem HRel.solo (hH : HRel P ρ H w) {id : Id} {loc : Loc} {o : Obj} (hid : ρ id = some loc) (ho : H.get id = some o) (hn : ∀ ty sz n d t l, o ≠ .arr ty sz n d t (some l)) : ∀ b lb, ρ b = some lb → lb.blk = loc.blk → b = id := by
  intro b lb hb hbl
  rcases hH.kin b id lb loc hb hid hbl with h | ⟨_, l, ty, sz, n, d, t, ty', sz', n', d', t', _, g2⟩
  · exact h
  · rw [ho] at g2
    cases g2
    exact absurd rfl (hn _ _ _ _ _ _)

structure EsRel (ρ : Ren) (es : List (AV × AV × Nat)) (es' : List MapEntry) : Prop where
  k : VRels ρ (es.map fun x => x.1) (es'.map (·.key))
  v : VRels ρ (es.map fun x => x.2.1) (es'.map (·.val))
  b : es.map (fun x => x.2.2) = es'.map (·.born)

theorem EsRel.cons {x : AV × AV × Nat} {y : MapEntry} {es : List (AV × AV × Nat)} {es' : List MapEntry} (h1 : VRel ρ x.1 y.key) (h2 : VRel ρ x.2.1 y.val) (h3 : x.2.2 = y.born) (h : EsRel ρ es es') : EsRel ρ (x :: es) (y :: es') :=
  ⟨.cons _ _ _ _ h1 h.k, .cons _ _ _ _ h2 h.v, by simp [h3, h.b]⟩

theorem EsRel.uncons {x : AV × AV × Nat} {y : MapEntry} {es : List (AV × AV × Nat)} {es' : List MapEntry} (h : EsRel ρ (x :: es) (y :: es')) : VRel ρ x.1 y.key ∧ VRel ρ x.2.1 y.val ∧ x.2.2 = y.born ∧ EsRel ρ es es' := by
  obtain ⟨h1, h2, h3⟩ := h
  cases h1 with
  | cons _ _ _ _ a1 b1 =>
  cases h2 with
  | cons _ _ _ _ a2 b2 =>
    simp only [List.map_cons, List.cons.injEq] at h3
    exact ⟨a1, a2, h3.1, b1, b2, h3.2⟩

theorem sameBits_of_cellEq {c : CT} {x y : AV} (h : cellEq c x y = some true) {a b : Value} (hx : VRel ρ x a) (hy : VRel ρ y b) (n : Nat) : Instr.sameBits n b a = true := by
  cases c with
  | i =>
    cases x <;> cases y <;> simp only [cellEq, reduceCtorEq] at h
    split at h
    · rename_i hk
      obtain rfl := kindEq_iff.1 hk
      simp only [Option.some.injEq] at h
      cases hx; cases hy
      rw [intEq_eq] at h
      have h := eq_of_beq h
      subst h
      unfold Instr.sameBits
      simp
    · cases h
  | s =>
    cases x <;> cases y <;> simp only [cellEq, reduceCtorEq, Option.some.injEq] at h
    cases hx with
    | s _ s hs =>
      cases hy with
      | s _ s' hs' =>
        unfold Instr.sameBits
        rw [beq_toListBytes, ByteArray.toList_eq, ByteArray.toList_eq, beq_iff_eq, ← natsOf_inj, hs, hs']
        exact (natsEq_iff.1 h).symm
  | b =>
    cases x <;> cases y <;> simp only [cellEq, reduceCtorEq, Option.some.injEq] at h
    rename_i m n'
    cases hx; cases hy
    unfold Instr.sameBits
    cases m <;> cases n' <;> first | rfl | cases h

theorem updKey_sound {kt : TypeId} {u : TypeDesc} {c : CT} (hu : P.underlying kt = some u) (hc : cellT P kt = some c) {k v : AV} {kv vv : Value} (hk : VRel ρ k kv) (hv : VRel ρ v vv) {clock : Nat} :
    ∀ {es es2 : List (AV × AV × Nat)} {es' : List MapEntry} {new : Bool} (j : Nat), updKeyA c k v clock es = some (es2, new) → EsRel ρ es es' →
      match new with
      | true => Instr.findNow u kv es' j = some none ∧ EsRel ρ es2 (es' ++ [{ key := kv, val := vv, born := clock }])
      | false => ∃ i old e, Instr.findNow u kv es' j = some (some (j + i, old)) ∧ es'[i]? = some e ∧ Instr.sameBits 10000 e.key kv = true ∧ EsRel ρ es2 (es'.modify i fun e => { e with key := kv, val := vv })
  | [], es2, [], new, j, h, hE => by
    simp only [updKeyA, Option.some.injEq, Prod.mk.injEq] at h
    obtain ⟨rfl, rfl⟩ := h
    exact ⟨rfl, EsRel.cons hk hv rfl ⟨.nil, .nil, rfl⟩⟩
  | [], _, _ :: _, _, _, _, hE => by have := hE.b; simp at this
  | _ :: _, _, [], _, _, _, hE => by have := hE.b; simp at this
  | (a, x, bn) :: es, es2, y :: es', new, j, h, hE => by
    obtain ⟨h1, h2, h3, hE'⟩ := hE.uncons
    simp only [updKeyA] at h
    split at h
    · rename_i he
      simp only [Option.some.injEq, Prod.mk.injEq] at h
      obtain ⟨rfl, rfl⟩ := h
      have hs := sameNow_sound hu hc he hk h1
      refine ⟨0, y.val, y, by simp [Instr.findNow, hs], rfl, sameBits_of_cellEq he hk h1 _, ?_⟩
      simp only [List.modify_zero_cons]
      exact EsRel.cons hk hv h3 hE'
    · rename_i he
      have hs := sameNow_sound hu hc he hk h1
      split at h
      · rename_i l' nw hl'
        simp only [Option.some.injEq, Prod.mk.injEq] at h
        obtain ⟨rfl, rfl⟩ := h
        have ih := updKey_sound hu hc hk hv (j + 1) hl' hE'
        cases nw with
        | true =>
          obtain ⟨i1, i2⟩ := ih
          exact ⟨by simp [Instr.findNow, hs, i1], EsRel.cons h1 h2 h3 i2⟩
        | false =>
          obtain ⟨i, old, e, i1, i2, i3, i4⟩ := ih
          refine ⟨i + 1, old, e, ?_, by simpa using i2, i3, ?_⟩
          · simp only [Instr.findNow, hs, i1]
            congr 3
            omega
          · simp only [List.modify_succ_cons]
            exact EsRel.cons h1 h2 h3 i4
      · cases h
    · cases h

/-- What an effect does. -/
structure Turns (P : Program) (ρ : Ren) (H : Heap) (w : World) (v : AV) (H' : Heap) (r : Result Next) : Prop where
  ex : ∃ n w' ρ', r = .ok n w' ∧ (n = .skip ∧ v = undef ∨ ∃ v', n = .value v' ∧ VRel ρ' v v') ∧ HRel P ρ' H' w' ∧ Grow ρ ρ' H H' w w'

theorem setObj_same {w : World} {r : Nat} {o : Go.Obj} : ∀ k, k ≠ r → ({ w with heap := w.heap.setIfInBounds r o } : World).heap[k]? = w.heap[k]? := by
  intro k hk
  simp only [Array.getElem?_setIfInBounds]
  rw [if_neg (fun e => hk e.symm)]

theorem run_setMap {r : Nat} {es : Array MapEntry} {clock : Nat} (o : Go.Obj) (hb : w.heap[r]? = some (.map es clock)) : (setObj r o).run P w = .ok () { w with heap := w.heap.setIfInBounds r o } := by
  simp [setObj, Sem.run, hb]

theorem mapUpd_sound (hH : HRel P ρ H w) {t kt el : TypeId} {c : CT} {m k v : AV} (hu : P.underlying t = some (.map kt el)) (hc : cellT P kt = some c) (h : mapUpdA c H m k v = some H') {a b d : Value} (hm : VRel ρ m a) (hk : VRel ρ k b) (hv : VRel ρ v d) :
    ∃ w', (Instr.mapUpdate t a b d).run P w = .ok () w' ∧ HRel P ρ H' w' ∧ Grow ρ ρ H H' w w' := by
  have hku : ∃ u, P.underlying kt = some u := by
    unfold cellT at hc
    cases hk : P.underlying kt with
    | none => rw [hk] at hc; cases hc
    | some u => exact ⟨u, rfl⟩
  obtain ⟨u, hku⟩ := hku
  cases hm <;> try (cases h; done)
  rename_i id loc hl
  simp only [mapUpdA] at h
  split at h
  · rename_i es ck hg
    split at h
    · cases h
    · split at h
      · rename_i es2 new hupd
        simp only [Option.some.injEq] at h
        subst h
        obtain ⟨o, ho, hok⟩ := hH.ok id loc hl
        rw [hg] at ho
        simp only [Option.some.injEq] at ho
        subst ho
        obtain ⟨es', h1, h2, h3, h4⟩ := hok
        have hE : EsRel ρ es es'.toList := ⟨h2, h3, h4⟩
        have hsolo := hH.solo hl hg (fun _ _ _ _ _ _ e => by cases e)
        have hlt : loc.blk < w.heap.size := (Array.getElem?_eq_some_iff.1 h1).1
        have hs := updKey_sound hku hc hk hv 0 hupd hE
        have fin : ∀ (es2' : Array MapEntry) (ck' : Nat), EsRel ρ es2 es2'.toList → HRel P ρ (H.put id (.map es2 ck')) { w with heap := w.heap.setIfInBounds loc.blk (.map es2' ck') } ∧ Grow ρ ρ H (H.put id (.map es2 ck')) w { w with heap := w.heap.setIfInBounds loc.blk (.map es2' ck') } := by
          intro es2' ck' hE2
          refine ⟨hH.put1 hl hsolo ⟨es2', ?_, hE2.k, hE2.v, hE2.b⟩ setObj_same, Grow.put1 hl setObj_same (by simp) ⟨rfl, rfl⟩⟩
          simp [hlt]
        have hrun : (Instr.mapUpdate t (.map (some loc.blk)) b d).run P w = (do
            match ← Instr.findKey kt b es'.toList with
            | some (i, _) => do
              let key ← Instr.keyThatStays (((es'[i]?).map (·.key)).getD b) b
              setObj loc.blk (.map (es'.modify i fun e => { e with key, val := d }) ck)
            | none => setObj loc.blk (.map (es'.push { key := b, val := d, born := ck }) (ck + 1)) : Sem Unit).run P w := by
          unfold Instr.mapUpdate
          simp only [Sem.run_bind, run_underlying hu, Result.andThen_ok, run_getObj_map (P := P) w loc.blk es' ck h1, checkKey_ok hku hc]
          rfl
        cases new with
        | true =>
          obtain ⟨s1, s2⟩ := hs
          obtain ⟨f1, f2⟩ := fin (es'.push { key := b, val := d, born := ck }) (ck + 1) (by rw [Array.toList_push]; exact s2)
          refine ⟨_, ?_, f1, f2⟩
          rw [hrun]
          simp only [Instr.findKey, Sem.run_bind, run_underlying hku, Result.andThen_ok, s1, Sem.run_pure]
          exact run_setMap _ h1
        | false =>
          obtain ⟨i, old, e, s1, s2, s3, s4⟩ := hs
          obtain ⟨f1, f2⟩ := fin (es'.modify i fun e => { e with key := b, val := d }) ck (by rw [Array.toList_modify]; exact s4)
          refine ⟨_, ?_, f1, f2⟩
          rw [hrun]
          rw [Nat.zero_add] at s1
          have e1 : es'[i]? = some e := by rw [← Array.getElem?_toList]; exact s2
          simp only [Instr.findKey, Sem.run_bind, run_underlying hku, Result.andThen_ok, s1, Sem.run_pure, Instr.keyThatStays, e1, Option.map_some, Option.getD_some, s3, if_true]
          exact run_setMap _ h1
      · cases h
  · cases h
end Go.AX
end

section
namespace Go.AX
/-! ## Stores -/
variable {P : Program} {ρ ρ' : Ren} {w w' : World} {H H' : Heap}

/-- Cells written: what is there then. -/
theorem store_cells {b o : Nat} {c : Array Value} {e : TypeId} {fz : Nat × Nat} (hb : w.heap[b]? = some (.cells c e fz)) (hfz : Thaw c fz) {vs : List Value} (hle : o + vs.length ≤ c.size) (h1 : ∀ v ∈ vs, v.oneCell' = true) :
    ∃ (w' : World) (c' : Array Value), (storeCells ⟨b, o, none⟩ vs).run P w = .ok () w' ∧ w'.heap[b]? = some (.cells c' e fz) ∧ Thaw c' fz ∧ c'.size = c.size ∧ (w'.heap.size = w.heap.size ∧ SameIO w w') ∧ (∀ k, k ≠ b → w'.heap[k]? = w.heap[k]?) ∧
      ∀ p, c'[p]? = if p < o then c[p]? else if p < o + vs.length then vs[p - o]? else c[p]? := by
  have hlen : o + vs.length ≤ c.toList.length := by rw [Array.length_toList]; exact hle
  have hsz : (c.toList.take o ++ vs ++ c.toList.drop (o + vs.length)).length = c.size := by
    simp only [List.length_append, List.length_take, List.length_drop, Array.length_toList]
    omega
  refine ⟨_, (c.toList.take o ++ vs ++ c.toList.drop (o + vs.length)).toArray, run_storeCells_thaw b o e fz vs 0 c w hb hfz hle h1, setRow_heap w b c _ e fz hb, ?_, ?_, ?_, ?_, ?_⟩
  · intro p hp
    rw [List.size_toArray, hsz] at hp
    exact hfz p hp
  · rw [List.size_toArray, hsz]
  · exact ⟨by simp [World.setRow], rfl, rfl⟩
  · intro k hk
    simp only [World.setRow]
    rw [Array.getElem?_modify, if_neg (fun e => hk e.symm)]
  · intro p
    rw [List.getElem?_toArray, splice_get hlen]
    simp only [Array.getElem?_toList]

theorem OOk.heap2 {id : Id} {loc : Loc} {o : Obj} (h : OOk P ρ H id loc w o) (hl : ∀ l x st top, H.get l = some (.lin x st top) → ∃ x' st' top', H'.get l = some (.lin x' st' top') ∧ top ≤ top')
    (hr : ∀ ix l, H'.readable id ix (some l) = true → H.readable id ix (some l) = true) (hlt : ∀ l, H'.latest id (some l) = true → H.latest id (some l) = true) : OOk P ρ H' id loc w o := by
  cases o with
  | one ty sz cs => exact h
  | arr ty sz n d t lin =>
    obtain ⟨h1, h2, h3, h4, c, e, fz, h5, h6, h7, h8, hty⟩ := h
    refine ⟨h1, h2, h3, ?_, c, e, fz, h5, fun hl2 => h6 ?_, h7, ?_, hty⟩
    · intro l hl'
      obtain ⟨x, st, top, hg, hn⟩ := h4 l hl'
      obtain ⟨x', st', top', hg', ht⟩ := hl _ _ _ _ hg
      exact ⟨x', st', top', hg', Nat.le_trans hn ht⟩
    · cases lin with
      | none => rfl
      | some l => exact hlt l hl2
    · intro ix hix hrd
      refine h8 ix hix ?_
      cases lin with
      | none => rfl
      | some l => exact hr ix l hrd
  | lin _ _ _ => cases h
  | map es clock => exact h
  | loop st pd env ps as bd fn df => exact h
  | dfd _ => exact h
  | it _ _ _ _ => exact h
theorem all_splice {vs cs : List AV} {o : Nat} (h1 : vs.all AV.flat = true) (h2 : cs.all AV.flat = true) : (cs.take o ++ vs ++ cs.drop (o + vs.length)).all AV.flat = true := by
  simp only [List.all_append, Bool.and_eq_true]
  exact ⟨⟨all_take _ h2, h1⟩, all_drop _ h2⟩

theorem spliceA_get {l vs : List AV} {o p : Nat} (h : o + vs.length ≤ l.length) :
    (l.take o ++ vs ++ l.drop (o + vs.length))[p]? = if p < o then l[p]? else if p < o + vs.length then vs[p - o]? else l[p]? := by
  have hto : (l.take o).length = o := by rw [List.length_take]; omega
  split
  · rename_i hp
    rw [List.append_assoc, List.getElem?_append_left (by omega), List.getElem?_take_of_lt hp]
  · rename_i hp
    split
    · rename_i hp2
      rw [List.append_assoc, List.getElem?_append_right (by omega), List.getElem?_append_left (by omega), hto]
    · rename_i hp2
      rw [List.getElem?_append_right (by rw [List.length_append]; omega), List.getElem?_drop, List.length_append, hto]
      congr 1
      omega

theorem all_one {vs : List AV} {ws : List Value} (h : VRels ρ vs ws) (hf : vs.all AV.flat = true) : ∀ v ∈ ws, v.oneCell' = true := by
  intro v hv
  obtain ⟨n, hn⟩ := List.getElem?_of_mem hv
  have hlt : n < vs.length := by rw [h.length]; exact (List.getElem?_eq_some_iff.1 hn).1
  obtain ⟨v', hv', hr⟩ := h.get (List.getElem?_eq_getElem hlt)
  rw [hn] at hv'
  cases hv'
  exact one_cell hr (VRels.flat_get hf (List.getElem?_eq_getElem hlt))
end Go.AX
end

section
namespace Go.AX
variable {P : Program} {ρ ρ' : Ren} {w w' : World} {H H' : Heap}

/-- An array's elements, one of them written in part. -/
theorem elems_store {n sz base ix off k : Nat} {d vs : List AV} {ws : List Value} {t : PT (List AV)} {c c' : Array Value} (hrec : ∀ q, (recAt t d q).length = sz ∧ (recAt t d q).all AV.flat = true)
    (hel : ∀ q, q < n → ∀ j a, (recAt t d q)[j]? = some a → ∃ v, c[base + q * sz + j]? = some v ∧ VRel ρ a v) (hv : VRels ρ vs ws) (hvf : vs.all AV.flat = true) (hk : vs.length = k) (hoff : off + k ≤ sz)
    (hget : ∀ p, c'[p]? = if p < base + ix * sz + off then c[p]? else if p < base + ix * sz + off + k then ws[p - (base + ix * sz + off)]? else c[p]?) :
    (∀ q, (recAt (PT.put (splice vs off (recAt t d ix)) (.ofNat ix) t) d q).length = sz ∧ (recAt (PT.put (splice vs off (recAt t d ix)) (.ofNat ix) t) d q).all AV.flat = true) ∧
    ∀ q, q < n → ∀ j a, (recAt (PT.put (splice vs off (recAt t d ix)) (.ofNat ix) t) d q)[j]? = some a → ∃ v, c'[base + q * sz + j]? = some v ∧ VRel ρ a v := by
  have hle : off + vs.length ≤ (recAt t d ix).length := by rw [(hrec ix).1]; omega
  rw [splice_eq _ _ _ hle]
  refine ⟨?_, ?_⟩
  · intro q
    by_cases e : q = ix
    · subst e
      rw [recAt_put_same]
      refine ⟨?_, all_splice hvf (hrec q).2⟩
      simp only [List.length_append, List.length_take, List.length_drop, (hrec q).1]
      omega
    · rw [recAt_put_ne _ _ _ e]
      exact hrec q
  · intro q hq j a hj
    by_cases e : q = ix
    · subst e
      rw [recAt_put_same, spliceA_get hle, hk] at hj
      rw [hget]
      split at hj
      · rename_i h1
        rw [if_pos (by omega)]
        exact hel q hq j a hj
      · rename_i h1
        split at hj
        · rename_i h2
          rw [if_neg (by omega), if_pos (by omega)]
          obtain ⟨v, hv', hr⟩ := hv.get hj
          refine ⟨v, ?_, hr⟩
          rw [← hv']
          congr 1
          omega
        · rename_i h2
          rw [if_neg (by omega), if_neg (by omega)]
          exact hel q hq j a hj
    · rw [recAt_put_ne _ _ _ e] at hj
      have hjs : j < sz := by rw [← (hrec q).1]; exact (List.getElem?_eq_some_iff.1 hj).1
      rw [hget]
      rcases Nat.lt_or_gt_of_ne e with hlt | hgt
      · have := Nat.mul_le_mul_right sz hlt
        rw [Nat.succ_mul] at this
        rw [if_pos (by omega)]
        exact hel q hq j a hj
      · have := Nat.mul_le_mul_right sz hgt
        rw [Nat.succ_mul] at this
        rw [if_neg (by omega), if_neg (by omega)]
        exact hel q hq j a hj

theorem store_sound (hH : HRel P ρ H w) {k : Nat} {x v : AV} {a b : Value} (hx : VRel ρ x a) (hv : VRel ρ v b) (h : storeA k v H x = some H') {t : TypeId} (hs : sz? P t = some k) :
    ∃ w', (Instr.storeAt t a b).run P w = .ok () w' ∧ HRel P ρ H' w' ∧ Grow ρ ρ H H' w w' := by
  unfold storeA at h
  split at h
  · rename_i vs hvs
    split at h
    · rename_i hk
      have hk := Nat.eq_of_beq_eq_true hk
      rw [len_eq] at hk
      obtain ⟨hv', hvf⟩ := cellsOf_sound hvs hv
      have hwl : b.cells.toList.length = k := by rw [← hv'.length]; exact hk
      have hbsz : b.cells.size = k := by rw [← hwl]; exact Array.length_toList.symm
      have h1 := all_one hv' hvf
      cases hx <;> try (cases h; done)
      rename_i id ix off loc hl
      have hrun : (Instr.storeAt t (.pointer (some ⟨loc.blk, loc.base + ix * loc.sz + off, none⟩)) b).run P w = (storeCells ⟨loc.blk, loc.base + ix * loc.sz + off, none⟩ b.cells.toList).run P w := by
        simp only [Instr.storeAt, Instr.sureAddr, storeVar, Sem.run_bind, Sem.run_pure, Result.andThen_ok, run_sizeOf' hs, hbsz, ne_eq, not_true_eq_false, if_false]
      rw [hrun]
      obtain ⟨o, ho, hok⟩ := hH.ok id loc hl
      cases o with
      | one ty sz cs =>
        simp only [storeCellsA, ho] at h
        split at h
        · split at h
          · rename_i hle
            rw [Nat.ble_eq] at hle
            simp only [Option.some.injEq] at h
            subst h
            obtain ⟨g1, g2, g3, c, e, fz, g4, g5, g6, g7, g8, hty⟩ := hok
            have hcl : cs.length = sz := by
              have h1 := g8.length
              have h2 : c.toList.length = c.size := Array.length_toList
              omega
            obtain ⟨w', c', s1, s2, s3, s4, ⟨s5, sio⟩, s6, s7⟩ := store_cells (P := P) (o := loc.base + 0 * loc.sz + off) g4 g5 (vs := b.cells.toList) (by rw [hwl]; omega) h1
            have hsolo := hH.solo hl ho (fun _ _ _ _ _ _ e => by cases e)
            have hspl := splice_eq vs off cs (by omega)
            refine ⟨w', s1, hH.put1 hl hsolo ⟨g1, g2, g3, c', e, fz, s2, s3, by omega, by rw [hspl]; exact all_splice hvf g7, ?_, hty⟩ s6, Grow.put1 hl s6 s5 sio⟩
            rw [hspl]
            apply VRels.of_get
            · simp only [List.length_append, List.length_take, List.length_drop, Array.length_toList]
              omega
            · intro p u y hu hy
              rw [spliceA_get (by omega)] at hu
              rw [Array.getElem?_toList, s7, hwl, g2] at hy
              simp only [Nat.zero_mul, Nat.zero_add] at hy
              have hold : cs[p]? = some u → c[p]? = some y → VRel ρ u y := by
                intro h1 h2
                obtain ⟨y', hy', hr⟩ := g8.get h1
                rw [Array.getElem?_toList, h2] at hy'
                cases hy'
                exact hr
              split at hu
              · rename_i c1
                rw [if_pos c1] at hy
                exact hold hu hy
              · rename_i c1
                rw [if_neg c1] at hy
                split at hu
                · rename_i c2
                  rw [if_pos (by omega)] at hy
                  obtain ⟨y', hy', hr⟩ := hv'.get hu
                  rw [hy] at hy'
                  cases hy'
                  exact hr
                · rename_i c2
                  rw [if_neg (by omega)] at hy
                  exact hold hu hy
          · cases h
        · cases h
      | arr ty sz n d tr lin =>
        simp only [storeCellsA, ho] at h
        split at h
        · cases h
        · rename_i hcond
          simp only [Bool.and_eq_true, Nat.blt_eq, Nat.ble_eq] at hcond
          obtain ⟨hix, hle⟩ := hcond
          obtain ⟨g1, g2, g3, g4, c, e, fz, g5, g6, g7, g8, hty⟩ := hok
          subst g1
          have g6 := g6 (by
            cases lin with
            | none => rfl
            | some l =>
              cases hgl : H.get l with
              | none => simp only [hgl, reduceCtorEq] at h
              | some ob =>
                cases ob with
                | lin x st top =>
                  cases hb : Id.beq x id with
                  | true => simp only [Heap.latest, hgl, hb]
                  | false => simp only [hgl, hb, reduceCtorEq] at h
                | _ => simp only [hgl, reduceCtorEq] at h)
          have hmul : ix * loc.sz + loc.sz ≤ n * loc.sz := by
            have := Nat.mul_le_mul_right loc.sz hix
            rwa [Nat.succ_mul] at this
          obtain ⟨w', c', s1, s2, s3, s4, ⟨s5, sio⟩, s6, s7⟩ := store_cells (P := P) (o := loc.base + ix * loc.sz + off) g5 g6 (vs := b.cells.toList) (by rw [hwl]; omega) h1
          rw [hwl] at s7
          refine ⟨w', s1, ?_⟩
          cases lin with
          | none =>
            simp only [Option.some.injEq] at h
            subst h
            have hsolo := hH.solo hl ho (fun _ _ _ _ _ _ e => by cases e)
            obtain ⟨q1, q2⟩ := elems_store (ρ := ρ) g3 (fun q hq => g8 q hq rfl) hv' hvf hk hle s7
            exact ⟨hH.put1 hl hsolo ⟨rfl, g2, q1, (fun l hl => by cases hl), c', e, fz, s2, fun _ => s3, by omega, fun q hq _ => q2 q hq, hty⟩ s6, Grow.put1 hl s6 s5 sio⟩
          | some l =>
            simp only at h
            split at h
            · rename_i x st top hlin
              split at h
              · rename_i hbeq
                have hxid : x = id := Id.beq_iff.1 hbeq
                subst hxid
                simp only [Option.some.injEq] at h
                subst h
                have hne : l ≠ x := by
                  intro e
                  subst e
                  rw [hlin] at ho
                  cases ho
                generalize hnew : Obj.arr ty loc.sz n d (PT.put (splice vs off (recAt tr d ix)) (.ofNat ix) tr) (some l) = nw
                have hgl : ((H.put l (.lin x (stableAt ix st) top)).put x nw).get l = some (.lin x (stableAt ix st) top) := by
                  rw [Heap.get_put_ne _ _ hne, Heap.get_put_same]
                have hgx : ((H.put l (.lin x (stableAt ix st) top)).put x nw).get x = some nw := Heap.get_put_same _ _ _
                have hgo : ∀ q, q ≠ l → q ≠ x → ((H.put l (.lin x (stableAt ix st) top)).put x nw).get q = H.get q := by
                  intro q q1 q2
                  rw [Heap.get_put_ne _ _ q2, Heap.get_put_ne _ _ q1]
                have hnx : ((H.put l (.lin x (stableAt ix st) top)).put x nw).next = H.next := by rw [Heap.next_put, Heap.next_put]
                generalize (H.put l (.lin x (stableAt ix st) top)).put x nw = H2 at hgl hgx hgo hnx
                have hself : ∀ q, H.readable x q (some l) = true := by
                  intro q
                  simp only [Heap.readable, hlin, hbeq, Bool.true_or]
                obtain ⟨q1, q2⟩ := elems_store (ρ := ρ) g3 (fun q hq => g8 q hq (hself q)) hv' hvf hk hle s7
                have hlins : ∀ l' y s' tp, H.get l' = some (.lin y s' tp) → ∃ y' s'' tp', H2.get l' = some (.lin y' s'' tp') ∧ tp ≤ tp' := by
                  intro l' y s' tp hl'
                  by_cases e1 : l' = l
                  · subst e1
                    rw [hlin] at hl'
                    cases hl'
                    exact ⟨_, _, _, hgl, Nat.le_refl _⟩
                  · have e2 : l' ≠ x := by
                      intro e
                      subst e
                      rw [hl'] at ho
                      cases ho
                    exact ⟨_, _, _, (hgo l' e1 e2).trans hl', Nat.le_refl _⟩
                have hshr : ∀ q, q ≠ x → ∀ i2 l', H2.readable q i2 (some l') = true → H.readable q i2 (some l') = true ∧ (l' = l → i2 < ix) := by
                  intro q hqx i2 l' hrd
                  by_cases e1 : l' = l
                  · subst e1
                    have hnb : Id.beq x q = false := Bool.eq_false_iff.2 (fun hh => hqx (Id.beq_iff.1 hh).symm)
                    simp only [Heap.readable, hgl, hnb, Bool.false_or] at hrd
                    simp only [Heap.readable, hlin, hnb, Bool.false_or]
                    cases st with
                    | none =>
                      simp only [stableAt, Nat.blt_eq] at hrd
                      exact ⟨rfl, fun _ => hrd⟩
                    | some k0 =>
                      simp only [stableAt, Nat.blt_eq] at hrd
                      have := Nat.lt_min.1 hrd
                      exact ⟨Nat.blt_eq.mpr this.1, fun _ => this.2⟩
                  · have e2 : l' = x ∨ l' ≠ x := Decidable.em _
                    rcases e2 with e2 | e2
                    · subst e2
                      simp only [Heap.readable, hgx, ← hnew] at hrd
                      cases hrd
                    · simp only [Heap.readable, hgo l' e1 e2] at hrd
                      exact ⟨by simp only [Heap.readable]; exact hrd, fun e => absurd e e1⟩
                have hlat : ∀ q l', H2.latest q (some l') = true → H.latest q (some l') = true := by
                  intro q l' hh
                  by_cases e1 : l' = l
                  · subst e1
                    simp only [Heap.latest, hgl] at hh
                    simp only [Heap.latest, hlin]
                    exact hh
                  · by_cases e2 : l' = x
                    · subst e2
                      simp only [Heap.latest, hgx, ← hnew] at hh
                      cases hh
                    · simp only [Heap.latest, hgo l' e1 e2] at hh
                      exact hh
                refine ⟨⟨?_, ?_, ?_⟩, ?_⟩
                · intro q lq hq
                  by_cases e : q = x
                  · subst e
                    rw [hl] at hq
                    cases hq
                    refine ⟨nw, hgx, ?_⟩
                    subst hnew
                    refine ⟨rfl, g2, q1, ?_, c', e, fz, s2, fun _ => s3, by omega, fun q hq _ => q2 q hq, hty⟩
                    intro l2 hl2
                    cases hl2
                    obtain ⟨y, s', tp, gg, hn⟩ := g4 l rfl
                    rw [hlin] at gg
                    cases gg
                    exact ⟨_, _, _, hgl, hn⟩
                  · obtain ⟨oq, hoq, hkq⟩ := hH.ok q lq hq
                    have hql : q ≠ l := by
                      intro e
                      subst e
                      rw [hlin] at hoq
                      cases hoq
                      cases hkq
                    refine ⟨oq, (hgo q hql e).trans hoq, ?_⟩
                    by_cases hb : lq.blk = loc.blk
                    · rcases hH.kin q x lq loc hq hl hb with h' | ⟨hloc, l2, ty2, sz2, n2, d2, t2, ty3, sz3, n3, d3, t3, k1, k2⟩
                      · exact absurd h' e
                      · rw [ho] at k2
                        cases k2
                        rw [hoq] at k1
                        cases k1
                        subst hloc
                        obtain ⟨f1, f2, f3, f4, cq, eq, fq, f5, f6, f7, f8, hty2⟩ := hkq
                        rw [g5] at f5
                        cases f5
                        refine ⟨f1, f2, f3, ?_, c', _, _, s2, fun _ => s3, by omega, ?_, hty2⟩
                        · intro l2 hl2
                          obtain ⟨y, s', tp, gg, hn⟩ := f4 l2 hl2
                          obtain ⟨y', s'', tp', gg', ht⟩ := hlins _ _ _ _ gg
                          exact ⟨y', s'', tp', gg', Nat.le_trans hn ht⟩
                        · intro i2 hi2 hrd j a0 hj
                          obtain ⟨r1, r2⟩ := hshr q e i2 l hrd
                          have r2 := r2 rfl
                          obtain ⟨v0, hv0, hr0⟩ := f8 i2 hi2 r1 j a0 hj
                          refine ⟨v0, ?_, hr0⟩
                          have hjs : j < sz2 := by rw [← (f3 i2).1]; exact (List.getElem?_eq_some_iff.1 hj).1
                          rw [s7]
                          have hm2 := Nat.mul_le_mul_right sz2 r2
                          rw [Nat.succ_mul] at hm2
                          subst f1
                          rw [if_pos (by omega)]
                          exact hv0
                    · exact (hkq.heap2 hlins (fun i2 l2 hrd => (hshr q e i2 l2 hrd).1) (fun l2 => hlat q l2)).keep (Ren.le_refl ρ) (s6 _ hb)
                · intro a0 b0 la lb ha hb hab
                  have tr0 : ∀ q lq ty sz n d t l2, ρ q = some lq → H.get q = some (.arr ty sz n d t (some l2)) → ∃ ty sz n d t, H2.get q = some (.arr ty sz n d t (some l2)) := by
                    intro q lq ty' sz n' d' t' l2 hq hg
                    by_cases e : q = x
                    · subst e
                      rw [ho] at hg
                      cases hg
                      rw [hgx, ← hnew]
                      exact ⟨_, _, _, _, _, rfl⟩
                    · have hql : q ≠ l := by
                        intro e
                        subst e
                        rw [hlin] at hg
                        cases hg
                      rw [hgo q hql e, hg]
                      exact ⟨_, _, _, _, _, rfl⟩
                  rcases hH.kin a0 b0 la lb ha hb hab with h' | ⟨h', l2, _, _, _, _, _, _, _, _, _, _, k1, k2⟩
                  · exact Or.inl h'
                  · obtain ⟨_, _, _, _, _, m1⟩ := tr0 a0 la _ _ _ _ _ _ ha k1
                    obtain ⟨_, _, _, _, _, m2⟩ := tr0 b0 lb _ _ _ _ _ _ hb k2
                    exact Or.inr ⟨h', l2, _, _, _, _, _, _, _, _, _, _, m1, m2⟩
                · intro q oq hq
                  rw [hnx]
                  by_cases e : q = x
                  · subst e; exact hH.old q _ ho
                  · by_cases e2 : q = l
                    · subst e2; exact hH.old q _ hlin
                    · rw [hgo q e2 e] at hq
                      exact hH.old q oq hq
                · refine ⟨Ren.le_refl ρ, by omega, ?_, (fun _ _ h h' => by rw [h] at h'; cases h'), (fun _ _ h h' => by rw [h] at h'; cases h'), by rw [hnx]; exact Nat.le_refl _, ?_, sio⟩
                  · intro k0 hk0 hne0
                    exact s6 k0 fun e => hne0 x loc hl e.symm
                  · intro q oq hq hoq hnl
                    have e1 : q ≠ x := by
                      intro e
                      subst e
                      rw [hl] at hq
                      cases hq
                    have e2 : q ≠ l := by
                      intro e
                      subst e
                      rw [hlin] at hoq
                      cases hoq
                      exact hnl _ _ _ rfl
                    rw [hgo q e2 e1]
                    exact hoq
              · cases h
            · cases h
      | lin _ _ _ => cases hok
      | map _ _ => simp only [storeCellsA, ho, reduceCtorEq] at h
      | loop _ _ _ _ _ _ _ _ => simp only [storeCellsA, ho, reduceCtorEq] at h
      | dfd _ => simp only [storeCellsA, ho, reduceCtorEq] at h
      | it _ _ _ _ => simp only [storeCellsA, ho, reduceCtorEq] at h
    · cases h
  · cases h
end Go.AX
end

section
namespace Go.AX
/-! ## append: what the model does -/
variable {P : Program} {ρ ρ' : Ren} {w w' : World} {H H' : Heap}

theorem growBy_le : ∀ (r c newLen : Nat), Builtin.growBy newLen r c ≤ max c (2 * newLen + 192)
  | 0, c, newLen => by simp only [Builtin.growBy]; omega
  | r + 1, c, newLen => by
    simp only [Builtin.growBy]
    split
    · omega
    · have := growBy_le r (c + (c + 768) / 4) newLen
      omega

theorem nextslicecap_le (newLen oldCap : Nat) (h : oldCap < newLen) : Builtin.nextslicecap newLen oldCap ≤ 2 * newLen + 192 := by
  unfold Builtin.nextslicecap
  split
  · omega
  · split
    · omega
    · have := growBy_le 4 oldCap newLen
      omega

theorem run_append_grow {ts : Array TypeId} {as : Array Value} {sT xT ty el : TypeId} {i : TypeInfo} {z : Value} (h0 : ts[0]? = some sT) (h1 : ts[1]? = some xT) (hu : P.underlying sT = some (.slice el)) {dx : TypeDesc} (hu2 : P.underlying xT = some dx) (hnx : notInt dx = true) (hi : P.info? el = some i) (hz : i.zero = some z) (hby : i.bytes ≤ 65536)
    {base : Option Addr} {sLen sCap n : Nat} {x : Value} (ha : as[0]? = some (.slice base sLen sCap)) (hb : as[1]? = some x) (hx : ∀ w : World, (Builtin.lenOf x).run P w = .ok n w) (hneed : sLen + n ≤ 1000000000) (hgt : sCap < sLen + n) {old new : Array Value}
    (hold : ∀ w1 : World, w1.heap = w.heap → (Builtin.firstCells i.size sLen (.slice base sLen sCap)).run P w1 = .ok old w1) (hnew : ∀ w1 : World, w1.heap = w.heap → (Builtin.firstCells i.size n x).run P w1 = .ok new w1) :
    ∃ cap, sLen + n ≤ cap ∧ (Builtin.append_ ts ty as).run P w = .ok (.slice (some ⟨w.heap.size, 0, none⟩) (sLen + n) cap)
      { w with drawn := w.drawn + 1, heap := w.heap.push (.cells (old ++ new ++ Builtin.zeroCells z.cells (cap - (sLen + n))) el (0, 0)) } := by
  refine ⟨(Question.appendCap (sLen + n) sCap el).cut (w.tape w.drawn (.appendCap (sLen + n) sCap el)), Nat.le_add_right _ _, ?_⟩
  have hty : ∀ w : World, (typeInfo el).run P w = .ok i w := fun w => by simp [typeInfo, hi]
  have hso : ∀ w : World, (sizeOf el).run P w = .ok i.size w := fun w => by simp [sizeOf, typeInfo, hi]
  have hzv : ∀ w : World, (zeroValue el).run P w = .ok z w := fun w => by simp [zeroValue, typeInfo, hi, hz]
  have hcap := nextslicecap_le (sLen + n) sCap hgt
  have hroom : ¬ (Builtin.nextslicecap (sLen + n) sCap * i.bytes > 2 ^ 48) := by
    have h1 : Builtin.nextslicecap (sLen + n) sCap * i.bytes ≤ 2000000192 * 65536 := Nat.mul_le_mul (by omega) hby
    omega
  have hmax : ¬ (((sLen + n : Nat) : Int) > IntKind.i64.max) := by
    have : IntKind.i64.max = 9223372036854775807 := by decide
    omega
  unfold Builtin.append_
  cases dx <;> try (cases hnx; done)
  all_goals
  simp only [h0, h1, ha, hb, Sem.run_bind, run_underlying hu, run_underlying hu2, Result.andThen_ok, hso, Sem.run_pure, Bool.false_eq_true, if_false, hx, Nat.not_le.2 hgt, hmax, false_and, hty, hroom, run_choose, Question.forced, run_askRoom]
  all_goals
  have e1 := hold { w with drawn := w.drawn + 1 } rfl
  have e2 := hnew { w with drawn := w.drawn + 1 } rfl
  simp only [e1, e2, Result.andThen_ok, Bool.not_false, if_true, hzv]
  rfl

theorem run_append_in {ts : Array TypeId} {as : Array Value} {sT xT ty el : TypeId} {i : TypeInfo} (h0 : ts[0]? = some sT) (h1 : ts[1]? = some xT) (hu : P.underlying sT = some (.slice el)) {dx : TypeDesc} (hu2 : P.underlying xT = some dx) (hnx : notInt dx = true) (hi : P.info? el = some i)
    {base : Addr} {sLen sCap n : Nat} {x : Value} (ha : as[0]? = some (.slice (some base) sLen sCap)) (hb : as[1]? = some x) (hx : ∀ w : World, (Builtin.lenOf x).run P w = .ok n w) (hle : sLen + n ≤ sCap) {new : Array Value}
    (hnew : (Builtin.firstCells i.size n x).run P w = .ok new w) (hst : (storeCells (base.add (sLen * i.size)) new.toList).run P w = .ok () w') :
    (Builtin.append_ ts ty as).run P w = .ok (.slice (some base) (sLen + n) sCap) w' := by
  have hso : ∀ w : World, (sizeOf el).run P w = .ok i.size w := fun w => by simp [sizeOf, typeInfo, hi]
  unfold Builtin.append_
  cases dx <;> try (cases hnx; done)
  all_goals
  simp only [h0, h1, ha, hb, Sem.run_bind, run_underlying hu, run_underlying hu2, Result.andThen_ok, hso, Sem.run_pure, Bool.false_eq_true, if_false, hx, if_pos hle, Bool.not_false, if_true, hnew, hst]
end Go.AX
end

section
namespace Go.AX
/-! ## append: what is told -/
theorem copyElems_rec (t : PT (List AV)) (d : List AV) (d' : List AV) : ∀ (n src ix q : Nat) (out : PT (List AV)), recAt (copyElems t d n src ix out) d' q = if q < ix then recAt out d' q else if q < ix + n then recAt t d (src + (q - ix)) else recAt out d' q
  | 0, src, ix, q, out => by
    simp only [copyElems]
    split
    · rfl
    · rw [if_neg (by omega)]
  | n + 1, src, ix, q, out => by
    simp only [copyElems]
    rw [copyElems_rec t d d' n (src + 1) (ix + 1) q]
    by_cases h : q < ix
    · rw [if_pos (by omega), if_pos h, recAt_put_ne _ _ _ (by omega)]
    · rw [if_neg h]
      by_cases e : q = ix
      · subst e
        rw [if_pos (by omega), if_pos (by omega), recAt_put_same, Nat.sub_self, Nat.add_zero]
      · rw [if_neg (by omega)]
        by_cases h2 : q < ix + (n + 1)
        · rw [if_pos (by omega), if_pos h2]
          congr 1
          omega
        · rw [if_neg (by omega), if_neg h2, recAt_put_ne _ _ _ e]
end Go.AX
end

section
namespace Go.AX
variable {P : Program} {ρ ρ' : Ren} {w w' : World} {H H' : Heap}

/-- The first elements of a slice, as they are told. -/
theorem slice_cells (hH : HRel P ρ H w) {id : Id} {loc : Loc} (hl : ρ id = some loc) {sz m st ln : Nat} {d : List AV} {t : PT (List AV)} {lin : Option Id} {ty : Nat} (hg : H.get id = some (.arr ty sz m d t lin)) (hle : st + ln ≤ m)
    (hrd : ∀ q, q < ln → H.readable id (st + q) lin = true) {o : Nat} (ho : ln ≠ 0 → o = loc.base + st * loc.sz) :
    ∃ cs : List Value, cs.length = ln * sz ∧ (∀ w1 : World, w1.heap = w.heap → (loadCells ⟨loc.blk, o, none⟩ (ln * sz)).run P w1 = .ok cs.toArray w1) ∧ ∀ q, q < ln → ∀ j a, (recAt t d (st + q))[j]? = some a → ∃ v, cs[q * sz + j]? = some v ∧ VRel ρ a v := by
  obtain ⟨ob, hob, hok⟩ := hH.ok id loc hl
  rw [hg] at hob
  simp only [Option.some.injEq] at hob
  subst hob
  obtain ⟨h1, h2, h3, _, c, e, fz, h4, h5, h6, h7, _⟩ := hok
  subst h1
  have hmul : (st + ln) * loc.sz ≤ m * loc.sz := Nat.mul_le_mul_right _ hle
  rw [Nat.add_mul] at hmul
  refine ⟨(List.range (ln * loc.sz)).map fun p => c.getD (o + p) Go.undef, by simp, ?_, ?_⟩
  · intro w1 hw
    have hcell : ∀ p, w1.cell? ⟨loc.blk, p, none⟩ = c[p]? := fun p => cell_of (by rw [hw]; exact h4)
    refine run_loadCells (P := P) w1 ⟨loc.blk, o, none⟩ (ln * loc.sz) (fun p => c.getD (o + p) Go.undef) ?_
    intro p hp
    have hln : ln ≠ 0 := by
      intro e
      subst e
      omega
    have ho := ho hln
    rw [addr_add, hcell]
    have hlt : o + p < c.size := by omega
    simp [Array.getD, hlt]
  · intro q hq j a hj
    have ho := ho (by omega)
    obtain ⟨v, hv, hr⟩ := h7 (st + q) (by omega) (hrd q hq) j a hj
    refine ⟨v, ?_, hr⟩
    have hjs : j < loc.sz := by rw [← (h3 (st + q)).1]; exact (List.getElem?_eq_some_iff.1 hj).1
    have hm2 : (q + 1) * loc.sz ≤ ln * loc.sz := Nat.mul_le_mul_right _ hq
    rw [Nat.succ_mul] at hm2
    rw [List.getElem?_map, List.getElem?_range (by omega), Option.map_some]
    rw [Nat.add_mul] at hv
    have e : o + (q * loc.sz + j) = loc.base + (st * loc.sz + q * loc.sz) + j := by omega
    rw [e]
    simp [Array.getD_eq_getD_getElem?, hv]

theorem srcElems_sound (hH : HRel P ρ H w) {sz n : Nat} {x : AV} {b : Value} {add : Nat → PT (List AV) → PT (List AV)} (hx : VRel ρ x b) (h : srcElems sz H x = some (n, add)) :
    (∀ w : World, (Builtin.lenOf b).run P w = .ok n w) ∧ ∃ (news : List Value) (rc : Nat → List AV), news.length = n * sz ∧ (∀ w1 : World, w1.heap = w.heap → (Builtin.firstCells sz n b).run P w1 = .ok news.toArray w1) ∧
      (∀ q, q < n → (rc q).length = sz ∧ (rc q).all AV.flat = true) ∧ (∀ q, q < n → ∀ j a, (rc q)[j]? = some a → ∃ v, news[q * sz + j]? = some v ∧ VRel ρ a v) ∧
      ∀ ix out d' q, recAt (add ix out) d' q = if q < ix then recAt out d' q else if q < ix + n then rc (q - ix) else recAt out d' q := by
  cases hx <;> try (cases h; done)
  · rename_i l s hs
    simp only [srcElems] at h
    split at h
    · rename_i hsz
      have hsz := Nat.eq_of_beq_eq_true hsz
      subst hsz
      simp only [Option.some.injEq, Prod.mk.injEq] at h
      obtain ⟨rfl, rfl⟩ := h
      have hl : l.length = s.size := by rw [← hs, List.length_map]; exact Array.length_toList
      rw [len_eq, hl]
      refine ⟨fun w => rfl, l.map fun c => .int .u8 (.ofNat c), fun q => match l[q]? with | some c => [.i .u8 (.ofNat c)] | none => [], by simp [hl], ?_, ?_, ?_, ?_⟩
      · intro w1 _
        have : ((s.extract 0 s.size).data.map fun b => Value.int .u8 b.toNat) = (l.map fun c => Value.int .u8 (.ofNat c)).toArray := by
          have he : (s.extract 0 s.size).data = s.data := by
            rw [ByteArray.data_extract]
            show s.data.extract 0 s.data.size = _
            simp
          rw [he]
          apply Array.ext'
          rw [← hs]
          simp
        simp only [Builtin.firstCells, this]
        rfl
      · intro q hq
        simp only [List.getElem?_eq_getElem (show q < l.length by omega)]
        exact ⟨rfl, rfl⟩
      · intro q hq j a hj
        have hql : q < l.length := by omega
        simp only [List.getElem?_eq_getElem hql] at hj
        cases j with
        | succ j => simp at hj
        | zero =>
          simp only [List.getElem?_cons_zero, Option.some.injEq] at hj
          subst hj
          refine ⟨_, ?_, .i _ _⟩
          rw [Nat.mul_one, Nat.add_zero, List.getElem?_map, List.getElem?_eq_getElem hql]
          rfl
      · intro ix out d' q
        rw [byteElems_rec]
        by_cases h1 : q < ix
        · rw [if_pos h1, if_pos h1]
        · rw [if_neg h1, if_neg h1]
          by_cases h2 : q < ix + s.size
          · rw [if_pos h2]
            simp only [List.getElem?_eq_getElem (show q - ix < l.length by omega)]
          · rw [if_neg h2]
            simp only [List.getElem?_eq_none (show l.length ≤ q - ix by omega)]
    · cases h
  · simp only [srcElems, Option.some.injEq, Prod.mk.injEq] at h
    obtain ⟨rfl, rfl⟩ := h
    refine ⟨fun w => rfl, [], fun _ => [], by simp, fun w1 _ => rfl, fun q hq => absurd hq (by omega), fun q hq => absurd hq (by omega), ?_⟩
    intro ix out d' q
    split
    · rfl
    · rw [if_neg (by omega)]
  · rename_i id st ln cap z loc c hl hz hlc hc ht o ho
    simp only [srcElems] at h
    split at h
    · rename_i ty' sz' m d t lin hg
      split at h
      · rename_i hb
        simp only [Option.some.injEq, Prod.mk.injEq] at h
        obtain ⟨rfl, rfl⟩ := h
        rw [Bool.and_eq_true, Bool.and_eq_true, Nat.ble_eq] at hb
        obtain ⟨⟨hzz, hle⟩, hrd⟩ := hb
        have hzz := Nat.eq_of_beq_eq_true hzz
        obtain ⟨ob, hob, hok⟩ := hH.ok id loc hl
        rw [hg] at hob
        simp only [Option.some.injEq] at hob
        subst hob
        obtain ⟨g1, _, g3, _⟩ := hok
        have hrd' : ∀ q, q < ln → H.readable id (st + q) lin = true := by
          intro q hq
          cases ln with
          | zero => omega
          | succ k => exact readable_down hrd (by omega)
        obtain ⟨cs, f1, f2, f3⟩ := slice_cells (P := P) hH hl hg hle hrd' (o := o) (fun hn => ho (by omega))
        have hs : loc.sz = sz := hz.trans hzz
        rw [← g1, hs] at f1 f2 f3
        refine ⟨fun w => rfl, cs, fun q => recAt t d (st + q), f1, fun w1 hw => f2 w1 hw, ?_, f3, fun ix out d' q => copyElems_rec t d d' _ st ix q out⟩
        intro q _
        rw [← hs, g1]
        exact g3 (st + q)
      · cases h
    · cases h
end Go.AX
end

section
namespace Go.AX
variable {P : Program} {ρ ρ' : Ren} {w w' : World} {H H' : Heap}

/-- A heap with a new block that has no name yet. -/
theorem HRel.new (hH : HRel P ρ H w) (x : Obj) (hpos : ∀ id o, H.get id = some o → id ≠ H.next) : HRel P ρ (H.new x) w := by
  have hget : ∀ q o, H.get q = some o → (H.new x).get q = some o := by
    intro q o hq
    rw [Heap.get_new_ne _ _ (hpos q o hq)]
    exact hq
  refine ⟨?_, ?_, ?_⟩
  · intro q l hq
    obtain ⟨o, ho, hk⟩ := hH.ok q l hq
    exact ⟨o, hget _ _ ho, hk.heap (fun l x' st top hl => hget _ _ hl)⟩
  · intro a b la lb ha hb hab
    rcases hH.kin a b la lb ha hb hab with h | ⟨h1, l, ty, sz, n, d, t, ty', sz', n', d', t', g1, g2⟩
    · exact Or.inl h
    · exact Or.inr ⟨h1, l, ty, sz, n, d, t, ty', sz', n', d', t', hget _ _ g1, hget _ _ g2⟩
  · intro q o hq
    rw [Heap.next_new]
    by_cases e : q = H.next
    · subst e
      rw [Id.num_succ]
      omega
    · rw [Heap.get_new_ne _ _ e] at hq
      have := hH.old q o hq
      rw [Id.num_succ]
      omega
theorem HRel.fresh (hH : HRel P ρ H w) : ρ H.next = none := by
  cases h : ρ H.next with
  | none => rfl
  | some l =>
    obtain ⟨o, ho, _⟩ := hH.ok _ l h
    have := hH.old _ o ho
    omega
theorem HRel.get_next (hH : HRel P ρ H w) : ∀ id o, H.get id = some o → id ≠ H.next := by
  intro id o h e
  have := hH.old id o h
  rw [e] at this
  omega
end Go.AX
end

section
namespace Go.AX
/-! ## append: what is there behind it -/
variable {P : Program} {ρ ρ' : Ren} {w w' : World} {H H' : Heap}

theorem run_append_nil {ts : Array TypeId} {as : Array Value} {sT xT ty el : TypeId} {i : TypeInfo} (h0 : ts[0]? = some sT) (h1 : ts[1]? = some xT) (hu : P.underlying sT = some (.slice el)) {dx : TypeDesc} (hu2 : P.underlying xT = some dx) (hnx : notInt dx = true) (hi : P.info? el = some i)
    {x : Value} (ha : as[0]? = some (.slice none 0 0)) (hb : as[1]? = some x) (hx : ∀ w : World, (Builtin.lenOf x).run P w = .ok 0 w) {new : Array Value} (hnew : (Builtin.firstCells i.size 0 x).run P w = .ok new w) :
    (Builtin.append_ ts ty as).run P w = .ok (.slice none 0 0) w := by
  have hso : ∀ w : World, (sizeOf el).run P w = .ok i.size w := fun w => by simp [sizeOf, typeInfo, hi]
  unfold Builtin.append_
  cases dx <;> try (cases hnx; done)
  all_goals
  simp only [h0, h1, ha, hb, Sem.run_bind, run_underlying hu, run_underlying hu2, Result.andThen_ok, hso, Sem.run_pure, Bool.false_eq_true, if_false, hx, Nat.add_zero, Nat.le_refl, if_true, Bool.not_false, hnew]

theorem elems_join {ln n sz : Nat} {old new rest : Array Value} (h1 : old.size = ln * sz) (h2 : new.size = n * sz) {R : Nat → List AV} (hrec : ∀ q, (R q).length = sz)
    (ho : ∀ q, q < ln → ∀ j a, (R q)[j]? = some a → ∃ v, old[q * sz + j]? = some v ∧ VRel ρ a v) (hn : ∀ q, q < n → ∀ j a, (R (ln + q))[j]? = some a → ∃ v, new[q * sz + j]? = some v ∧ VRel ρ a v) :
    ∀ ix, ix < ln + n → ∀ j a, (R ix)[j]? = some a → ∃ v, (old ++ new ++ rest)[ix * sz + j]? = some v ∧ VRel ρ a v := by
  intro ix hix j a hj
  have hjs : j < sz := by rw [← hrec ix]; exact (List.getElem?_eq_some_iff.1 hj).1
  by_cases h : ix < ln
  · obtain ⟨v, hv, hr⟩ := ho ix h j a hj
    have hm := Nat.mul_le_mul_right sz h
    rw [Nat.succ_mul] at hm
    refine ⟨v, ?_, hr⟩
    rw [Array.getElem?_append_left (by rw [Array.size_append]; omega), Array.getElem?_append_left (by omega)]
    exact hv
  · have e : ix = ln + (ix - ln) := by omega
    obtain ⟨v, hv, hr⟩ := hn (ix - ln) (by omega) j a (by rw [← e]; exact hj)
    have hm : (ix - ln + 1) * sz ≤ n * sz := Nat.mul_le_mul_right sz (by omega)
    rw [Nat.succ_mul] at hm
    have e2 : ix * sz = ln * sz + (ix - ln) * sz := by rw [← Nat.add_mul, ← e]
    refine ⟨v, ?_, hr⟩
    rw [Array.getElem?_append_left (by rw [Array.size_append]; omega), Array.getElem?_append_right (by omega), ← hv]
    congr 1
    omega

theorem Grow.newH (hH : HRel P ρ H w) (x : Obj) : Grow ρ ρ H (H.new x) w w := by
  refine ⟨Ren.le_refl ρ, Nat.le_refl _, fun _ _ _ => rfl, (fun _ _ h h' => by rw [h] at h'; cases h'), (fun _ _ h h' => by rw [h] at h'; cases h'), ?_, ?_, rfl, rfl⟩
  · rw [Heap.next_new, Id.num_succ]; omega
  · intro id o _ ho _
    rw [Heap.get_new_ne _ _ (hH.get_next id o ho)]
    exact ho

/-- A new array, of which the elements are told, gets the next name. -/
theorem grown_new (hH : HRel P ρ H w) {sz m : Nat} {d : List AV} {tr : PT (List AV)} {old new rest : Array Value} {ln n cap : Nat} {t : TypeId} (hrec : ∀ q, (recAt tr d q).length = sz ∧ (recAt tr d q).all AV.flat = true)
    (h1 : old.size = ln * sz) (h2 : new.size = n * sz) (hm : ln + n = m) (hcap : m ≤ cap) (hrest : rest.size = (cap - m) * sz)
    (ho : ∀ q, q < ln → ∀ j a, (recAt tr d q)[j]? = some a → ∃ v, old[q * sz + j]? = some v ∧ VRel ρ a v) (hn : ∀ q, q < n → ∀ j a, (recAt tr d (ln + q))[j]? = some a → ∃ v, new[q * sz + j]? = some v ∧ VRel ρ a v)
    (hw : w'.heap = w.heap.push (.cells (old ++ new ++ rest) t (0, 0))) (hio : SameIO w w') :
    ∃ ρ', VRel ρ' (.sl H.next 0 m none sz) (.slice (some ⟨w.heap.size, 0, none⟩) m cap) ∧ HRel P ρ' (H.new (.arr t sz m d tr none)) w' ∧ Grow ρ ρ' H (H.new (.arr t sz m d tr none)) w w' := by
  have hsz : (old ++ new ++ rest).size = cap * sz := by
    simp only [Array.size_append, h1, h2, hrest]
    rw [← Nat.add_mul, ← Nat.add_mul]
    congr 1
    omega
  have hfr := hH.fresh
  have hels := elems_join (rest := rest) h1 h2 (fun q => (hrec q).1) ho hn
  rw [hm] at hels
  have hget : w'.heap[w.heap.size]? = some (.cells (old ++ new ++ rest) t (0, 0)) := by rw [hw]; simp
  have hcm : m * sz ≤ cap * sz := Nat.mul_le_mul_right sz hcap
  obtain ⟨q1, q2⟩ := makes_arr (P := P) (ρ := ρ) (H := H.new (.arr t sz m d tr none)) (w' := w') hrec (by rw [hsz]; exact hcm) hcap (by rw [hsz]; exact Nat.le_refl _) hels (cap := none) (by intro q h; cases h) hget (by intro o ho; simp) H.next hfr
  have hH1 := hH.new (.arr t sz m d tr none) hH.get_next
  have hsame : ∀ k, k < w.heap.size → w'.heap[k]? = w.heap[k]? := fun k hk => by rw [hw]; exact push_old _ _ hk
  refine ⟨_, q1, hH1.name hfr (Heap.get_new_same _ _) hsame (Nat.le_refl _) q2, (Grow.newH hH _).name hfr (Nat.le_refl _) hsame (by rw [hw]; simp) (Nat.le_refl _) hio⟩
end Go.AX
end

section
namespace Go.AX
variable {P : Program} {ρ ρ' : Ren} {w w' : World} {H H' H3 : Heap}

theorem elems_in {sz base K n : Nat} {c c' : Array Value} {news : List Value} {t : PT (List AV)} {d : List AV} {rc R' : Nat → List AV} (hrec : ∀ q, (recAt t d q).length = sz) (hrc : ∀ q, q < n → (rc q).length = sz)
    (hnew : ∀ q, q < n → ∀ j a, (rc q)[j]? = some a → ∃ v, news[q * sz + j]? = some v ∧ VRel ρ a v) (hR : ∀ q, R' q = if q < K then recAt t d q else if q < K + n then rc (q - K) else recAt t d q)
    (hget : ∀ p, c'[p]? = if p < base + K * sz then c[p]? else if p < base + K * sz + n * sz then news[p - (base + K * sz)]? else c[p]?) (q : Nat)
    (hold : ¬ (K ≤ q ∧ q < K + n) → ∀ j a, (recAt t d q)[j]? = some a → ∃ v, c[base + q * sz + j]? = some v ∧ VRel ρ a v) :
    ∀ j a, (R' q)[j]? = some a → ∃ v, c'[base + q * sz + j]? = some v ∧ VRel ρ a v := by
  intro j a hj
  rw [hR] at hj
  rw [hget]
  split at hj
  · rename_i h
    have hjs : j < sz := by rw [← hrec q]; exact (List.getElem?_eq_some_iff.1 hj).1
    have hm := Nat.mul_le_mul_right sz h
    rw [Nat.succ_mul] at hm
    rw [if_pos (by omega)]
    exact hold (by omega) j a hj
  · rename_i h
    split at hj
    · rename_i h2
      have hjs : j < sz := by rw [← hrc (q - K) (by omega)]; exact (List.getElem?_eq_some_iff.1 hj).1
      have e2 : q * sz = K * sz + (q - K) * sz := by rw [← Nat.add_mul]; congr 1; omega
      have hm : (q - K + 1) * sz ≤ n * sz := Nat.mul_le_mul_right sz (by omega)
      rw [Nat.succ_mul] at hm
      rw [if_neg (by omega), if_pos (by omega)]
      obtain ⟨v, hv, hr⟩ := hnew (q - K) (by omega) j a hj
      refine ⟨v, ?_, hr⟩
      rw [← hv]
      congr 1
      omega
    · rename_i h2
      have hm : (K + n) * sz ≤ q * sz := Nat.mul_le_mul_right sz (by omega)
      rw [Nat.add_mul] at hm
      rw [if_neg (by omega), if_neg (by omega)]
      exact hold (by omega) j a hj

/-- The heap behind an append to a slice of which the capacity isn't known: the old name and the new one are of one lineage. -/
structure Relin (ρ : Ren) (H H3 : Heap) (id id' l : Id) (loc : Loc) (ty sz m ln : Nat) (d : List AV) (t : PT (List AV)) (lin : Option Id) (nw : Obj) : Prop where
  hid : ρ id = some loc
  g : H.get id = some (.arr ty sz m d t lin)
  g3 : H3.get id = some (.arr ty sz m d t (some l))
  gn : H3.get id' = some nw
  oth : ∀ q o, H.get q = some o → q ≠ id → q ≠ l → H3.get q = some o
  lins : ∀ y s tp, H.get l = some (.lin y s tp) → lin = some l ∧ ∃ y' s' tp', H3.get l = some (.lin y' s' tp') ∧ tp ≤ tp'
  lin3 : ∃ y' s' tp', H3.get l = some (.lin y' s' tp') ∧ m ≤ tp'
  fl : ρ l = none
  fl2 : ∀ o, H.get l = some o → ∃ y s tp, o = .lin y s tp
  fn : ρ id' = none
  nx : H.next.num ≤ id'.num
  nx3 : H.next.num ≤ H3.next.num
  rd : ∀ q ty' sz' n' d' t' lin', H.get q = some (.arr ty' sz' n' d' t' lin') → q ≠ id' → (q = id ∨ lin' = some l) → (lin' = some l → ∃ x s tp, H.get l = some (.lin x s tp) ∧ n' ≤ tp) → ∀ i, i < n' → H3.readable q i (some l) = true → H.readable q i lin' = true ∧ i < ln
  old : ∀ q o, H3.get q = some o → q.num < H3.next.num
  lc : lin = none ∨ lin = some l
  lt : ∀ q, H3.latest q (some l) = true → q = id'

theorem Relin.olds {id id' l : Id} {loc : Loc} {ty sz m ln : Nat} {d : List AV} {t : PT (List AV)} {lin : Option Id} {nw : Obj} (R : Relin ρ H H3 id id' l loc ty sz m ln d t lin nw) (hH : HRel P ρ H w)
    (hc : ∀ c e fz, w.heap[loc.blk]? = some (.cells c e fz) → ∃ c', w'.heap[loc.blk]? = some (.cells c' e fz) ∧ Thaw c' fz ∧ c'.size = c.size ∧ ∀ p, p < loc.base + ln * loc.sz → c'[p]? = c[p]?)
    (hs : ∀ k, k < w.heap.size → k ≠ loc.blk → w'.heap[k]? = w.heap[k]?) :
    ∀ q lq, ρ q = some lq → ∃ o, H3.get q = some o ∧ OOk P ρ H3 q lq w' o ∧ (∀ o0 ty sz n d t l2, H.get q = some o0 → o0 = .arr ty sz n d t (some l2) → o = o0) := by
  intro q lq hq
  obtain ⟨oq, hoq, hkq⟩ := hH.ok q lq hq
  have hqn : q ≠ id' := by intro e; subst e; rw [R.fn] at hq; cases hq
  have hql : q ≠ l := by intro e; subst e; rw [R.fl] at hq; cases hq
  obtain ⟨y3, s3, tp3, hl3, hmt⟩ := R.lin3
  by_cases e : q = id
  · subst e
    rw [R.hid] at hq
    cases hq
    rw [R.g] at hoq
    cases hoq
    refine ⟨_, R.g3, ?_, ?_⟩
    · obtain ⟨f1, f2, f3, f4, c, e, fz, f5, f6, f7, f8, hty⟩ := hkq
      obtain ⟨c', k1, k2, k3, k4⟩ := hc c e fz f5
      refine ⟨f1, f2, f3, ?_, c', e, fz, k1, fun _ => k2, by omega, ?_, hty⟩
      · intro l2 hl2
        cases hl2
        exact ⟨_, _, _, hl3, hmt⟩
      · intro i hi hrd j a hj
        obtain ⟨r1, r2⟩ := R.rd q _ _ _ _ _ _ R.g hqn (.inl rfl) (fun he => f4 l he) i hi hrd
        obtain ⟨v, hv, hr⟩ := f8 i hi r1 j a hj
        refine ⟨v, ?_, hr⟩
        have hjs : j < sz := by rw [← (f3 i).1]; exact (List.getElem?_eq_some_iff.1 hj).1
        have hm2 := Nat.mul_le_mul_right sz r2
        rw [Nat.succ_mul] at hm2
        subst f1
        rw [k4 _ (by omega)]
        exact hv
    · intro o0 _ _ _ _ _ l2 ho0 he
      rw [R.g] at ho0
      cases ho0
      cases he
      rcases R.lc with h | h
      · cases h
      · cases h; rfl
  · refine ⟨oq, R.oth q oq hoq e hql, ?_, fun o0 _ _ _ _ _ _ ho0 _ => by rw [hoq] at ho0; cases ho0; rfl⟩
    have hlins : ∀ l' y s tp, H.get l' = some (.lin y s tp) → ∃ y' s' tp', H3.get l' = some (.lin y' s' tp') ∧ tp ≤ tp' := by
      intro l' y s tp hl'
      by_cases e1 : l' = l
      · subst e1; exact (R.lins y s tp hl').2
      · have e2 : l' ≠ id := by intro e; subst e; rw [R.g] at hl'; cases hl'
        exact ⟨_, _, _, R.oth l' _ hl' e2 e1, Nat.le_refl _⟩
    cases oq with
    | arr ty2 sz2 n2 d2 t2 lin2 =>
      obtain ⟨f1, f2, f3, f4, c, e, fz, f5, f6, f7, f8, hty⟩ := hkq
      have hlin2 : ∀ l2, lin2 = some l2 → ∃ x st top, H3.get l2 = some (.lin x st top) ∧ n2 ≤ top := by
        intro l2 h2
        obtain ⟨x, st, top, g1, g2⟩ := f4 l2 h2
        obtain ⟨x', st', top', g1', g2'⟩ := hlins _ _ _ _ g1
        exact ⟨x', st', top', g1', Nat.le_trans g2 g2'⟩
      by_cases hb : lq.blk = loc.blk
      · rcases hH.kin q id lq loc hq R.hid hb with h' | ⟨hloc, l2, ty2', sz2', n2', d2', t2', ty3, sz3, n3, d3, t3, k1, k2⟩
        · exact absurd h' (by assumption)
        · rw [R.g] at k2
          cases k2
          rw [hoq] at k1
          cases k1
          rcases R.lc with hlc | hlc
          · cases hlc
          · cases hlc
            subst hloc
            obtain ⟨c', k1, k2, k3, k4⟩ := hc c e fz f5
            refine ⟨f1, f2, f3, hlin2, c', e, fz, k1, fun _ => k2, by omega, ?_, hty⟩
            intro i hi hrd j a hj
            obtain ⟨r1, r2⟩ := R.rd q _ _ _ _ _ _ hoq hqn (.inr rfl) (fun he => f4 l he) i hi hrd
            obtain ⟨v, hv, hr⟩ := f8 i hi r1 j a hj
            refine ⟨v, ?_, hr⟩
            have hjs : j < sz2 := by rw [← (f3 i).1]; exact (List.getElem?_eq_some_iff.1 hj).1
            have hm2 := Nat.mul_le_mul_right sz2 r2
            rw [Nat.succ_mul] at hm2
            subst f1
            rw [k4 _ (by omega)]
            exact hv
      · have hlt : lq.blk < w.heap.size := (Array.getElem?_eq_some_iff.1 f5).1
        refine ⟨f1, f2, f3, hlin2, c, e, fz, (hs _ hlt hb).trans f5, fun hla => f6 ?_, f7, ?_, hty⟩
        · cases lin2 with
          | none => rfl
          | some l2 =>
            by_cases e1 : l2 = l
            · subst e1
              exact absurd (R.lt q hla) hqn
            · obtain ⟨x, st, top, g1, g2⟩ := f4 l2 rfl
              have e2 : l2 ≠ id := by intro e; subst e; rw [R.g] at g1; cases g1
              have := R.oth l2 _ g1 e2 e1
              simp only [Heap.latest, this] at hla
              simp only [Heap.latest, g1]
              exact hla
        intro i hi hrd
        refine f8 i hi ?_
        cases lin2 with
        | none => rfl
        | some l2 =>
          by_cases e1 : l2 = l
          · subst e1
            exact (R.rd q _ _ _ _ _ _ hoq hqn (.inr rfl) (fun he => f4 l2 he) i hi hrd).1
          · obtain ⟨x, st, top, g1, g2⟩ := f4 l2 rfl
            have e2 : l2 ≠ id := by intro e; subst e; rw [R.g] at g1; cases g1
            have := R.oth l2 _ g1 e2 e1
            simp only [Heap.readable, this] at hrd
            simp only [Heap.readable, g1]
            exact hrd
    | one ty2 sz2 cs2 =>
      refine OOk.keep (P := P) (ρ := ρ) (w := w) hkq (Ren.le_refl ρ) (hs _ hkq.lt ?_)
      intro hb
      rcases hH.kin q id lq loc hq R.hid hb with h' | ⟨_, l2, _, _, _, _, _, _, _, _, _, _, k1, _⟩
      · exact absurd h' (by assumption)
      · rw [hoq] at k1; cases k1
    | lin _ _ _ => cases hkq
    | map es ck =>
      refine OOk.keep (P := P) (ρ := ρ) (H := H3) (w := w) hkq (Ren.le_refl ρ) (hs _ hkq.lt ?_)
      intro hb
      rcases hH.kin q id lq loc hq R.hid hb with h' | ⟨_, l2, _, _, _, _, _, _, _, _, _, _, k1, _⟩
      · exact absurd h' (by assumption)
      · rw [hoq] at k1; cases k1
    | loop _ _ _ _ _ _ _ _ =>
      refine OOk.keep (P := P) (ρ := ρ) (H := H3) (w := w) hkq (Ren.le_refl ρ) (hs _ hkq.lt ?_)
      intro hb
      rcases hH.kin q id lq loc hq R.hid hb with h' | ⟨_, l2, _, _, _, _, _, _, _, _, _, _, k1, _⟩
      · exact absurd h' (by assumption)
      · rw [hoq] at k1; cases k1
    | it _ _ _ _ =>
      refine OOk.keep (P := P) (ρ := ρ) (H := H3) (w := w) hkq (Ren.le_refl ρ) (hs _ hkq.lt ?_)
      intro hb
      rcases hH.kin q id lq loc hq R.hid hb with h' | ⟨_, l2, _, _, _, _, _, _, _, _, _, _, k1, _⟩
      · exact absurd h' (by assumption)
      · rw [hoq] at k1; cases k1
    | dfd _ =>
      refine OOk.keep (P := P) (ρ := ρ) (H := H3) (w := w) hkq (Ren.le_refl ρ) (hs _ hkq.lt ?_)
      intro hb
      rcases hH.kin q id lq loc hq R.hid hb with h' | ⟨_, l2, _, _, _, _, _, _, _, _, _, _, k1, _⟩
      · exact absurd h' (by assumption)
      · rw [hoq] at k1; cases k1

theorem Relin.hrel {id id' l : Id} {loc loc' : Loc} {ty sz m ln n' : Nat} {d d' : List AV} {t t' : PT (List AV)} {lin : Option Id} (R : Relin ρ H H3 id id' l loc ty sz m ln d t lin (.arr ty sz n' d' t' (some l))) (hH : HRel P ρ H w)
    (hc : ∀ c e fz, w.heap[loc.blk]? = some (.cells c e fz) → ∃ c', w'.heap[loc.blk]? = some (.cells c' e fz) ∧ Thaw c' fz ∧ c'.size = c.size ∧ ∀ p, p < loc.base + ln * loc.sz → c'[p]? = c[p]?)
    (hs : ∀ k, k < w.heap.size → k ≠ loc.blk → w'.heap[k]? = w.heap[k]?) (hsz : w.heap.size ≤ w'.heap.size) (hio : SameIO w w') (hloc : loc' = loc ∨ w.heap.size ≤ loc'.blk)
    (hn : OOk P (ρ.set id' loc') H3 id' loc' w' (.arr ty sz n' d' t' (some l))) :
    HRel P (ρ.set id' loc') H3 w' ∧ Grow ρ (ρ.set id' loc') H H3 w w' := by
  have ho := R.olds hH hc hs
  have back : ∀ q lq, q ≠ id' → ρ.set id' loc' q = some lq → ρ q = some lq := fun q lq hne hq => by rwa [Ren.set_ne _ hne] at hq
  have hlts : ∀ q lq, ρ q = some lq → lq.blk < w.heap.size := fun q lq hq => by
    obtain ⟨o, _, hk⟩ := hH.ok q lq hq
    exact hk.lt
  have kin' : ∀ b lb, b ≠ id' → ρ b = some lb → loc'.blk = lb.blk → loc' = lb ∧ ∃ ty sz n d t, H3.get b = some (.arr ty sz n d t (some l)) := by
    intro b lb hbn hb hbl
    rcases hloc with h | h
    · subst h
      rcases hH.kin b id lb loc' hb R.hid hbl.symm with h' | ⟨hl, l2, _, _, _, _, _, _, _, _, _, _, k1, k2⟩
      · subst h'
        rw [R.hid] at hb
        cases hb
        exact ⟨rfl, _, _, _, _, _, R.g3⟩
      · rw [R.g] at k2
        cases k2
        rcases R.lc with hlc | hlc
        · cases hlc
        · cases hlc
          obtain ⟨o, g1, _, g2⟩ := ho b lb hb
          rw [g2 _ _ _ _ _ _ _ k1 rfl] at g1
          exact ⟨hl.symm, _, _, _, _, _, g1⟩
    · have := hlts b lb hb
      omega
  refine ⟨⟨?_, ?_, R.old⟩, ?_⟩
  · intro q lq hq
    by_cases e : q = id'
    · subst e
      rw [Ren.set_same] at hq
      cases hq
      exact ⟨_, R.gn, hn⟩
    · obtain ⟨o, g1, g2, _⟩ := ho q lq (back q lq e hq)
      exact ⟨o, g1, g2.keep (Ren.le_set R.fn) rfl⟩
  · intro a b la lb ha hb hab
    by_cases ea : a = id'
    · by_cases eb : b = id'
      · exact .inl (ea.trans eb.symm)
      · subst ea
        rw [Ren.set_same] at ha
        cases ha
        obtain ⟨h1, _, _, _, _, _, h2⟩ := kin' b lb eb (back b lb eb hb) hab
        exact .inr ⟨h1, l, _, _, _, _, _, _, _, _, _, _, R.gn, h2⟩
    · by_cases eb : b = id'
      · subst eb
        rw [Ren.set_same] at hb
        cases hb
        obtain ⟨h1, _, _, _, _, _, h2⟩ := kin' a la ea (back a la ea ha) hab.symm
        exact .inr ⟨h1.symm, l, _, _, _, _, _, _, _, _, _, _, h2, R.gn⟩
      · have ha := back a la ea ha
        have hb := back b lb eb hb
        rcases hH.kin a b la lb ha hb hab with h' | ⟨hl, l2, _, _, _, _, _, _, _, _, _, _, k1, k2⟩
        · exact .inl h'
        · obtain ⟨o1, g1, _, g2⟩ := ho a la ha
          obtain ⟨o2, g3, _, g4⟩ := ho b lb hb
          rw [g2 _ _ _ _ _ _ _ k1 rfl] at g1
          rw [g4 _ _ _ _ _ _ _ k2 rfl] at g3
          exact .inr ⟨hl, l2, _, _, _, _, _, _, _, _, _, _, g1, g3⟩
  · refine ⟨Ren.le_set R.fn, hsz, ?_, ?_, ?_, R.nx3, ?_, hio⟩
    · intro k hk hne
      exact hs k hk fun e => hne id loc R.hid e.symm
    · intro q lq hq hq0
      by_cases e : q = id'
      · subst e
        rw [Ren.set_same] at hq
        cases hq
        rcases hloc with h | h
        · subst h
          exact .inr ⟨id, loc', R.hid, rfl⟩
        · exact .inl h
      · rw [Ren.set_ne _ e, hq0] at hq
        cases hq
    · intro q lq hq hq0
      by_cases e : q = id'
      · subst e; exact R.nx
      · rw [Ren.set_ne _ e, hq0] at hq
        cases hq
    · intro q o hq ho' hnl
      refine R.oth q o ho' ?_ ?_
      · intro e; subst e; rw [R.hid] at hq; cases hq
      · intro e
        subst e
        obtain ⟨y, s, tp, he⟩ := R.fl2 o ho'
        exact hnl _ _ _ he
end Go.AX
end

section
namespace Go.AX
variable {P : Program} {ρ ρ' : Ren} {w w' : World} {H H' H3 : Heap}

theorem size_zeroCells (z : Array Value) (n : Nat) : (Builtin.zeroCells z n).size = n * z.size := by simp [Builtin.zeroCells]

/-- An append in place, to a slice that begins at cell o. -/
theorem append_place {sz n K : Nat} {loc : Loc} {cs : Array Value} {e : TypeId} {fz : Nat × Nat} (f5 : w.heap[loc.blk]? = some (.cells cs e fz)) (f6 : Thaw cs fz) {news : List Value} (hnl : news.length = n * sz) {rc : Nat → List AV}
    (hrcl : ∀ q, q < n → (rc q).length = sz ∧ (rc q).all AV.flat = true) (hnew : ∀ q, q < n → ∀ j a, (rc q)[j]? = some a → ∃ v, news[q * sz + j]? = some v ∧ VRel ρ a v) (hfit : loc.base + K * sz + n * sz ≤ cs.size) :
    ∃ (w' : World) (c' : Array Value), (storeCells ⟨loc.blk, loc.base + K * sz, none⟩ news).run P w = .ok () w' ∧ w'.heap[loc.blk]? = some (.cells c' e fz) ∧ Thaw c' fz ∧ c'.size = cs.size ∧ (w'.heap.size = w.heap.size ∧ SameIO w w') ∧ (∀ k, k ≠ loc.blk → w'.heap[k]? = w.heap[k]?) ∧
      ∀ p, c'[p]? = if p < loc.base + K * sz then cs[p]? else if p < loc.base + K * sz + n * sz then news[p - (loc.base + K * sz)]? else cs[p]? := by
  obtain ⟨w', c', s1, s2, s3, s4, s5, s6, s7⟩ := store_cells (P := P) (o := loc.base + K * sz) f5 f6 (vs := news) (by omega) (by
    intro v hv
    obtain ⟨p, hp⟩ := List.getElem?_of_mem hv
    have hlt : p < n * sz := by rw [← hnl]; exact (List.getElem?_eq_some_iff.1 hp).1
    have hz : 0 < sz := by
      rcases Nat.eq_zero_or_pos sz with h | h
      · subst h; omega
      · exact h
    have hq : p / sz < n := (Nat.div_lt_iff_lt_mul hz).2 hlt
    have hm := Nat.mod_lt p hz
    have hjj : p % sz < (rc (p / sz)).length := by rw [(hrcl _ hq).1]; exact hm
    obtain ⟨v', hv', hr⟩ := hnew _ hq (p % sz) _ (List.getElem?_eq_getElem hjj)
    rw [Nat.div_add_mod' p sz, hp] at hv'
    cases hv'
    exact one_cell hr (VRels.flat_get (hrcl _ hq).2 (List.getElem?_eq_getElem hjj)))
  rw [hnl] at s7
  exact ⟨w', c', s1, s2, s3, s4, s5, s6, s7⟩

theorem append_sound (hH : HRel P ρ H w) {ts : Array TypeId} {as : Array Value} {sT xT ty el : TypeId} {dx : TypeDesc} {i : TypeInfo} {z : Value} {zero : List AV} {sz : Nat} (h0 : ts[0]? = some sT) (h1 : ts[1]? = some xT) (hu : P.underlying sT = some (.slice el)) (hu2 : P.underlying xT = some dx) (hnx : notInt dx = true)
    (hi : P.info? el = some i) (hz : i.zero = some z) (hby : i.bytes ≤ 65536) (hisz : i.size = sz) (hzr : VRels ρ zero z.cells.toList) (hzf : zero.all AV.flat = true) (hzl : zero.length = sz) {s x v : AV} {a b : Value} (ha : as[0]? = some a) (hb : as[1]? = some b) (hs : VRel ρ s a) (hx : VRel ρ x b)
    (h : appendA el sz zero H s x = some (v, H')) : ∃ w' ρ' v', (Builtin.append_ ts ty as).run P w = .ok v' w' ∧ VRel ρ' v v' ∧ HRel P ρ' H' w' ∧ Grow ρ ρ' H H' w w' := by
  unfold appendA at h
  split at h
  · cases h
  rename_i n add hsrc
  obtain ⟨hlen, news, rc, hnl, hfirst, hrcl, hnew, hadd⟩ := srcElems_sound (P := P) hH hx hsrc
  have hzc : z.cells.size = sz := by
    have h1 := hzr.length
    have h2 : z.cells.toList.length = z.cells.size := Array.length_toList
    omega
  subst hisz
  have hrest : ∀ k, (Builtin.zeroCells z.cells k).size = k * i.size := fun k => by rw [size_zeroCells, hzc]
  have hnsz : news.toArray.size = n * i.size := by simp [hnl]
  have hnew' : ∀ q, q < n → ∀ j a, (rc q)[j]? = some a → ∃ v, news.toArray[q * i.size + j]? = some v ∧ VRel ρ a v := fun q hq j a hj => by
    simpa using hnew q hq j a hj
  cases hs <;> try (cases h; done)
  · simp only at h
    split at h
    · rename_i hn
      simp only [Option.some.injEq, Prod.mk.injEq] at h
      obtain ⟨rfl, rfl⟩ := h
      exact ⟨w, ρ, _, run_append_nil h0 h1 hu hu2 hnx hi ha hb hlen (hfirst w rfl), .sl0, hH, Grow.refl _ _ _⟩
    · rename_i hn
      split at h
      · rename_i hle
        rw [Nat.ble_eq] at hle
        simp only [Option.some.injEq, Prod.mk.injEq] at h
        obtain ⟨rfl, rfl⟩ := h
        obtain ⟨cap, hcap, hrun⟩ := run_append_grow (w := w) (ty := ty) h0 h1 hu hu2 hnx hi hz hby ha hb hlen (by omega) (by have : n ≠ 0 := hn; omega) (old := #[]) (new := news.toArray) (fun w1 _ => rfl) (fun w1 hw1 => hfirst w1 hw1)
        obtain ⟨ρ', q1, q2, q3⟩ := grown_new hH (d := zero) (tr := add 0 .e) (sz := i.size) (old := #[]) (new := news.toArray) (rest := Builtin.zeroCells z.cells (cap - (0 + n))) (ln := 0) (n := n) (m := n) (cap := cap) (t := el)
          (w' := { w with drawn := w.drawn + 1, heap := w.heap.push (.cells (#[] ++ news.toArray ++ Builtin.zeroCells z.cells (cap - (0 + n))) el (0, 0)) })
          (by
            intro q
            rw [hadd, if_neg (by omega)]
            split
            · exact hrcl _ (by omega)
            · rw [recAt_e]; exact ⟨hzl, hzf⟩) (by simp) hnsz (by omega) (by omega) (by rw [hrest]; simp) (fun q hq => absurd hq (by omega)) (by
            intro q hq j a hj
            rw [hadd, if_neg (by omega), if_pos (by omega)] at hj
            have e : 0 + q - 0 = q := by omega
            rw [e] at hj
            exact hnew' q hq j a hj) rfl ⟨rfl, rfl⟩
        refine ⟨_, ρ', _, hrun, ?_, q2, q3⟩
        rw [Nat.zero_add]
        exact q1
      · cases h
  · rename_i id st ln cap zz loc c hl hz' hlc hc ht o ho
    simp only at h
    split at h
    · rename_i ty' sz' m d t lin hg
      split at h
      · cases h
      · rename_i hcond
        simp only [Bool.and_eq_true, Nat.ble_eq] at hcond
        obtain ⟨⟨⟨⟨hb0, hb1⟩, hb2⟩, hb3⟩, hb4⟩ := hcond
        have hb0 := Nat.eq_of_beq_eq_true hb0
        subst hb0
        have hb1 := Nat.eq_of_beq_eq_true hb1
        have hb2 := Nat.eq_of_beq_eq_true hb2
        subst hb1
        have hlsz : loc.sz = i.size := hz'.trans hb2
        split at h
        · rename_i hn
          simp only [Option.some.injEq, Prod.mk.injEq] at h
          obtain ⟨rfl, rfl⟩ := h
          have hn0 : news = [] := by
            have : news.length = 0 := by rw [hnl]; omega
            exact List.length_eq_zero_iff.1 this
          refine ⟨w, ρ, _, run_append_in h0 h1 hu hu2 hnx hi ha hb hlen (by omega) (hfirst w rfl) (w' := w) (by rw [hn0]; rfl), ?_, hH, Grow.refl _ _ _⟩
          exact .sl id st ln cap zz loc c hl hz' hlc hc ht o ho
        · rename_i hn
          have hn : n ≠ 0 := hn
          obtain ⟨ob, hob, hok⟩ := hH.ok id loc hl
          rw [hg] at hob
          cases hob
          obtain ⟨f1, f2, f3, f4, cs, e, fz, f5, f6, f7, f8, hty⟩ := hok
          rw [hlsz] at ht
          have hold : (∀ q, q < ln → H.readable id (st + q) lin = true) → ∃ old : List Value, old.length = ln * i.size ∧ (∀ w1 : World, w1.heap = w.heap → (loadCells ⟨loc.blk, o, none⟩ (ln * i.size)).run P w1 = .ok old.toArray w1) ∧ ∀ q, q < ln → ∀ j a, (recAt t d (st + q))[j]? = some a → ∃ v, old.toArray[q * i.size + j]? = some v ∧ VRel ρ a v := by
            intro hrd
            obtain ⟨old, g1, g2, g3⟩ := slice_cells (P := P) hH hl hg hb4 hrd (o := o) (fun hne => ho (by omega))
            exact ⟨old, g1, g2, fun q hq j a hj => by simpa using g3 q hq j a hj⟩
          split at h
          · rename_i cp
            have hcp := hc cp rfl
            subst hcp
            split at h
            · rename_i hroom
              rw [Nat.ble_eq] at hroom
              split at h
              · split at h
                · rename_i hfit
                  rw [Nat.ble_eq] at hfit
                  simp only [Option.some.injEq, Prod.mk.injEq] at h
                  obtain ⟨rfl, rfl⟩ := h
                  have hmul : (st + ln) * i.size + n * i.size ≤ m * i.size := by rw [← Nat.add_mul]; exact Nat.mul_le_mul_right _ hfit
                  have ho := ho (by omega)
                  obtain ⟨w', c', s1, s2, s3, s4, ⟨s5, sio⟩, s6, s7⟩ := append_place (P := P) (ρ := ρ) (K := st + ln) f5 (f6 rfl) hnl hrcl hnew (by omega)
                  have haddr : (⟨loc.blk, o, none⟩ : Addr).add (ln * i.size) = ⟨loc.blk, loc.base + (st + ln) * i.size, none⟩ := by
                    rw [addr_add, ho, hlsz, Nat.add_mul, Nat.add_assoc]
                  have hsolo := hH.solo hl hg (fun _ _ _ _ _ _ e => by cases e)
                  refine ⟨w', ρ, _, run_append_in h0 h1 hu hu2 hnx hi ha hb hlen (by omega) (hfirst w rfl) (by rw [haddr]; exact s1), ?_, hH.put1 hl hsolo ?_ s6, Grow.put1 hl s6 s5 sio⟩
                  · refine .sl id st (ln + n) (some c) i.size loc c hl hlsz (by omega) hc (by rw [hlsz]; exact ht) o ?_
                    intro _
                    exact ho
                  · refine ⟨hlsz, f2, ?_, (fun l hl => by cases hl), c', e, fz, s2, fun _ => s3, by omega, ?_, hty⟩
                    · intro q
                      rw [hadd]
                      split
                      · exact f3 q
                      · split
                        · exact hrcl _ (by omega)
                        · exact f3 q
                    · intro q hq _
                      refine elems_in (R' := fun q => recAt (add (st + ln) t) d q) (fun q => (f3 q).1) (fun q hq => (hrcl q hq).1) hnew (fun q => hadd _ _ _ q) s7 q ?_
                      intro _
                      exact f8 q hq rfl
                · cases h
              · cases h
            · rename_i hroom
              have hroom : ¬ ln + n ≤ c := fun hh => by rw [Nat.ble_eq_true_of_le hh] at hroom; cases hroom
              split at h
              · rename_i hrd
                have hrd' : ∀ q, q < ln → H.readable id (st + q) lin = true := by
                  intro q hq
                  cases ln with
                  | zero => omega
                  | succ k => exact readable_down hrd (by omega)
                obtain ⟨old, g1, g2, g3⟩ := hold hrd'
                obtain ⟨cap2, hcap2, hrun⟩ := run_append_grow (w := w) (ty := ty) h0 h1 hu hu2 hnx hi hz hby ha hb hlen hb3 (by omega) (old := old.toArray) (new := news.toArray) (fun w1 hw1 => g2 w1 hw1) (fun w1 hw1 => hfirst w1 hw1)
                have hosz : old.toArray.size = ln * i.size := by simp [g1]
                split at h
                · simp only [Option.some.injEq, Prod.mk.injEq] at h
                  obtain ⟨rfl, rfl⟩ := h
                  obtain ⟨ρ', q1, q2, q3⟩ := grown_new hH (d := d) (tr := add ln t) (sz := i.size) (old := old.toArray) (new := news.toArray) (rest := Builtin.zeroCells z.cells (cap2 - (ln + n))) (ln := ln) (n := n) (m := ln + n) (cap := cap2) (t := el)
                    (w' := { w with drawn := w.drawn + 1, heap := w.heap.push (.cells (old.toArray ++ news.toArray ++ Builtin.zeroCells z.cells (cap2 - (ln + n))) el (0, 0)) })
                    (by
                      intro q
                      rw [hadd]
                      split
                      · exact f3 q
                      · split
                        · exact hrcl _ (by omega)
                        · exact f3 q) hosz hnsz rfl hcap2 (hrest _) (by
                      intro q hq j a hj
                      rw [hadd, if_pos hq] at hj
                      exact g3 q hq j a (by rw [Nat.zero_add]; exact hj)) (by
                      intro q hq j a hj
                      rw [hadd, if_neg (by omega), if_pos (by omega)] at hj
                      have e : ln + q - ln = q := by omega
                      rw [e] at hj
                      exact hnew' q hq j a hj) rfl ⟨rfl, rfl⟩
                  exact ⟨_, ρ', _, hrun, q1, q2, q3⟩
                · simp only [Option.some.injEq, Prod.mk.injEq] at h
                  obtain ⟨rfl, rfl⟩ := h
                  obtain ⟨ρ', q1, q2, q3⟩ := grown_new hH (d := zero) (tr := add ln (copyElems t d ln st 0 .e)) (sz := i.size) (old := old.toArray) (new := news.toArray) (rest := Builtin.zeroCells z.cells (cap2 - (ln + n))) (ln := ln) (n := n) (m := ln + n) (cap := cap2) (t := el)
                    (w' := { w with drawn := w.drawn + 1, heap := w.heap.push (.cells (old.toArray ++ news.toArray ++ Builtin.zeroCells z.cells (cap2 - (ln + n))) el (0, 0)) })
                    (by
                      intro q
                      rw [hadd]
                      have hcp : (recAt (copyElems t d ln st 0 .e) zero q).length = i.size ∧ (recAt (copyElems t d ln st 0 .e) zero q).all AV.flat = true := by
                        rw [copyElems_rec, if_neg (by omega)]
                        split
                        · exact f3 _
                        · rw [recAt_e]; exact ⟨hzl, hzf⟩
                      split
                      · exact hcp
                      · split
                        · exact hrcl _ (by omega)
                        · exact hcp) hosz hnsz rfl hcap2 (hrest _) (by
                      intro q hq j a hj
                      rw [hadd, if_pos hq, copyElems_rec, if_neg (by omega), if_pos (by omega)] at hj
                      exact g3 q hq j a hj) (by
                      intro q hq j a hj
                      rw [hadd, if_neg (by omega), if_pos (by omega)] at hj
                      have e : ln + q - ln = q := by omega
                      rw [e] at hj
                      exact hnew' q hq j a hj) rfl ⟨rfl, rfl⟩
                  exact ⟨_, ρ', _, hrun, q1, q2, q3⟩
              · cases h
          · -- the capacity isn't known
            split at h
            · -- one lineage
              have key : ∀ (id' l : Id) (H3 : Heap), Relin ρ H H3 id id' l loc el i.size m ln d t lin (.arr el i.size (ln + n) d (add ln t) (some l)) → (∀ q, H.readable id q lin = true) → H.latest id lin = true → (∃ y s tp, H3.get l = some (.lin y s tp) ∧ ln + n ≤ tp) →
                  ∃ w' ρ' v', (Builtin.append_ ts ty as).run P w = .ok v' w' ∧ VRel ρ' (.sl id' 0 (ln + n) none i.size) v' ∧ HRel P ρ' H3 w' ∧ Grow ρ ρ' H H3 w w' := by
                intro id' l H3 R hrd hlate htop
                have f6 := f6 hlate
                have hrecs : ∀ q, (recAt (add ln t) d q).length = i.size ∧ (recAt (add ln t) d q).all AV.flat = true := by
                  intro q
                  rw [hadd]
                  split
                  · exact f3 q
                  · split
                    · exact hrcl _ (by omega)
                    · exact f3 q
                have hlins : ∀ l2, some l = some l2 → ∃ x st top, H3.get l2 = some (.lin x st top) ∧ ln + n ≤ top := by
                  intro l2 h2
                  cases h2
                  exact htop
                by_cases hroom : ln + n ≤ c
                · -- in place
                  have ho := ho (by omega)
                  have hcm : (ln + n) * i.size ≤ c * i.size := Nat.mul_le_mul_right _ hroom
                  rw [Nat.add_mul] at hcm
                  rw [Nat.zero_add] at ht
                  obtain ⟨w', c', s1, s2, s3, s4, ⟨s5, sio⟩, s6, s7⟩ := append_place (P := P) (ρ := ρ) (K := ln) f5 f6 hnl hrcl hnew (by omega)
                  have haddr : (⟨loc.blk, o, none⟩ : Addr).add (ln * i.size) = ⟨loc.blk, loc.base + ln * i.size, none⟩ := by
                    rw [addr_add, ho, Nat.zero_mul, Nat.add_zero]
                  obtain ⟨q1, q2⟩ := R.hrel (P := P) (loc' := loc) hH (by
                      intro c2 e2 fz2 h2
                      rw [f5] at h2
                      cases h2
                      exact ⟨c', s2, s3, s4, fun p hp => by rw [s7, if_pos (by rw [← hlsz]; exact hp)]⟩) (fun k _ hk => s6 k hk) (by omega) sio (.inl rfl) (by
                      refine ⟨hlsz, by rw [Nat.add_mul]; omega, hrecs, hlins, c', e, fz, s2, fun _ => s3, by omega, ?_, hty⟩
                      intro q hq _ j a hj
                      obtain ⟨v, hv, hr⟩ := elems_in (ρ := ρ) (R' := fun q => recAt (add ln t) d q) (fun q => (f3 q).1) (fun q hq => (hrcl q hq).1) hnew (fun q => hadd _ _ _ q) s7 q (by
                        intro hne
                        exact f8 q (by omega) (hrd q)) j a hj
                      exact ⟨v, hv, hr.mono (Ren.le_set R.fn)⟩)
                  refine ⟨w', _, _, run_append_in h0 h1 hu hu2 hnx hi ha hb hlen hroom (hfirst w rfl) (by rw [haddr]; exact s1), ?_, q1, q2⟩
                  refine .sl id' 0 (ln + n) none i.size loc c (Ren.set_same _ _) hlsz hroom (fun k hk => by cases hk) (by rw [hlsz, Nat.zero_add]; exact ht) o ?_
                  intro _
                  exact ho
                · -- a new array
                  obtain ⟨old, g1, g2, g3⟩ := hold (fun q _ => hrd _)
                  obtain ⟨cap2, hcap2, hrun⟩ := run_append_grow (w := w) (ty := ty) h0 h1 hu hu2 hnx hi hz hby ha hb hlen hb3 (by omega) (old := old.toArray) (new := news.toArray) (fun w1 hw1 => g2 w1 hw1) (fun w1 hw1 => hfirst w1 hw1)
                  have hosz : old.toArray.size = ln * i.size := by simp [g1]
                  have hels := elems_join (ρ := ρ) (rest := Builtin.zeroCells z.cells (cap2 - (ln + n))) (R := fun q => recAt (add ln t) d q) hosz hnsz (fun q => (hrecs q).1) (by
                      intro q hq j a hj
                      rw [hadd, if_pos hq] at hj
                      exact g3 q hq j a (by rw [Nat.zero_add]; exact hj)) (by
                      intro q hq j a hj
                      rw [hadd, if_neg (by omega), if_pos (by omega)] at hj
                      have e : ln + q - ln = q := by omega
                      rw [e] at hj
                      exact hnew' q hq j a hj)
                  have hsz : (old.toArray ++ news.toArray ++ Builtin.zeroCells z.cells (cap2 - (ln + n))).size = cap2 * i.size := by
                    simp only [Array.size_append, hosz, hnsz, hrest]
                    rw [← Nat.add_mul, ← Nat.add_mul]
                    congr 1
                    omega
                  have hcm : (ln + n) * i.size ≤ cap2 * i.size := Nat.mul_le_mul_right _ hcap2
                  obtain ⟨q1, q2⟩ := R.hrel (P := P) (loc' := ⟨w.heap.size, 0, i.size, cap2 * i.size⟩) (w' := { w with drawn := w.drawn + 1, heap := w.heap.push (.cells (old.toArray ++ news.toArray ++ Builtin.zeroCells z.cells (cap2 - (ln + n))) el (0, 0)) }) hH (by
                      intro c2 e2 fz2 h2
                      rw [f5] at h2
                      cases h2
                      have hlt : loc.blk < w.heap.size := (Array.getElem?_eq_some_iff.1 f5).1
                      exact ⟨cs, (push_old _ _ hlt).trans f5, f6, rfl, fun p hp => rfl⟩) (fun k hk _ => push_old _ _ hk) (by simp) ⟨rfl, rfl⟩ (.inr (Nat.le_refl _)) (by
                      refine ⟨rfl, by rw [Nat.zero_add]; exact hcm, hrecs, hlins, _, el, (0, 0), by simp, ?_, hsz, ?_, rfl, rfl⟩
                      · intro _ o ho
                        simp
                      · intro q hq _ j a hj
                        obtain ⟨v, hv, hr⟩ := hels q hq j a hj
                        refine ⟨v, ?_, hr.mono (Ren.le_set R.fn)⟩
                        rw [Nat.zero_add]
                        exact hv)
                  refine ⟨_, _, _, hrun, ?_, q1, q2⟩
                  exact .sl id' 0 (ln + n) none i.size ⟨w.heap.size, 0, i.size, cap2 * i.size⟩ cap2 (Ren.set_same _ _) rfl hcap2 (fun k hk => by cases hk) (by simp) 0 (fun _ => by simp)
              have hbnd : id ≠ H.next := hH.get_next _ _ hg
              split at h
              · -- the first one
                simp only [Option.some.injEq, Prod.mk.injEq] at h
                obtain ⟨rfl, rfl⟩ := h
                generalize hst0 : firstStable ln m = st0
                have hnn : H.next ≠ H.next.succ := by intro e; have := congrArg Id.num e; rw [Id.num_succ] at this; omega
                have hnx1 : (H.put id (.arr el i.size m d t (some H.next))).next = H.next := Heap.next_put _ _ _
                generalize hH1 : H.put id (.arr el i.size m d t (some H.next)) = H1 at hnx1
                have g1 : H1.get id = some (.arr el i.size m d t (some H.next)) := by rw [← hH1, Heap.get_put_same]
                have g1o : ∀ q, q ≠ id → H1.get q = H.get q := fun q hq => by rw [← hH1, Heap.get_put_ne _ _ hq]
                have hnx2 : (H1.new (.lin H.next.succ st0 (Nat.max m (ln + n)))).next = H.next.succ := by rw [Heap.next_new, hnx1]
                generalize hH2 : H1.new (.lin H.next.succ st0 (Nat.max m (ln + n))) = H2 at hnx2
                have g2 : H2.get H.next = some (.lin H.next.succ st0 (Nat.max m (ln + n))) := by rw [← hH2, ← hnx1]; exact Heap.get_new_same _ _
                have g2o : ∀ q, q ≠ H.next → H2.get q = H1.get q := fun q hq => by rw [← hH2]; exact Heap.get_new_ne _ _ (by rw [hnx1]; exact hq)
                have hnx3 : (H2.new (.arr el i.size (ln + n) d (add ln t) (some H.next))).next = H.next.succ.succ := by rw [Heap.next_new, hnx2]
                generalize hH3 : H2.new (.arr el i.size (ln + n) d (add ln t) (some H.next)) = H3 at hnx3
                have g3 : H3.get H.next.succ = some (.arr el i.size (ln + n) d (add ln t) (some H.next)) := by rw [← hH3, ← hnx2]; exact Heap.get_new_same _ _
                have g3o : ∀ q, q ≠ H.next.succ → H3.get q = H2.get q := fun q hq => by rw [← hH3]; exact Heap.get_new_ne _ _ (by rw [hnx2]; exact hq)
                have hids : id ≠ H.next.succ := by intro e; have := hH.old _ _ hg; rw [e, Id.num_succ] at this; omega
                have hgn : ∀ o, H.get H.next = some o → False := fun o ho => hH.get_next _ _ ho rfl
                have gl3 : H3.get H.next = some (.lin H.next.succ st0 (Nat.max m (ln + n))) := by rw [g3o _ hnn, g2]
                refine key H.next.succ H.next H3 ?_ (fun q => rfl) rfl ⟨_, _, _, gl3, Nat.le_max_right _ _⟩
                refine ⟨hl, hg, ?_, g3, ?_, (fun y s tp hh => (hgn _ hh).elim), ⟨_, _, _, gl3, Nat.le_max_left _ _⟩, hH.fresh, (fun o hh => (hgn _ hh).elim), ?_, by rw [Id.num_succ]; omega, by rw [hnx3, Id.num_succ, Id.num_succ]; omega, ?_, ?_, .inl rfl, fun q hq => by simp only [Heap.latest, gl3] at hq; exact (Id.beq_iff.1 hq).symm⟩
                · rw [g3o _ hids, g2o _ hbnd, g1]
                · intro q o' hq hqi hql
                  have : q ≠ H.next.succ := by intro e; have := hH.old _ _ hq; rw [e, Id.num_succ] at this; omega
                  rw [g3o _ this, g2o _ hql, g1o _ hqi, hq]
                · cases hh : ρ H.next.succ with
                  | none => rfl
                  | some l =>
                    obtain ⟨o', ho', _⟩ := hH.ok _ l hh
                    have := hH.old _ _ ho'
                    rw [Id.num_succ] at this
                    omega
                · intro q ty2 sz2 n2 d2 t2 lin2 hq hqn hor hbd i2 hi2 hrd
                  rcases hor with e | e
                  · subst e
                    rw [hg] at hq
                    cases hq
                    refine ⟨rfl, ?_⟩
                    have hnb : Id.beq H.next.succ q = false := Bool.eq_false_iff.2 (fun hh => hqn (Id.beq_iff.1 hh).symm)
                    simp only [Heap.readable, gl3, hnb, Bool.false_or] at hrd
                    rw [← hst0] at hrd
                    cases hlt : Nat.blt ln m with
                    | true =>
                      simp only [firstStable, hlt] at hrd
                      exact Nat.blt_eq.mp hrd
                    | false =>
                      have : ¬ ln < m := fun hh => by rw [Nat.blt_eq.mpr hh] at hlt; cases hlt
                      omega
                  · subst e
                    obtain ⟨_, _, _, hh, _⟩ := hbd rfl
                    exact (hgn _ hh).elim
                · intro q o' hq
                  rw [hnx3, Id.num_succ, Id.num_succ]
                  by_cases e1 : q = H.next.succ
                  · rw [e1, Id.num_succ]; omega
                  · rw [g3o _ e1] at hq
                    by_cases e2 : q = H.next
                    · rw [e2]; omega
                    · rw [g2o _ e2] at hq
                      by_cases e3 : q = id
                      · rw [e3]
                        have := hH.old _ _ hg
                        omega
                      · rw [g1o _ e3] at hq
                        have := hH.old _ _ hq
                        omega
              · rename_i l
                split at h
                · rename_i x stb top hlx
                  split at h
                  · cases h
                  · rename_i hbq
                    have hxid : x = id := Id.beq_iff.1 hbq
                    subst hxid
                    simp only [Option.some.injEq, Prod.mk.injEq] at h
                    obtain ⟨rfl, rfl⟩ := h
                    generalize hst0 : nextStable ln top stb = st0
                    have hxl : x ≠ l := by intro e; subst e; rw [hg] at hlx; cases hlx
                    have hln : l ≠ H.next := hH.get_next _ _ hlx
                    have hnx1 : (H.put l (.lin H.next st0 (Nat.max top (ln + n)))).next = H.next := Heap.next_put _ _ _
                    generalize hH1 : H.put l (.lin H.next st0 (Nat.max top (ln + n))) = H1 at hnx1
                    have g1 : H1.get l = some (.lin H.next st0 (Nat.max top (ln + n))) := by rw [← hH1, Heap.get_put_same]
                    have g1o : ∀ q, q ≠ l → H1.get q = H.get q := fun q hq => by rw [← hH1, Heap.get_put_ne _ _ hq]
                    have hnx3 : (H1.new (.arr el i.size (ln + n) d (add ln t) (some l))).next = H.next.succ := by rw [Heap.next_new, hnx1]
                    generalize hH3 : H1.new (.arr el i.size (ln + n) d (add ln t) (some l)) = H3 at hnx3
                    have g3 : H3.get H.next = some (.arr el i.size (ln + n) d (add ln t) (some l)) := by rw [← hH3, ← hnx1]; exact Heap.get_new_same _ _
                    have g3o : ∀ q, q ≠ H.next → H3.get q = H1.get q := fun q hq => by rw [← hH3]; exact Heap.get_new_ne _ _ (by rw [hnx1]; exact hq)
                    have gl3 : H3.get l = some (.lin H.next st0 (Nat.max top (ln + n))) := by rw [g3o _ hln, g1]
                    have hself : ∀ q, H.readable x q (some l) = true := by
                      intro q
                      simp only [Heap.readable, hlx, hbq, Bool.true_or]
                    obtain ⟨_, _, tp2, hl2, hm2⟩ := f4 l rfl
                    rw [hlx] at hl2
                    cases hl2
                    refine key H.next l H3 ?_ hself (by simp only [Heap.latest, hlx]; exact hbq) ⟨_, _, _, gl3, Nat.le_max_right _ _⟩
                    refine ⟨hl, hg, ?_, g3, ?_, ?_, ⟨_, _, _, gl3, Nat.le_trans hm2 (Nat.le_max_left _ _)⟩, ?_, ?_, hH.fresh, Nat.le_refl _, by rw [hnx3, Id.num_succ]; omega, ?_, ?_, .inr rfl, fun q hq => by simp only [Heap.latest, gl3] at hq; exact (Id.beq_iff.1 hq).symm⟩
                    · rw [g3o _ hbnd, g1o _ hxl, hg]
                    · intro q o' hq hqi hql
                      rw [g3o _ (hH.get_next _ _ hq), g1o _ hql, hq]
                    · intro y s tp hh
                      rw [hlx] at hh
                      cases hh
                      exact ⟨rfl, _, _, _, gl3, Nat.le_max_left _ _⟩
                    · cases hh : ρ l with
                      | none => rfl
                      | some loc2 =>
                        obtain ⟨o', ho', hk⟩ := hH.ok _ _ hh
                        rw [hlx] at ho'
                        cases ho'
                        cases hk
                    · intro o' ho'
                      rw [hlx] at ho'
                      cases ho'
                      exact ⟨_, _, _, rfl⟩
                    · intro q ty2 sz2 n2 d2 t2 lin2 hq hqn hor hbd i2 hi2 hrd
                      have hlin : lin2 = some l := by
                        rcases hor with e | e
                        · subst e; rw [hg] at hq; cases hq; rfl
                        · exact e
                      subst hlin
                      obtain ⟨_, _, _, hh, hnt⟩ := hbd rfl
                      rw [hlx] at hh
                      cases hh
                      have hnb : Id.beq H.next q = false := Bool.eq_false_iff.2 (fun hh => hqn (Id.beq_iff.1 hh).symm)
                      simp only [Heap.readable, gl3, hnb, Bool.false_or] at hrd
                      rw [← hst0] at hrd
                      simp only [Heap.readable, hlx, Bool.or_eq_true]
                      cases hlt : Nat.blt ln top with
                      | true =>
                        simp only [nextStable, hlt] at hrd
                        cases stb with
                        | none =>
                          simp only [stableAt, Nat.blt_eq] at hrd
                          exact ⟨.inr rfl, hrd⟩
                        | some k0 =>
                          simp only [stableAt, Nat.blt_eq] at hrd
                          have := Nat.lt_min.1 hrd
                          exact ⟨.inr (Nat.blt_eq.mpr this.1), this.2⟩
                      | false =>
                        simp only [nextStable, hlt] at hrd
                        have : ¬ ln < top := fun hh => by rw [Nat.blt_eq.mpr hh] at hlt; cases hlt
                        refine ⟨.inr ?_, by omega⟩
                        cases stb with
                        | none => rfl
                        | some k0 => exact hrd
                    · intro q o' hq
                      rw [hnx3, Id.num_succ]
                      by_cases e1 : q = H.next
                      · rw [e1]; omega
                      · rw [g3o _ e1] at hq
                        by_cases e2 : q = l
                        · rw [e2]
                          have := hH.old _ _ hlx
                          omega
                        · rw [g1o _ e2] at hq
                          have := hH.old _ _ hq
                          omega
                · cases h
            · cases h
    · cases h
end Go.AX
end

section
namespace Go.AX
/-! ## A range over a map -/
variable {P : Program} {ρ ρ' : Ren} {w w' : World} {H H' : Heap}

theorem natIn_eq (n : Nat) : ∀ l : List Nat, natIn n l = l.contains n
  | [] => rfl
  | a :: l => by
    simp only [natIn, List.contains_cons]
    cases h : Nat.beq n a with
    | true => simp [Nat.eq_of_beq_eq_true h]
    | false =>
      have : (n == a) = false := by
        cases h2 : (n == a) with
        | false => rfl
        | true => rw [beq_iff_eq] at h2; subst h2; simp at h
      rw [this, natIn_eq n l]; rfl

theorem leftOf_sound {seen : List Nat} : ∀ {es : List (AV × AV × Nat)} {es' : List MapEntry}, EsRel ρ es es' → EsRel ρ (leftOf seen es) (es'.filter fun e => !seen.contains e.born)
  | [], [], h => h
  | [], _ :: _, h => by have := h.b; simp at this
  | _ :: _, [], h => by have := h.b; simp at this
  | (k, v, b) :: es, y :: es', h => by
    obtain ⟨h1, h2, h3, h4⟩ := h.uncons
    have h3 : b = y.born := h3
    have ih := leftOf_sound (seen := seen) h4
    simp only [leftOf, natIn_eq, List.filter_cons, ← h3]
    cases hc : seen.contains b with
    | true => simpa using ih
    | false => simpa using EsRel.cons h1 h2 h3 ih

theorem elder_sound {last : Nat} : ∀ {es : List (AV × AV × Nat)} {es' : List MapEntry}, EsRel ρ es es' → elder last es = true → es'.all (fun e => decide (e.born ≥ last)) = false
  | [], [], _, h => by cases h
  | [], _ :: _, h, _ => by have := h.b; simp at this
  | _ :: _, [], h, _ => by have := h.b; simp at this
  | (k, v, b) :: es, y :: es', h, he => by
    obtain ⟨_, _, h3, h4⟩ := h.uncons
    have h3 : b = y.born := h3
    simp only [elder] at he
    simp only [List.all_cons]
    cases hb : Nat.blt b last with
    | true =>
      rw [Nat.blt_eq] at hb
      have : ¬ y.born ≥ last := by omega
      simp [this]
    | false =>
      rw [hb] at he
      rw [elder_sound h4 he, Bool.and_false]

theorem EsRel.nil_iff {es : List (AV × AV × Nat)} {es' : List MapEntry} (h : EsRel ρ es es') : es = [] ↔ es' = [] := by
  have := congrArg List.length h.b
  simp only [List.length_map] at this
  rw [← List.length_eq_zero_iff, ← List.length_eq_zero_iff, this]

theorem goesOn_sound {seen : List Nat} {seen' : Array Nat} {last : Nat} {es : List (AV × AV × Nat)} {es' : Array MapEntry} (hs : seen'.toList.reverse = seen) (hE : EsRel ρ es es'.toList) (h : goesOn seen last es = true) :
    (!seen'.isEmpty && !es'.isEmpty && es'.all (fun e => decide (e.born ≥ last))) = false := by
  cases seen with
  | nil =>
    have : seen'.toList = [] := by simpa using hs
    have : seen' = #[] := by apply Array.ext'; simpa using this
    subst this
    rfl
  | cons a l =>
    cases es with
    | nil =>
      have h1 := hE.nil_iff.1 rfl
      have : es' = #[] := by apply Array.ext'; simpa using h1
      subst this
      simp
    | cons x es =>
      have := elder_sound hE h
      rw [← Array.all_toList, this, Bool.and_false]

/-- A block that is no cells gets a name. -/
theorem name_it (hH : HRel P ρ H w) {x : Obj} {ob : Go.Obj} (hok : ∀ ρ' : Ren, ρ.le ρ' → OOk P ρ' (H.new x) H.next ⟨w.heap.size, 0, 0, 0⟩ { w with heap := w.heap.push ob } x) :
    HRel P (ρ.set H.next ⟨w.heap.size, 0, 0, 0⟩) (H.new x) { w with heap := w.heap.push ob } ∧ Grow ρ (ρ.set H.next ⟨w.heap.size, 0, 0, 0⟩) H (H.new x) w { w with heap := w.heap.push ob } := by
  have hfr := hH.fresh
  have hsame : ∀ k, k < w.heap.size → (w.heap.push ob)[k]? = w.heap[k]? := fun k hk => push_old _ _ hk
  exact ⟨(hH.new x hH.get_next).name hfr (Heap.get_new_same _ _) hsame (Nat.le_refl _) (hok _ (Ren.le_set hfr)), (Grow.newH hH x).name hfr (Nat.le_refl _) hsame (by simp) (Nat.le_refl _) ⟨rfl, rfl⟩⟩

theorem rangeM_sound (hH : HRel P ρ H w) {t kt el : TypeId} {x v : AV} (hu : P.underlying t = some (.map kt el)) (h : rangeMA H x = some (v, H')) {a : Value} (hx : VRel ρ x a) :
    ∃ w' ρ' v', (Instr.range t a).run P w = .ok v' w' ∧ VRel ρ' v v' ∧ HRel P ρ' H' w' ∧ Grow ρ ρ' H H' w w' := by
  have key : ∀ (m : Option Id) (mo : Option Nat) (c : Nat), (match m with | none => mo = none | some q => ∃ l, ρ q = some l ∧ mo = some l.blk) →
      ∃ ρ', VRel ρ' (.p H.next 0 0) (.pointer (some ⟨w.heap.size, 0, none⟩)) ∧ HRel P ρ' (H.new (.it m c [] c)) { w with heap := w.heap.push (.mapIter mo c #[] c) } ∧ Grow ρ ρ' H (H.new (.it m c [] c)) w { w with heap := w.heap.push (.mapIter mo c #[] c) } := by
    intro m mo c hm
    obtain ⟨q1, q2⟩ := name_it hH (x := .it m c [] c) (ob := .mapIter mo c #[] c) (fun ρ' hle => ⟨rfl, mo, #[], by simp, rfl, by
      cases m with
      | none => exact hm
      | some q => obtain ⟨l, h1, h2⟩ := hm; exact ⟨l, hle _ _ h1, h2⟩⟩)
    exact ⟨_, .p _ 0 0 ⟨w.heap.size, 0, 0, 0⟩ (Ren.set_same _ _), q1, q2⟩
  unfold rangeMA at h
  split at h
  · simp only [Option.some.injEq, Prod.mk.injEq] at h
    obtain ⟨rfl, rfl⟩ := h
    cases hx
    obtain ⟨ρ', k1, k2, k3⟩ := key none none 0 rfl
    refine ⟨_, ρ', _, ?_, k1, k2, k3⟩
    simp only [Instr.range, Sem.run_bind, run_underlying hu, Result.andThen_ok, Sem.run_pure]
    rfl
  · rename_i id
    split at h
    · rename_i es clock hg
      simp only [Option.some.injEq, Prod.mk.injEq] at h
      obtain ⟨rfl, rfl⟩ := h
      cases hx with
      | m _ loc hl =>
        obtain ⟨o, ho, hok⟩ := hH.ok id loc hl
        rw [hg] at ho
        cases ho
        obtain ⟨es', h1, _⟩ := hok
        obtain ⟨ρ', k1, k2, k3⟩ := key (some id) (some loc.blk) clock ⟨loc, hl, rfl⟩
        refine ⟨_, ρ', _, ?_, k1, k2, k3⟩
        simp only [Instr.range, Sem.run_bind, run_underlying hu, Result.andThen_ok, Sem.run_pure, run_getObj_map (P := P) w loc.blk es' clock h1]
        rfl
    · cases h
  · cases h

theorem next_sound (hH : HRel P ρ H w) {ty : TypeId} {x v : AV} (h : nextA H x = some (v, H')) {a : Value} (hx : VRel ρ x a) :
    ∃ w' ρ' v', (Instr.next a false ty).run P w = .ok v' w' ∧ VRel ρ' v v' ∧ HRel P ρ' H' w' ∧ Grow ρ ρ' H H' w w' := by
  unfold nextA at h
  split at h
  · rename_i id
    obtain ⟨loc, hl⟩ := name_of hx
    obtain ⟨o, ho, hok⟩ := hH.ok id loc hl
    split at h
    · rename_i since seen last hg
      simp only [Option.some.injEq, Prod.mk.injEq] at h
      obtain ⟨rfl, rfl⟩ := h
      rw [hg] at ho
      cases ho
      obtain ⟨h0, mo, seen', h1, h2, h3⟩ := hok
      obtain rfl : mo = none := h3
      obtain rfl := iter_addr hx rfl rfl hl h0
      refine ⟨w, ρ, .tuple #[.bool false], ?_, .tu _ _ (.cons _ _ _ _ (.b _) .nil), hH, Grow.refl _ _ _⟩
      simp only [Instr.next, getObj, Sem.run_bind, Sem.run, h1, Result.andThen]
      rfl
    · rename_i m since seen last hg
      rw [hg] at ho
      cases ho
      obtain ⟨h0, mo, seen', h1, h2, locm, h3, h4⟩ := hok
      subst h4
      obtain rfl := iter_addr hx rfl rfl hl h0
      split at h
      · rename_i es clock hm
        obtain ⟨o, ho, hok⟩ := hH.ok m locm h3
        rw [hm] at ho
        cases ho
        obtain ⟨es', k1, k2, k3, k4⟩ := hok
        have hE : EsRel ρ es es'.toList := ⟨k2, k3, k4⟩
        split at h
        · rename_i hgo
          have hT := goesOn_sound h2 hE hgo
          have hL := leftOf_sound (seen := seen) hE
          have hfil : (es'.filter fun e => !seen'.contains e.born).toList = es'.toList.filter fun e => !seen.contains e.born := by
            rw [Array.toList_filter]
            congr 1
            funext e
            rw [← h2, ← Array.contains_toList]
            simp
          have hrun : ∀ (L : Array MapEntry), (es'.filter fun e => !seen'.contains e.born) = L → (Instr.next (.pointer (some ⟨loc.blk, 0, none⟩)) false ty).run P w = (do
              let old := L.filter (·.born < since)
              let new := L.filter (·.born ≥ since)
              let candidates := (if old.isEmpty then #[none] else #[]) ++ (old ++ new).map some
              match candidates[← choose (.mapNext candidates.size)]? with
              | some (some e) =>
                setObj loc.blk (.mapIter (some locm.blk) since (seen'.push e.born) clock)
                pure (.tuple #[.bool true, e.key, e.val])
              | some none => pure (.tuple #[.bool false])
              | none => stuck "Next: no such candidate" : Sem Value).run P w := by
            intro L hLL
            simp only [Instr.next, getObj, Sem.run_bind, Sem.run, h1, k1, Result.andThen, hT, Bool.false_eq_true, if_false, hLL]
            rfl
          split at h
          · rename_i hlo
            simp only [Option.some.injEq, Prod.mk.injEq] at h
            obtain ⟨rfl, rfl⟩ := h
            rw [hlo] at hL
            have hnil := hL.nil_iff.1 rfl
            have hL0 : (es'.filter fun e => !seen'.contains e.born) = #[] := by
              apply Array.ext'
              rw [hfil, hnil]
            refine ⟨w, ρ, .tuple #[.bool false], ?_, .tu _ _ (.cons _ _ _ _ (.b _) .nil), hH, Grow.refl _ _ _⟩
            rw [hrun _ hL0]
            simp [choose, Sem.run, Question.forced]
          · rename_i k x b r hlo
            split at h
            · rename_i hlt
              rw [Nat.blt_eq] at hlt
              simp only [Option.some.injEq, Prod.mk.injEq] at h
              obtain ⟨rfl, rfl⟩ := h
              rw [hlo] at hL
              cases hls : (es'.toList.filter fun e => !seen.contains e.born) with
              | nil => rw [hls] at hL; have := hL.b; simp at this
              | cons y ys =>
                rw [hls] at hL
                obtain ⟨g1, g2, g3, g4⟩ := hL.uncons
                have hys := g4.nil_iff.1 rfl
                subst hys
                have g3 : b = y.born := g3
                have hL1 : (es'.filter fun e => !seen'.contains e.born) = #[y] := by
                  apply Array.ext'
                  rw [hfil, hls]
                have hyl : y.born < since := by omega
                have hyl2 : ¬ y.born ≥ since := by omega
                have hsolo := hH.solo hl hg (fun _ _ _ _ _ _ e => by cases e)
                have hlt2 : loc.blk < w.heap.size := (Array.getElem?_eq_some_iff.1 h1).1
                refine ⟨{ w with heap := w.heap.setIfInBounds loc.blk (.mapIter (some locm.blk) since (seen'.push y.born) clock) }, ρ, .tuple #[.bool true, y.key, y.val], ?_, .tu _ _ (.cons _ _ _ _ (.b _) (.cons _ _ _ _ g1 (.cons _ _ _ _ g2 .nil))), hH.put1 hl hsolo ⟨h0, some locm.blk, seen'.push y.born, by simp [hlt2], by simp [h2, g3], locm, h3, rfl⟩ setObj_same, Grow.put1 hl setObj_same (by simp) ⟨rfl, rfl⟩⟩
                rw [hrun _ hL1]
                have e1 : (#[y].filter fun e : MapEntry => decide (e.born < since)) = #[y] := by simp [hyl]
                have e2 : (#[y].filter fun e : MapEntry => decide (e.born ≥ since)) = #[] := by simp [hyl]
                simp only [e1, e2]
                simp [choose, Sem.run, Question.forced, setObj, h1]
            · cases h
        · cases h
      · cases h
    · cases h
  · cases h
end Go.AX
end

section
namespace Go.AX
variable {P : Program} {ρ ρ' : Ren} {w w' : World} {H H' H3 : Heap}

theorem unit_of {s : Sem Unit} {w' : World} (h : s.run P w = .ok () w') : (do s; pure Next.skip : Sem Next).run P w = .ok .skip w' := by
  rw [Sem.run_bind, h]; rfl

theorem val_of2 {s : Sem Value} {v : Value} {w' : World} (h : s.run P w = .ok v w') : (do let x ← s; pure (Next.value x) : Sem Next).run P w = .ok (.value v) w' := by
  rw [Sem.run_bind, h]; rfl

theorem evalE_sound (hH : HRel P ρ H w) {o : Oper} {c : IOp} {ρf : Operand → Option Rf} {ev : Operand → Value} {e : Env} {L : List AV} {v : AV} (hc : comp P ρf o.op = some c) (hk : c.kd = .e) (h : evalE c e L H = some (v, H'))
    (hr : ∀ x ∈ o.op.operands.toList, ∀ r, ρf x = some r → VRel ρ (opd r e L) (ev x)) : Turns P ρ H w v H' ((execOp ev o).run P w) := by
  obtain ⟨dst, op, ty, pos, aft, g⟩ := o
  simp only at hc hr
  cases op <;> simp only [comp, reduceCtorEq] at hc
  case store t a x =>
    split at hc
    · rename_i k r s hs h1 h2
      simp only [Option.some.injEq] at hc
      subst hc
      simp only [evalE] at h
      split at h
      · rename_i H2 hst
        simp only [Option.some.injEq, Prod.mk.injEq] at h
        obtain ⟨rfl, rfl⟩ := h
        obtain ⟨w', f1, f2, f3⟩ := store_sound hH (hr a (by simp [Op.operands]) _ h1) (hr x (by simp [Op.operands]) _ h2) hst hs
        exact ⟨_, _, _, unit_of f1, .inl ⟨rfl, rfl⟩, f2, f3⟩
      · cases h
    · cases hc
  case mapUpdate t m k x =>
    split at hc
    · rename_i kt el r s u hu h1 h2 h3
      simp only [Option.map_eq_some_iff] at hc
      obtain ⟨ct, hct, rfl⟩ := hc
      simp only [evalE] at h
      split at h
      · rename_i H2 hst
        simp only [Option.some.injEq, Prod.mk.injEq] at h
        obtain ⟨rfl, rfl⟩ := h
        obtain ⟨w', f1, f2, f3⟩ := mapUpd_sound hH hu hct hst (hr m (by simp [Op.operands]) _ h1) (hr k (by simp [Op.operands]) _ h2) (hr x (by simp [Op.operands]) _ h3)
        exact ⟨_, _, _, unit_of f1, .inl ⟨rfl, rfl⟩, f2, f3⟩
      · cases h
    · cases hc
  case insert t m k x =>
    split at hc
    · rename_i kt el r s u hu h1 h2 h3
      simp only [Option.map_eq_some_iff] at hc
      obtain ⟨ct, hct, rfl⟩ := hc
      simp only [evalE] at h
      split at h
      · rename_i H2 hst
        simp only [Option.some.injEq, Prod.mk.injEq] at h
        obtain ⟨rfl, rfl⟩ := h
        obtain ⟨w', f1, f2, f3⟩ := mapUpd_sound hH hu hct hst (hr m (by simp [Op.operands]) _ h1) (hr k (by simp [Op.operands]) _ h2) (hr x (by simp [Op.operands]) _ h3)
        exact ⟨_, _, _, unit_of f1, .inl ⟨rfl, rfl⟩, f2, f3⟩
      · cases h
    · cases hc
  case range t x =>
    split at hc
    · rename_i kt el hu
      simp only [Option.map_eq_some_iff] at hc
      obtain ⟨r, h1, rfl⟩ := hc
      simp only [evalE] at h
      obtain ⟨w', ρ', v', f1, f2, f3, f4⟩ := rangeM_sound hH hu h (hr x (by simp [Op.operands]) _ h1)
      exact ⟨_, w', ρ', val_of2 f1, .inr ⟨v', rfl, f2⟩, f3, f4⟩
    · cases hc
  case next x isString =>
    split at hc
    · simp only [Option.map_eq_some_iff] at hc
      obtain ⟨r, h1, rfl⟩ := hc
      simp only [evalE] at h
      obtain ⟨w', ρ', v', f1, f2, f3, f4⟩ := next_sound (ty := ty) hH h (hr x (by simp [Op.operands]) _ h1)
      exact ⟨_, w', ρ', val_of2 f1, .inr ⟨v', rfl, f2⟩, f3, f4⟩
    · cases hc
  case call cl =>
    have hargs : ∀ y ∈ cl.args.toList, ∀ r, ρf y = some r → VRel ρ (opd r e L) (ev y) := by
      intro y hy r hr'
      refine hr y ?_ r hr'
      simp only [Op.operands, Call.operands, Array.toList_append, List.mem_append]
      exact Or.inr hy
    split at hc
    case h_2 hcal =>
      split at hc
      · rename_i t u s x ht hu hs hx
        have hsm : s ∈ cl.args.toList := by rw [Array.getElem?_eq_some_iff] at hs; obtain ⟨hi, rfl⟩ := hs; simp
        have hxm : x ∈ cl.args.toList := by rw [Array.getElem?_eq_some_iff] at hx; obtain ⟨hi, rfl⟩ := hx; simp
        split at hc
        · rename_i el dx hel he2
          split at hc
          · rename_i z r1 r2 hnx hz hr1 hr2
            split at hc
            · rename_i hcond
              simp only [Option.some.injEq] at hc
              subst hc
              simp only [evalE] at h
              obtain ⟨hcs, hcb⟩ := hcond
              obtain ⟨i, hi⟩ : ∃ i, P.info? el = some i := by
                cases hi : P.info? el with
                | none => simp [sz?, hi] at hcs
                | some i => exact ⟨i, rfl⟩
              simp only [sz?, hi, Option.map_some, Option.some.injEq] at hcs
              simp only [hi, Option.map_some, Option.getD_some] at hcb
              simp only [zero?, zeroV?, hi, Option.bind_some] at hz
              cases hiz : i.zero with
              | none => rw [hiz] at hz; simp at hz
              | some zv =>
                rw [hiz] at hz
                simp only [Option.bind_some] at hz
                cases hza : toAV zv with
                | none => rw [hza] at hz; simp at hz
                | some az =>
                  rw [hza] at hz
                  simp only [Option.bind_some, cellsC_eq] at hz
                  obtain ⟨z1, z2⟩ := cellsOf_sound hz (toAV_sound (ρ := ρ) hza)
                  obtain ⟨w', ρ', v', f1, f2, f3, f4⟩ := append_sound (ty := ty) hH (as := cl.args.map ev) ht hu hel he2 hnx hi hiz hcb hcs z1 z2 rfl (by rw [Array.getElem?_map, hs]; rfl) (by rw [Array.getElem?_map, hx]; rfl) (hargs s hsm _ hr1) (hargs x hxm _ hr2) h
                  refine ⟨_, w', ρ', ?_, .inr ⟨v', rfl, f2⟩, f3, f4⟩
                  simp only [execOp, Go.resolve, hcal, Sem.run_bind, Sem.run_pure, Result.andThen_ok, Go.invoke, Go.builtin, f1]
            · cases hc
          · cases hc
        · cases hc
      · cases hc
    all_goals
      (repeat' split at hc) <;> first
        | (cases hc; done)
        | (simp only [Option.some.injEq] at hc; subst hc; cases hk; done)
        | (simp only [Option.map_eq_some_iff] at hc; obtain ⟨r, _, rfl⟩ := hc; cases hk; done)
  case makeFunc fn fi ca =>
    cases fn <;> simp only [comp, reduceCtorEq] at hc <;> (repeat' split at hc) <;> first
      | (cases hc; done)
      | (simp only [Option.some.injEq] at hc; subst hc; cases hk; done)
      | (simp only [Option.map_eq_some_iff] at hc; obtain ⟨r, _, rfl⟩ := hc; cases hk; done)
  all_goals
    (repeat' split at hc) <;> first
      | (cases hc; done)
      | (simp only [Option.some.injEq] at hc; subst hc; cases hk; done)
      | (simp only [Option.map_eq_some_iff] at hc; obtain ⟨r, _, rfl⟩ := hc; cases hk; done)
end Go.AX
end

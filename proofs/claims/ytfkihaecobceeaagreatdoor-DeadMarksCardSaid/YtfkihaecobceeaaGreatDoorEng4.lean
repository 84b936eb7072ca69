/- The executor in the form that the kernel runs fast, that it answers as the other one does, and calls that are known otherwise. -/
import Derived.Test.YtfkihaecobceeaaGreatDoorEng1
import Derived.Test.YtfkihaecobceeaaGreatDoorEng3
import Derived.Lib.Index
import Derived.Lib.Bytealg
import Derived.Lib.Repeat
import Derived.Lib.Replace
import Derived.Lib.ReplaceLaws
import Derived.Below
set_option autoImplicit false
set_option linter.all false
section
namespace Go.AX
/-! ## The same with what is done next handed on: of this shape the text of a function can be printed -/
noncomputable section
abbrev Cont := Out → Env → Heap → Ctl → CR
abbrev StK := AV → Heap → Ctl → CR
abbrev RunK := Rec → Ctl → Env → Heap → Cont → CR

def optK (x : Option AV) (K : AV → CR) : CR := Option.rec (motive := fun _ => CR) .fail K x
def optH (x : Option Heap) (K : Heap → CR) : CR := Option.rec (motive := fun _ => CR) .fail K x
def optP (x : Option (AV × Heap)) (K : AV → Heap → CR) : CR := Option.rec (motive := fun _ => CR) .fail (fun p => Prod.rec (motive := fun _ => CR) K p) x
def boolK (b : Bool) (x : CR) : CR := Bool.rec (motive := fun _ => CR) .fail x b
def retK (x : CR) (K : AV → Heap → CR) : CR := CR.rec (motive := fun _ => CR) .fail K x

def ldK (ag : Bool) (n : Nat) (a : AV) (H : Heap) (K : AV → CR) : CR := optK (loadA ag n H a) K
def stK (n : Nat) (x a : AV) (H : Heap) (K : Heap → CR) : CR := optH (storeA n x H a) K
def binK (op : BinOp) (et : EqT) (x y : AV) (K : AV → CR) : CR := optK (binA op et x y) K
def unK (op : UnOp) (x : AV) (K : AV → CR) : CR := optK (unA op x) K
def faK (n : Nat) (x : AV) (K : AV → CR) : CR := optK (match x with | .p id ix off => some (.p id ix (off + n)) | _ => none) K
def iaK (arr : Option Nat) (n : Nat) (x i : AV) (K : AV → CR) : CR := optK (indexAddrA arr n x i) K
def ixK (arr : Option (Nat × Bool × Nat)) (x i : AV) (K : AV → CR) : CR := optK (indexA arr x i) K
def fdK (ag : Bool) (o n : Nat) (x : AV) (K : AV → CR) : CR := optK (partA ag o n x) K
def lnK (t : LenT) (H : Heap) (x : AV) (K : AV → CR) : CR := optK (lenA t H x) K
def slK (el : Option Nat) (x : AV) (lo hi mx : Option AV) (K : AV → CR) : CR := optK (sliceAv el x lo hi mx) K
def exK (n : Nat) (x : AV) (K : AV → CR) : CR := optK (match x with | .tu l => nth n l | _ => none) K
def apK (ty n : Nat) (z : List AV) (H : Heap) (s x : AV) (K : AV → Heap → CR) : CR := optP (appendA ty n z H s x) K
def caK (rec : Rec) (f : Nat) (l : List AV) (H : Heap) (K : AV → Heap → CR) : CR := retK (rec f l H) K
def newK (ty : Nat) (z : List AV) (H : Heap) (K : AV → Heap → CR) : CR := K (.p H.next 0 0) (H.new (.one ty (len z) z))

def pkK (c a b : AV) (K : AV → CR) : CR := match c with
  | .b true => K a
  | .b false => K b
  | _ => .fail
def bxK (ty : Nat) (x : AV) (H : Heap) (K : AV → Heap → CR) : CR := match cellsOf x with
  | some vs => K (.p H.next 0 0) (H.new (.one ty (len vs) vs))
  | none => .fail

/-- Parts one behind the other, from cell pos on. -/
def partsAsc (n : Nat) : Nat → List (Nat × Nat × AV) → Bool
  | pos, l => List.rec (motive := fun _ => Nat → Bool) (fun pos => Nat.ble pos n) (fun p _ ih pos => Prod.rec (motive := fun _ => Bool) (fun off q => Prod.rec (motive := fun _ => Bool) (fun k _ => Bool.rec (motive := fun _ => Bool) false (ih (Nat.add off k)) (Nat.ble pos off)) q) p) l pos
def takeApp (n : Nat) (K : List AV → Option (List AV)) : List AV → Option (List AV) :=
  Nat.rec (motive := fun _ => List AV → Option (List AV)) K (fun _ ih l => List.rec (motive := fun _ => Option (List AV)) none (fun a t _ => Option.rec (motive := fun _ => Option (List AV)) none (fun r => some (a :: r)) (ih t)) l) n
def mergeV : Nat → List (Nat × Nat × AV) → List AV → Option (List AV)
  | pos, l, z => List.rec (motive := fun _ => Nat → List AV → Option (List AV)) (fun _ z => some z)
    (fun p _ ih pos z => Prod.rec (motive := fun _ => Option (List AV)) (fun off q => Prod.rec (motive := fun _ => Option (List AV)) (fun k v =>
      takeApp (Nat.sub off pos) (fun z => Option.rec (motive := fun _ => Option (List AV)) none (fun vs => Bool.rec (motive := fun _ => Option (List AV)) none (Option.rec (motive := fun _ => Option (List AV)) none (fun r => some (app vs r)) (ih (Nat.add off k) (dropN k z))) (Nat.beq (len vs) k)) (cellsOf v)) z) q) p) l pos z
def partCellsV : List (Nat × Nat × AV) → List AV → Option (List AV)
  | [], cs => some cs
  | (off, k, v) :: rest, cs => match cellsOf v with
    | some vs => match Nat.beq (len vs) k with
      | true => partCellsV rest (splice vs off cs)
      | false => none
    | none => none
def buildV (z : List AV) (parts : List (Nat × Nat × AV)) : Option (List AV) :=
  Bool.rec (motive := fun _ => Option (List AV)) (partCellsV parts z) (mergeV 0 parts z) (partsAsc (len z) 0 parts)
def bdK (z : List AV) (parts : List (Nat × Nat × AV)) (K : AV → CR) : CR := Option.rec (motive := fun _ => CR) .fail (fun l => K (.ag l)) (buildV z parts)
def opdParts (e : Env) (L : List AV) : List (Nat × Nat × Rf) → List (Nat × Nat × AV)
  | [] => []
  | (off, k, r) :: l => (off, k, opd r e L) :: opdParts e L l

/-- Any operation. -/
def genK (round : Rec → Id → List AV → Heap → CR) (rec : Rec) (o : IOp) (k : Ctl) (e : Env) (L : List AV) (H : Heap) (K : StK) : CR :=
  match o.kd with
  | .q => optK (evalQ o e L) fun v => K v H k
  | .h => optK (evalH o e L H) fun v => K v H k
  | .a => match evalA o e L with
    | some (x, g) => K (g H.next) (H.new x) k
    | none => .fail
  | .e => optP (evalE o e L H) fun v H' => K v H' k
  | .c => match evalC o e L with
    | some (.inl g, args) => retK (rec g args H) fun v H' => K v H' k
    | some (.inr l, args) => retK (round rec l args H) fun v H' => K v H' k
    | none => .fail
  | .d => match k, evalD o e L with
    | ⟨ds, none⟩, some (g, args) => K undef H ⟨.call g args :: ds, none⟩
    | _, _ => .fail
  | .p => .fail
  | .r => match k with
    | ⟨_, none⟩ => K .if0 H k
    | ⟨_, some _⟩ => .fail

def stepK (round : Rec → Id → List AV → Heap → CR) (rec : Rec) (o : IOp) (k : Ctl) (e : Env) (L : List AV) (H : Heap) (K : StK) : CR :=
  match o with
  | .load ag n a => ldK ag n (opd a e L) H fun v => K v H k
  | .store n a x => stK n (opd x e L) (opd a e L) H fun H' => K undef H' k
  | .bin op et x y => binK op et (opd x e L) (opd y e L) fun v => K v H k
  | .un op x => unK op (opd x e L) fun v => K v H k
  | .fieldAddr n x => faK n (opd x e L) fun v => K v H k
  | .indexAddr arr n x i => iaK arr n (opd x e L) (opd i e L) fun v => K v H k
  | .index arr x i => ixK arr (opd x e L) (opd i e L) fun v => K v H k
  | .field ag o n x => fdK ag o n (opd x e L) fun v => K v H k
  | .len t x => lnK t H (opd x e L) fun v => K v H k
  | .slice el x lo hi mx => slK el (opd x e L) (opdO e L lo) (opdO e L hi) (opdO e L mx) fun v => K v H k
  | .extract n x => exK n (opd x e L) fun v => K v H k
  | .append ty n z s x => apK ty n z H (opd s e L) (opd x e L) fun v H' => K v H' k
  | .callF f l => caK rec f (opds e L l) H fun v H' => K v H' k
  | .alloc ty z => newK ty z H fun v H' => K v H' k
  | .build z parts => bdK z (opdParts e L parts) fun v => K v H k
  | .pick c a b => pkK (opd c e L) (opd a e L) (opd b e L) fun v => K v H k
  | .box ty x => bxK ty (opd x e L) H fun v H' => K v H' k
  | .mv x => K (opd x e L) H k
  | o => genK round rec o k e L H K

/-- A guard. A: what is done where it holds; R: what is done behind it. -/
def gdK (c : AV) (w : Bool) (A : StK → CR) (H : Heap) (k : Ctl) (R : StK) : CR :=
  Option.rec (motive := fun _ => CR) .fail (fun b => Bool.rec (motive := fun _ => CR) (R undef H k) (A R) b) (wantedV c w)

def chkK (back : List IStep) (e : Env) (L : List AV) (chk : List Nat) (R : StK) : StK :=
  match chk with
  | [] => R
  | _ :: _ => fun v H k => boolK (checks back e L H chk) (R v H k)

def stepsK (round : Rec → Id → List AV → Heap → CR) (rec : Rec) (outs : List (Slot × Rf)) (e : Env) (K : Cont) : (back todo : List IStep) → Ctl → List AV → Heap → CR
  | _, [], k, L, H => K .norm (outsE L e outs e) H k
  | back, s :: l, k, L, H => match s.guard with
    | none => stepK round rec s.op k e L H (chkK back e L s.chk fun v H' k' => stepsK round rec outs e K (s :: back) l k' (v :: L) H')
    | some (r, w) => gdK (opd r e L) w (fun R => stepK round rec s.op k e L H (chkK back e L s.chk R)) H k fun v H' k' => stepsK round rec outs e K (s :: back) l k' (v :: L) H'

def seqK (A : Cont → CR) (B : Ctl → Env → Heap → CR) (K : Cont) : CR :=
  A fun o e H k => Out.rec (motive := fun _ => CR) (B k e H) (fun id => K (.exit id) e H k) (K .ret e H k) o
def condK (c : AV) (x y : CR) : CR := match c with
  | .b true => x
  | .b false => y
  | _ => .fail
def blockK (id : Nat) (A : Cont → CR) (K : Cont) : CR :=
  A fun o e H k => Out.rec (motive := fun _ => CR) (K .norm e H k) (fun j => Bool.rec (motive := fun _ => CR) (K (.exit j) e H k) (K .norm e H k) (Nat.beq j id)) (K .ret e H k) o
def loopK (body : Ctl → Env → Heap → Cont → CR) (m : Nat) (K : Cont) : Ctl → Env → Heap → CR :=
  Nat.rec (motive := fun _ => Ctl → Env → Heap → CR) (fun _ _ _ => .fail)
    (fun _ ih k e H => body k e H fun o e' H' k' => Out.rec (motive := fun _ => CR) (ih k' e' H') (fun id => K (.exit id) e' H' k') (K .ret e' H' k') o) m
def rangeK (call : Rec) (g : AV) (fn : Nat) (ps : List Slot) (as bd : IC) (k : Ctl) (e : Env) (H : Heap) (K : Cont) : CR :=
  match rangeA call g fn ps as bd k e H with
  | .ok o e' H' k' => K o e' H' k'
  | .fail => .fail

/-- Code that always goes on behind its end. -/
def straight : IC → Bool
  | .skip => true
  | .reg _ => true
  | .seq a b => straight a && straight b
  | _ => false
def execK (round : Rec → Id → List AV → Heap → CR) (fn : Nat) (rec : Rec) : IC → Ctl → Env → Heap → Cont → CR
  | .skip => fun k e H K => K .norm e H k
  | .reg r => fun k e H K => stepsK round rec r.outs e K [] r.steps k [] H
  | .seq a b => match straight a with
    | true => fun k e H K => execK round fn rec a k e H (fun _ e H k => execK round fn rec b k e H K)
    | false => fun k e H K => seqK (fun K' => execK round fn rec a k e H K') (fun k e H => execK round fn rec b k e H K) K
  | .cond c a b => fun k e H K => condK (opd c e []) (execK round fn rec a k e H K) (execK round fn rec b k e H K)
  | .block id a => fun k e H K => blockK id (fun K' => execK round fn rec a k e H K') K
  | .loop a => fun k e H K => loopK (fun k e H K' => execK round fn rec a k e H K') rounds K k e H
  | .exit id => fun k e H K => K (.exit id) e H k
  | .ret => fun k e H K => K .ret e H k
  | .rangeF f ps as bd => fun k e H K => rangeK rec (opd f e []) fn ps as bd k e H K
  | .bad => fun _ _ _ _ => .fail

def endK (recD : Rec) (rs : List IRes) : Cont := fun o e H k => Out.rec (motive := fun _ => CR)
  (Ctl.rec (motive := fun _ => CR) (fun ds _ => unwindA recD rs e ds H) k) (fun _ => .fail) (Ctl.rec (motive := fun _ => CR) (fun ds _ => unwindA recD rs e ds H) k) o

def roundT : Rec → Id → List AV → Heap → CR := roundA code1
def startK (np : Nat) (args : List AV) (A : Env → CR) : CR := Bool.rec (motive := fun _ => CR) .fail (A (startEnv args 0 Env.start)) (Nat.beq (len args) np)
abbrev FnK := Rec → Rec → List AV → Heap → CR
def bodyK (fn : Nat) (F : IFn) : FnK := fun rec recD args H => startK F.np args fun e => execK roundT fn rec F.code ⟨[], none⟩ e H (endK recD F.res)

def callC (tab : Nat → Option FnK) (dtab : Nat → Option IFn) (summ : Nat → List AV → Heap → Option CR) (n : Nat) : Rec :=
  Nat.rec (motive := fun _ => Rec) (fun _ _ _ => .fail)
    (fun _ ih f args H => Option.rec (motive := fun _ => CR)
      (Option.rec (motive := fun _ => CR) .fail (fun c => c ih (defA dtab ih) args H) (tab f))
      (fun r => r) (summ f args H)) n
end
end Go.AX
end

section
namespace Go.AX
/-! ## The printed texts say what the spec says -/

theorem partCellsV_eq (e : Env) (L : List AV) : ∀ (parts : List (Nat × Nat × Rf)) (z : List AV), partCellsV (opdParts e L parts) z = partCells e L parts z
  | [], z => rfl
  | (off, k, r) :: rest, z => by
    simp only [opdParts, partCellsV, partCells]
    cases cellsOf (opd r e L) with
    | none => rfl
    | some vs =>
      simp only
      cases Nat.beq (len vs) k with
      | true => exact partCellsV_eq e L rest _
      | false => rfl

theorem partsAsc_le {n : Nat} : ∀ {l : List (Nat × Nat × AV)} {pos : Nat}, partsAsc n pos l = true → pos ≤ n
  | [], pos, h => Nat.le_of_ble_eq_true h
  | (off, k, v) :: l, pos, h => by
    change (Bool.rec (motive := fun _ => Bool) false (partsAsc n (off + k) l) (Nat.ble pos off)) = true at h
    cases hb : Nat.ble pos off with
    | false => rw [hb] at h; cases h
    | true =>
      rw [hb] at h
      have h1 := Nat.le_of_ble_eq_true hb
      have h2 := partsAsc_le (l := l) h
      omega

theorem takeApp_eq (K : List AV → Option (List AV)) : ∀ (n : Nat) (z : List AV), n ≤ z.length → takeApp n K z = (K (z.drop n)).map (z.take n ++ ·)
  | 0, z, _ => by
    show K z = _
    rw [List.drop_zero, List.take_zero]
    cases K z <;> rfl
  | n + 1, [], h => by simp at h
  | n + 1, a :: t, h => by
    show Option.rec (motive := fun _ => Option (List AV)) none (fun r => some (a :: r)) (takeApp n K t) = _
    rw [takeApp_eq K n t (by simpa using h), List.drop_succ_cons, List.take_succ_cons]
    cases K (t.drop n) <;> rfl

theorem mergeV_eq : ∀ (parts : List (Nat × Nat × AV)) (pos : Nat) (pre z : List AV), pre.length = pos → partsAsc (pos + z.length) pos parts = true → (mergeV pos parts z).map (pre ++ ·) = partCellsV parts (pre ++ z)
  | [], pos, pre, z, _, _ => rfl
  | (off, k, v) :: rest, pos, pre, z, hp, h => by
    change (Bool.rec (motive := fun _ => Bool) false (partsAsc (pos + z.length) (off + k) rest) (Nat.ble pos off)) = true at h
    cases hb : Nat.ble pos off with
    | false => rw [hb] at h; cases h
    | true =>
      rw [hb] at h
      change partsAsc (pos + z.length) (off + k) rest = true at h
      have h1 := Nat.le_of_ble_eq_true hb
      have h2 := partsAsc_le h
      show (takeApp (off - pos) (fun z => Option.rec (motive := fun _ => Option (List AV)) none (fun vs => Bool.rec (motive := fun _ => Option (List AV)) none (Option.rec (motive := fun _ => Option (List AV)) none (fun r => some (app vs r)) (mergeV (off + k) rest (dropN k z))) (Nat.beq (len vs) k)) (cellsOf v)) z).map (pre ++ ·) = _
      rw [takeApp_eq _ _ _ (by omega)]
      simp only [partCellsV]
      cases hc : cellsOf v with
      | none => rfl
      | some vs =>
        simp only
        cases hk : Nat.beq (len vs) k with
        | false => rfl
        | true =>
          have hk := Nat.eq_of_beq_eq_true hk
          rw [len_eq] at hk
          simp only
          have hsp : splice vs off (pre ++ z) = (pre ++ z.take (off - pos) ++ vs) ++ (z.drop (off - pos)).drop k := by
            rw [splice_eq _ _ _ (by rw [List.length_append]; omega)]
            have e1 : (pre ++ z).take off = pre ++ z.take (off - pos) := by
              rw [List.take_append, List.take_of_length_le (by omega), hp]
            have e2 : (pre ++ z).drop (off + vs.length) = (z.drop (off - pos)).drop k := by
              rw [List.drop_append, List.drop_of_length_le (by omega), List.nil_append, List.drop_drop]
              congr 1
              omega
            rw [e1, e2]
          have ih := mergeV_eq rest (off + k) (pre ++ z.take (off - pos) ++ vs) ((z.drop (off - pos)).drop k) (by simp only [List.length_append, List.length_take]; omega) (by
            have : off + k + ((z.drop (off - pos)).drop k).length = pos + z.length := by
              simp only [List.length_drop]
              omega
            rw [this]
            exact h)
          rw [hsp, ← ih, dropN_eq]
          show Option.map (fun x => pre ++ x) (Option.map (fun x => z.take (off - pos) ++ x) (Option.rec (motive := fun _ => Option (List AV)) none (fun r => some (app vs r)) (mergeV (off + k) rest ((z.drop (off - pos)).drop k)))) = _
          cases mergeV (off + k) rest ((z.drop (off - pos)).drop k) with
          | none => rfl
          | some r => simp [app_eq]

theorem buildV_eq (e : Env) (L : List AV) (z : List AV) (parts : List (Nat × Nat × Rf)) : buildV z (opdParts e L parts) = partCells e L parts z := by
  rw [← partCellsV_eq]
  unfold buildV
  cases h : partsAsc (len z) 0 (opdParts e L parts) with
  | false => rfl
  | true =>
    show mergeV 0 (opdParts e L parts) z = _
    have := mergeV_eq (opdParts e L parts) 0 [] z rfl (by rw [len_eq] at h; rw [Nat.zero_add]; exact h)
    simpa using this

/-- What is done behind a step. -/
noncomputable def thenS (x : Stp) (K : StK) : CR := match x with
  | .ok v H k => K v H k
  | .fail => .fail
noncomputable def thenR (x : R) (K : Cont) : CR := match x with
  | .ok o e H k => K o e H k
  | .fail => .fail

theorem genK_eq (round : Rec → Id → List AV → Heap → CR) (rec : Rec) (o : IOp) (k : Ctl) (e : Env) (L : List AV) (H : Heap) (K : StK) : genK round rec o k e L H K = thenS (stepS round rec o k e L H) K := by
  unfold genK stepS
  cases o.kd with
  | q => simp only; cases evalQ o e L <;> rfl
  | h => simp only; cases evalH o e L H <;> rfl
  | a =>
    simp only
    cases evalA o e L with
    | none => rfl
    | some p => rfl
  | e =>
    simp only
    cases evalE o e L H with
    | none => rfl
    | some p => rfl
  | c =>
    simp only
    cases evalC o e L with
    | none => rfl
    | some p =>
      obtain ⟨t, args⟩ := p
      cases t with
      | inl g => simp only; cases rec g args H <;> rfl
      | inr l => simp only; cases round rec l args H <;> rfl
  | d =>
    simp only
    obtain ⟨ds, rn⟩ := k
    cases rn with
    | some l => rfl
    | none =>
      cases evalD o e L with
      | none => rfl
      | some p => rfl
  | p => rfl
  | r =>
    simp only
    obtain ⟨ds, rn⟩ := k
    cases rn <;> rfl

theorem optK_then (x : Option AV) (k : Ctl) (H : Heap) (K : StK) (s : Stp) (h : s = match x with | some v => .ok v H k | none => .fail) : (optK x fun v => K v H k) = thenS s K := by
  subst h
  cases x <;> rfl

theorem stepK_eq (round : Rec → Id → List AV → Heap → CR) (rec : Rec) (o : IOp) (k : Ctl) (e : Env) (L : List AV) (H : Heap) (K : StK) : stepK round rec o k e L H K = thenS (stepS round rec o k e L H) K := by
  cases o with
  | load ag n a => exact optK_then _ k H K _ rfl
  | store n a x =>
    simp only [stepK, stK, stepS, IOp.kd, evalE]
    cases storeA n (opd x e L) H (opd a e L) <;> rfl
  | bin op et x y => exact optK_then _ k H K _ rfl
  | un op x => exact optK_then _ k H K _ rfl
  | fieldAddr n x => exact optK_then _ k H K _ rfl
  | indexAddr arr n x i => exact optK_then _ k H K _ rfl
  | index arr x i => exact optK_then _ k H K _ rfl
  | field ag o n x => exact optK_then _ k H K _ rfl
  | len t x => exact optK_then _ k H K _ rfl
  | slice el x lo hi mx => exact optK_then _ k H K _ rfl
  | extract n x => exact optK_then _ k H K _ rfl
  | append ty n z s x =>
    simp only [stepK, apK, stepS, IOp.kd, evalE]
    cases appendA ty n z H (opd s e L) (opd x e L) with
    | none => rfl
    | some p => rfl
  | callF f l =>
    simp only [stepK, caK, stepS, IOp.kd, evalC]
    cases rec f (opds e L l) H <;> rfl
  | alloc ty z => rfl
  | build z parts =>
    simp only [stepK, bdK, stepS, IOp.kd, evalQ, buildV_eq]
    cases partCells e L parts z <;> rfl
  | pick c a b =>
    simp only [stepK, pkK, stepS, IOp.kd, evalQ]
    cases opd c e L with
    | b x => cases x <;> rfl
    | _ => rfl
  | box ty x =>
    simp only [stepK, bxK, stepS, IOp.kd, evalA]
    cases cellsOf (opd x e L) <;> rfl
  | mv x => rfl
  | _ => simp only [stepK]; exact genK_eq _ _ _ _ _ _ _ _

theorem thenS_congr (x : Stp) {K K' : StK} (h : ∀ v H k, K v H k = K' v H k) : thenS x K = thenS x K' := by
  cases x with
  | fail => rfl
  | ok v H k => exact h v H k

theorem chkK_eq (back : List IStep) (e : Env) (L : List AV) (chk : List Nat) (R : StK) (v : AV) (H : Heap) (k : Ctl) : chkK back e L chk R v H k = match checks back e L H chk with | true => R v H k | false => .fail := by
  cases chk with
  | nil => rfl
  | cons d l =>
    show boolK (checks back e L H (d :: l)) (R v H k) = _
    cases checks back e L H (d :: l) <;> rfl

theorem stepsK_eq (round : Rec → Id → List AV → Heap → CR) (rec : Rec) (outs : List (Slot × Rf)) (e : Env) (K : Cont) : ∀ (todo back : List IStep) (k : Ctl) (L : List AV) (H : Heap), stepsK round rec outs e K back todo k L H = thenR (runSteps round rec outs e back todo k L H) K
  | [], back, k, L, H => rfl
  | s :: l, back, k, L, H => by
    have hexec : ∀ (R : StK), (∀ v H' k', R v H' k' = thenR (runSteps round rec outs e (s :: back) l k' (v :: L) H') K) → stepK round rec s.op k e L H (chkK back e L s.chk R) = thenR (match stepS round rec s.op k e L H with
        | .fail => .fail
        | .ok v H' k' => match checks back e L H' s.chk with
          | true => runSteps round rec outs e (s :: back) l k' (v :: L) H'
          | false => .fail) K := by
      intro R hR
      rw [stepK_eq]
      cases stepS round rec s.op k e L H with
      | fail => rfl
      | ok v H' k' =>
        show chkK back e L s.chk R v H' k' = _
        rw [chkK_eq]
        simp only
        cases checks back e L H' s.chk with
        | true => exact hR v H' k'
        | false => rfl
    simp only [stepsK, runSteps]
    cases hg : s.guard with
    | none =>
      simp only [wanted]
      exact hexec _ fun v H' k' => stepsK_eq round rec outs e K l (s :: back) k' (v :: L) H'
    | some p =>
      obtain ⟨r, w⟩ := p
      simp only [wanted, gdK]
      cases wantedV (opd r e L) w with
      | none => rfl
      | some b =>
        cases b with
        | false => exact stepsK_eq round rec outs e K l (s :: back) k (undef :: L) H
        | true => exact hexec _ fun v H' k' => stepsK_eq round rec outs e K l (s :: back) k' (v :: L) H'

theorem straight_norm {code : Nat → IC → Run} {fn : Nat} {rec : Rec} : ∀ {a : IC} {k k' : Ctl} {e e' : Env} {H H' : Heap} {o : Out}, straight a = true → exec code fn a rec k e H = .ok o e' H' k' → o = .norm
  | .skip, k, k', e, e', H, H', o, _, h => by cases h; rfl
  | .reg r, k, k', e, e', H, H', o, _, h => by
    change runSteps (roundA code) rec r.outs e [] r.steps k [] H = _ at h
    have key : ∀ (todo back : List IStep) (k : Ctl) (L : List AV) (H : Heap), runSteps (roundA code) rec r.outs e back todo k L H = .ok o e' H' k' → o = .norm := by
      intro todo
      induction todo with
      | nil => intro back k L H h; cases h; rfl
      | cons s l ih =>
        intro back k L H h
        simp only [runSteps] at h
        split at h
        · cases h
        · exact ih _ _ _ _ h
        · split at h
          · cases h
          · split at h
            · exact ih _ _ _ _ h
            · cases h
    exact key _ _ _ _ _ h
  | .seq a b, k, k', e, e', H, H', o, hs, h => by
    simp only [straight, Bool.and_eq_true] at hs
    change (match exec code fn a rec k e H with | .ok .norm e' H' k' => exec code fn b rec k' e' H' | r => r) = .ok o e' H' k' at h
    split at h
    · exact straight_norm hs.2 h
    · exact straight_norm hs.1 h
  | .cond .., k, k', e, e', H, H', o, hs, h => by cases hs
  | .block .., k, k', e, e', H, H', o, hs, h => by cases hs
  | .loop .., k, k', e, e', H, H', o, hs, h => by cases hs
  | .exit .., k, k', e, e', H, H', o, hs, h => by cases hs
  | .ret, k, k', e, e', H, H', o, hs, h => by cases hs
  | .rangeF .., k, k', e, e', H, H', o, hs, h => by cases hs
  | .bad, k, k', e, e', H, H', o, hs, h => by cases hs

theorem execK_eq (code : Nat → IC → Run) (fn : Nat) (rec : Rec) : ∀ (c : IC) (k : Ctl) (e : Env) (H : Heap) (K : Cont), execK (roundA code) fn rec c k e H K = thenR (exec code fn c rec k e H) K
  | .skip, k, e, H, K => rfl
  | .reg r, k, e, H, K => stepsK_eq _ _ _ _ _ _ _ _ _ _
  | .seq a b, k, e, H, K => by
    have iha := execK_eq code fn rec a
    have ihb := execK_eq code fn rec b
    show (match straight a with | true => fun k e H K => execK (roundA code) fn rec a k e H (fun _ e H k => execK (roundA code) fn rec b k e H K) | false => fun k e H K => seqK (fun K' => execK (roundA code) fn rec a k e H K') (fun k e H => execK (roundA code) fn rec b k e H K) K) k e H K = thenR (match exec code fn a rec k e H with | .ok .norm e' H' k' => exec code fn b rec k' e' H' | r => r) K
    cases hs : straight a with
    | true =>
      simp only
      rw [iha]
      cases hx : exec code fn a rec k e H with
      | fail => rfl
      | ok o e1 H1 k1 =>
        obtain rfl := straight_norm hs hx
        exact ihb _ _ _ _
    | false =>
      simp only [seqK]
      rw [iha]
      cases exec code fn a rec k e H with
      | fail => rfl
      | ok o e1 H1 k1 =>
        cases o with
        | norm => exact ihb _ _ _ _
        | exit id => rfl
        | ret => rfl
  | .cond c a b, k, e, H, K => by
    have iha := execK_eq code fn rec a
    have ihb := execK_eq code fn rec b
    show condK (opd c e []) (execK (roundA code) fn rec a k e H K) (execK (roundA code) fn rec b k e H K) = thenR (match opd c e [] with | .b true => exec code fn a rec k e H | .b false => exec code fn b rec k e H | _ => .fail) K
    rw [iha, ihb]
    cases opd c e [] with
    | b x => cases x <;> rfl
    | _ => rfl
  | .block id a, k, e, H, K => by
    have iha := execK_eq code fn rec a
    show blockK id (fun K' => execK (roundA code) fn rec a k e H K') K = thenR (match exec code fn a rec k e H with | .ok (.exit j) e' H' k' => (match Nat.beq j id with | true => R.ok .norm e' H' k' | false => R.ok (.exit j) e' H' k') | r => r) K
    simp only [blockK]
    rw [iha]
    cases exec code fn a rec k e H with
    | fail => rfl
    | ok o e1 H1 k1 =>
      cases o with
      | norm => rfl
      | exit j =>
        show Bool.rec (motive := fun _ => CR) (K (.exit j) e1 H1 k1) (K .norm e1 H1 k1) (Nat.beq j id) = thenR (match Nat.beq j id with | true => R.ok .norm e1 H1 k1 | false => R.ok (.exit j) e1 H1 k1) K
        cases Nat.beq j id <;> rfl
      | ret => rfl
  | .loop a, k, e, H, K => by
    have iha := execK_eq code fn rec a
    have key : ∀ (m : Nat) (k : Ctl) (e : Env) (H : Heap), loopK (fun k e H K' => execK (roundA code) fn rec a k e H K') m K k e H = thenR (loopA (exec code fn a) rec m k e H) K := by
      intro m
      induction m with
      | zero => intro k e H; rfl
      | succ m ih =>
        intro k e H
        show execK (roundA code) fn rec a k e H (fun o e' H' k' => Out.rec (motive := fun _ => CR) (loopK (fun k e H K' => execK (roundA code) fn rec a k e H K') m K k' e' H') (fun id => K (.exit id) e' H' k') (K .ret e' H' k') o) = thenR (match exec code fn a rec k e H with | .ok .norm e' H' k' => loopA (exec code fn a) rec m k' e' H' | r => r) K
        rw [iha]
        cases exec code fn a rec k e H with
        | fail => rfl
        | ok o e1 H1 k1 =>
          cases o with
          | norm => exact ih _ _ _
          | exit j => rfl
          | ret => rfl
    exact key rounds k e H
  | .exit id, k, e, H, K => rfl
  | .ret, k, e, H, K => rfl
  | .rangeF f ps as bd, k, e, H, K => by
    show rangeK rec (opd f e []) fn ps as bd k e H K = thenR (rangeA rec (opd f e []) fn ps as bd k e H) K
    unfold rangeK
    cases rangeA rec (opd f e []) fn ps as bd k e H <;> rfl
  | .bad, k, e, H, K => rfl

theorem bodyK_eq (fn : Nat) (F : IFn) (rec recD : Rec) (args : List AV) (H : Heap) : bodyK fn F rec recD args H = bodyA fn F rec recD args H := by
  unfold bodyK bodyA startK
  cases Nat.beq (len args) F.np with
  | false => rfl
  | true =>
    show execK roundT fn rec F.code ⟨[], none⟩ (startEnv args 0 Env.start) H (endK recD F.res) = _
    rw [show roundT = roundA code1 from rfl, execK_eq]
    simp only
    cases exec code1 fn F.code rec ⟨[], none⟩ (startEnv args 0 Env.start) H with
    | fail => rfl
    | ok o e1 H1 k1 =>
      obtain ⟨ds, rn⟩ := k1
      cases o <;> rfl

/-- The texts that are printed. -/
def TabK (P : Program) (t : PT FnK) : Prop := ∀ f c, PT.get (Id.ofNat f) t = some c → ∃ fn F, P.funcs[f]? = some fn ∧ compFn P fn = some F ∧ bodyK f F = c
theorem TabK.e (P : Program) : TabK P .e := by
  intro f c h
  rw [PT.get_e] at h
  cases h
theorem TabK.put {P : Program} {t : PT FnK} {i : Nat} {fn : Func} {c : FnK} (hf : P.funcs[i]? = some fn) (hc : (compFn P fn).map (bodyK i) = some c) (h : TabK P t) : TabK P (PT.put c (Id.ofNat i) t) := by
  intro f d hd
  by_cases e : f = i
  · subst e
    rw [PT.get_put_same] at hd
    cases hd
    cases hF : compFn P fn with
    | none => rw [hF] at hc; cases hc
    | some F =>
      rw [hF] at hc
      exact ⟨fn, F, hf, hF, Option.some.inj hc⟩
  · rw [PT.get_put_ne _ _ _ _ (fun e' => e (Id.ofNat_inj e'))] at hd
    exact h f d hd

/-- The IR behind the printed texts. -/
noncomputable def tabOf (P : Program) (t : PT FnK) (f : Nat) : Option IFn := match PT.get (Id.ofNat f) t with
  | none => none
  | some _ => (P.funcs[f]?).bind (compFn P)
theorem tabOf_ok {P : Program} {t : PT FnK} : TabOk P (tabOf P t) := by
  intro f F h
  unfold tabOf at h
  split at h
  · cases h
  · cases hf : P.funcs[f]? with
    | none => rw [hf] at h; cases h
    | some fn => rw [hf] at h; exact ⟨fn, rfl, h⟩

theorem callC_eq {P : Program} {t : PT FnK} (ht : TabK P t) (dtab : Nat → Option IFn) (summ : Nat → List AV → Heap → Option CR) : ∀ n, callC (fun f => PT.get (Id.ofNat f) t) dtab summ n = callA (tabOf P t) dtab summ n
  | 0 => rfl
  | n + 1 => by
    have ih := callC_eq ht dtab summ n
    funext f args H
    show Option.rec (motive := fun _ => CR) (Option.rec (motive := fun _ => CR) .fail (fun c => c (callC (fun f => PT.get (Id.ofNat f) t) dtab summ n) (defA dtab (callC (fun f => PT.get (Id.ofNat f) t) dtab summ n)) args H) (PT.get (Id.ofNat f) t)) (fun r => r) (summ f args H)
      = match summ f args H with | some r => r | none => match tabOf P t f with | some F => bodyA f F (callA (tabOf P t) dtab summ n) (defA dtab (callA (tabOf P t) dtab summ n)) args H | none => .fail
    rw [ih]
    cases summ f args H with
    | some r => rfl
    | none =>
      simp only
      unfold tabOf
      cases hg : PT.get (Id.ofNat f) t with
      | none => rfl
      | some c =>
        obtain ⟨fn, F, h1, h2, h3⟩ := ht f c hg
        simp only [h1, Option.bind_some, h2]
        rw [← h3]
        exact bodyK_eq f F _ _ args H
end Go.AX
end

section
namespace Go.AX
/-! ## Calls of which the answer is known otherwise -/
variable {P : Program} {ρ ρ' : Ren} {w w' : World} {H H' : Heap}

mutual
/-- Does a value name no block? -/
def AV.shut : AV → Bool
  | .p _ _ _ => false
  | .sl _ _ _ _ _ => false
  | .m _ => false
  | .yl _ => false
  | .f _ x y => AV.shutL x && AV.shutL y
  | .ifc _ x => AV.shut x
  | .ag x => AV.shutL x
  | .tu x => AV.shutL x
  | _ => true
def AV.shutL : List AV → Bool
  | [] => true
  | x :: y => AV.shut x && AV.shutL y
end

mutual
theorem VRel.shut : ∀ {a : AV} {v : Value}, VRel ρ a v → a.shut = true → VRel ρ' a v
  | _, _, .un v, _ => .un v
  | _, _, .b x, _ => .b x
  | _, _, .i k n, _ => .i k n
  | _, _, .fl k n, _ => .fl k n
  | _, _, .s l s h, _ => .s l s h
  | _, _, .p0, _ => .p0
  | _, _, .p id ix off loc h, hs => by simp [AV.shut] at hs
  | _, _, .gl g, _ => .gl g
  | _, _, .sl0, _ => .sl0
  | _, _, .sl id st ln cap sz loc c h hz hl hc ht o ho, hs => by simp [AV.shut] at hs
  | _, _, .m0, _ => .m0
  | _, _, .m id loc h, hs => by simp [AV.shut] at hs
  | _, _, .f fn a b vs ws hv hw, hs => by
    simp only [AV.shut, Bool.and_eq_true] at hs
    exact .f fn a b vs ws (VRels.shut hv hs.1) (VRels.shut hw hs.2)
  | _, _, .yl id loc h, hs => by simp [AV.shut] at hs
  | _, _, .f0, _ => .f0
  | _, _, .if0, _ => .if0
  | _, _, .ifc t a v h, hs => .ifc t a v (VRel.shut h (by simpa [AV.shut] using hs))
  | _, _, .ag l cs hf h, hs => .ag l cs hf (VRels.shut h (by simpa [AV.shut] using hs))
  | _, _, .tu l cs h, hs => .tu l cs (VRels.shut h (by simpa [AV.shut] using hs))
theorem VRels.shut : ∀ {l : List AV} {m : List Value}, VRels ρ l m → AV.shutL l = true → VRels ρ' l m
  | _, _, .nil, _ => .nil
  | _, _, .cons a v l m h t, hs => by
    simp only [AV.shutL, Bool.and_eq_true] at hs
    exact .cons a v l m (VRel.shut h hs.1) (VRels.shut t hs.2)
end

def noName : Ren := fun _ => none
def empty : Heap := ⟨.h, .e⟩
theorem hrel_empty (P : Program) (w : World) : HRel P noName empty w := by
  refine ⟨(fun id loc h => by cases h), (fun a b la lb h => by cases h), ?_⟩
  intro id o h
  change PT.get id (.e : PT Obj) = some o at h
  rw [PT.get_e] at h
  cases h

/-- Fewer names: what is asked of the blocks without a name stays. -/
def Bare (B : Ren → World → Prop) : Prop := ∀ ρ w, B ρ w → B noName w

/-- Behind a run that began without a name, whatever stood stands. -/
theorem HRel.behind (hH : HRel P ρ H w) {ρ1 : Ren} {H1 : Heap} (g : Grow noName ρ1 empty H1 w w') : HRel P ρ H w' ∧ Grow ρ ρ H H w w' := by
  have hsame : ∀ k, k < w.heap.size → w'.heap[k]? = w.heap[k]? := fun k hk => g.same k hk fun id loc h => by cases h
  refine ⟨⟨?_, hH.kin, hH.old⟩, ?_⟩
  · intro id loc hl
    obtain ⟨o, ho, hk⟩ := hH.ok id loc hl
    exact ⟨o, ho, hk.keep (Ren.le_refl ρ) (hsame _ hk.lt)⟩
  · exact ⟨Ren.le_refl ρ, g.size, fun k hk _ => hsame k hk, (fun _ _ h h' => by rw [h] at h'; cases h'), (fun _ _ h h' => by rw [h] at h'; cases h'), Nat.le_refl _, (fun _ _ _ h _ => h), g.io⟩

/-- A call whose arguments and answer name no block: carried out once, at the empty heap, it is known at all. -/
theorem memo_call {B : Ren → World → Prop} (hbare : Bare B) {rec : Rec} (hrec : RecOk P B rec) {f : Nat} {args : List AV} {v : AV} {H1 : Heap} (h : rec f args empty = .ret v H1) (ha : AV.shutL args = true) (hv : v.shut = true) (H : Heap) : CallOk P B f args H v H := by
  intro ρ w vs hvs hH hB
  obtain ⟨h1, h2⟩ := hrec f args empty v H1 h noName w vs (hvs.shut ha) (hrel_empty P w) (hbare ρ w hB)
  refine ⟨h1, ?_⟩
  intro c cs
  obtain ⟨ρ1, w', v', s1, s2, s3, s4⟩ := h2 c cs
  obtain ⟨q1, q2⟩ := hH.behind s4
  exact ⟨ρ, w', v', s1, s2.shut hv, q1, q2⟩

/-- A contract of the kit's, of a call that leaves the world as it is. -/
theorem callOk_of_calls {B : Ren → World → Prop} {f : Nat} {args : List AV} {v : AV} (henter : ∀ (vs : Array Value) (w : World), (callFunc f vs).run P w = .ok (.enter f vs) w)
    (h : ∀ (ρ : Ren) (w : World) (vs : Array Value), VRels ρ args vs.toList → B ρ w → ∃ v' : Value, VRel ρ v v' ∧ Calls P f vs w fun e w' => e = .returned v' ∧ w' = w) (H : Heap) : CallOk P B f args H v H := by
  intro ρ w vs hvs hH hB
  refine ⟨fun w => henter vs w, ?_⟩
  intro c cs
  obtain ⟨v', hv, hc⟩ := h ρ w vs hvs hB
  obtain ⟨e, w', fr, ⟨rfl, rfl⟩, hcomes, hfn, hleave⟩ := hc (c :: cs)
  exact ⟨ρ, w', v', Steps.trans hcomes (.one (step_leave_returned hleave)), hv, hH, Grow.refl _ _ _⟩

theorem enters_of_body {f : Nat} {fn : Func} {c : Code} (hf : P.funcs[f]? = some fn) (hb : fn.body = some c) (hn : fn.name ≠ "runtime.NumGoroutine") (vs : Array Value) (w : World) : (callFunc f vs).run P w = .ok (.enter f vs) w := by
  simp only [callFunc, program, Sem.run_bind]
  show Result.andThen (Result.ok P w) _ = _
  simp only [Result.andThen_ok, hf]
  rw [if_neg (by simpa using hn), if_neg (by simp [hb])]
  rfl

/-- A variable of the library's own: nobody names it; it holds an int. -/
def IntVar (g : Nat) (ρ : Ren) (w : World) : Prop := (∀ id loc, ρ id = some loc → loc.blk ≠ g) ∧ ∃ m : Int, w.cell? ⟨g, 0, none⟩ = some (.int .i64 m)
theorem cell_lt {g : Nat} {v : Value} (h : w.cell? ⟨g, 0, none⟩ = some v) : g < w.heap.size := by
  rcases Nat.lt_or_ge g w.heap.size with h' | h'
  · exact h'
  · simp [World.cell?, Array.getElem?_eq_none h'] at h
theorem intVar_stable (g : Nat) : Stable (IntVar g) := by
  intro ρ ρ' H H' w w' h hg
  obtain ⟨h1, m, h2⟩ := h
  have hlt := cell_lt h2
  refine ⟨?_, m, ?_⟩
  · intro id loc hl e
    cases hr : ρ id with
    | some l =>
      have := (hg.le _ _ hr).symm.trans hl
      cases this
      exact h1 id _ hr e
    | none =>
      rcases hg.blk id loc hl hr with h3 | ⟨b, lb, h4, h5⟩
      · omega
      · exact h1 b lb h4 (h5.trans e)
  · rw [← h2]
    have := hg.same g hlt (fun id loc hl e => h1 id loc hl e)
    simp only [World.cell?, this]
theorem intVar_bare (g : Nat) : Bare (IntVar g) := fun ρ w h => ⟨(fun id loc hl => by cases hl), h.2⟩

/-! ### Is a text within another one? -/
noncomputable def isPreN (p l : List Nat) : Bool := List.rec (motive := fun _ => List Nat → Bool) (fun _ => true) (fun a _ ih l => List.rec (motive := fun _ => Bool) false (fun b t _ => Bool.rec (motive := fun _ => Bool) false (ih t) (Nat.beq a b)) l) p l
noncomputable def isInN (p l : List Nat) : Bool := List.rec (motive := fun _ => Bool) (isPreN p []) (fun a t ih => Bool.rec (motive := fun _ => Bool) ih true (isPreN p (a :: t))) l
theorem isPreN_eq : ∀ (p l : List UInt8), isPreN (p.map UInt8.toNat) (l.map UInt8.toNat) = p.isPrefixOf l
  | [], l => by cases l <;> rfl
  | a :: p, [] => rfl
  | a :: p, b :: l => by
    show (Bool.rec (motive := fun _ => Bool) false (isPreN (p.map UInt8.toNat) (l.map UInt8.toNat)) (Nat.beq a.toNat b.toNat)) = ((a == b) && p.isPrefixOf l)
    rw [isPreN_eq p l]
    cases h : Nat.beq a.toNat b.toNat with
    | true =>
      have : a = b := UInt8.toNat_inj.1 (Nat.eq_of_beq_eq_true h)
      subst this
      simp
    | false =>
      have : (a == b) = false := by
        rw [beq_eq_false_iff_ne]
        intro e
        subst e
        rw [Nat.beq_refl] at h
        cases h
      rw [this]
      rfl
theorem isInN_eq : ∀ (s p : List UInt8), isInN (p.map UInt8.toNat) (s.map UInt8.toNat) = decide (0 ≤ Lib.index s p)
  | [], p => by
    show isPreN (p.map UInt8.toNat) [] = _
    rw [show ([] : List Nat) = ([] : List UInt8).map UInt8.toNat from rfl, isPreN_eq]
    cases p <;> rfl
  | a :: s, p => by
    show (Bool.rec (motive := fun _ => Bool) (isInN (p.map UInt8.toNat) (s.map UInt8.toNat)) true (isPreN (p.map UInt8.toNat) ((a :: s).map UInt8.toNat))) = _
    rw [isPreN_eq, isInN_eq s p]
    rw [Bool.eq_iff_iff, decide_eq_true_eq]
    simp only [Lib.index]
    have hge := Lib.index_ge s p
    rcases Bool.eq_false_or_eq_true (p.isPrefixOf (a :: s)) with h0 | h0
    · simp [h0]
    · by_cases h : Lib.index s p = -1
      · simp [h0, h]
      · have h1 : (Lib.index s p == -1) = false := by rw [beq_eq_false_iff_ne]; exact h
        simp only [h0, h1, Bool.false_eq_true, if_false, decide_eq_true_eq]
        omega

/-- strings.Contains, as it is told. -/
noncomputable def containsS (args : List AV) (H : Heap) : Option CR := match args with
  | [.s a, .s b] => match Nat.ble (len a) 1000000000 with
    | true => some (.ret (.b (isInN b a)) H)
    | false => none
  | _ => none
theorem contains_ok {g f : Nat} (henter : ∀ (vs : Array Value) (w : World), (callFunc f vs).run P w = .ok (.enter f vs) w)
    (hc : ∀ (s sub : ByteArray) (m : Int) (w : World), s.size < 4294967281 → w.cell? ⟨g, 0, none⟩ = some (.int .i64 m) → Calls P f #[.string s, .string sub] w fun e w' => e = .returned (.bool (decide (0 ≤ Lib.index s.data.toList sub.data.toList))) ∧ w' = w)
    {args : List AV} {v : AV} (h : containsS args H = some (.ret v H')) : CallOk P (IntVar g) f args H v H' := by
  unfold containsS at h
  split at h
  · rename_i a b
    split at h
    · rename_i hl
      cases h
      refine callOk_of_calls henter ?_ H
      intro ρ w vs hvs hB
      obtain ⟨_, m, hm⟩ := hB
      obtain ⟨vs⟩ := vs
      cases hvs with
      | cons _ v1 _ m1 h1 t1 =>
        cases t1 with
        | cons _ v2 _ m2 h2 t2 =>
          cases t2
          cases h1 with
          | s _ s1 e1 =>
            cases h2 with
            | s _ s2 e2 =>
              refine ⟨_, ?_, hc s1 s2 m w ?_ hm⟩
              · rw [← e1, ← e2, isInN_eq]
                exact .b _
              · have := Nat.le_of_ble_eq_true hl
                rw [len_eq, ← e1, List.length_map] at this
                have hs : s1.data.toList.length = s1.size := Array.length_toList
                omega
    · cases h
  · cases h

/-! ### Where does a byte stand first? -/
theorem findIx_eq (c : Nat) : ∀ (l : List UInt8) (n : Nat), findIx c (l.map UInt8.toNat) n = (match Lib.indexByte l c.toUInt8 with | .ofNat k => some (n + k) | .negSucc _ => none) ∨ 256 ≤ c
  | [], n => .inl rfl
  | b :: l, n => by
    by_cases hc : 256 ≤ c
    · exact .inr hc
    refine .inl ?_
    have hcc : c.toUInt8.toNat = c := by
      simp only [Nat.toUInt8, UInt8.toNat_ofNat']
      omega
    show (Bool.rec (motive := fun _ => Option Nat) (findIx c (l.map UInt8.toNat) (n + 1)) (some n) (Nat.beq c b.toNat)) = _
    rcases findIx_eq c l (n + 1) with ih | ih
    · rw [ih]
      simp only [Lib.indexByte]
      cases h : Nat.beq c b.toNat with
      | true =>
        have e : b = c.toUInt8 := UInt8.toNat_inj.1 (by rw [hcc]; exact (Nat.eq_of_beq_eq_true h).symm)
        have e2 : (b == c.toUInt8) = true := by rw [e]; simp
        rw [if_pos e2]
        rfl
      | false =>
        have e2 : ¬ (b == c.toUInt8) = true := by
          intro e
          have := eq_of_beq e
          subst this
          rw [hcc, Nat.beq_refl] at h
          cases h
        rw [if_neg e2]
        cases Lib.indexByte l c.toUInt8 with
        | ofNat k =>
          have : ¬ ((Int.ofNat k == -1) = true) := by intro e; have := eq_of_beq e; cases this
          rw [if_neg this]
          show some (n + 1 + k) = some (n + (k + 1))
          congr 1
          omega
        | negSucc k =>
          cases k with
          | zero => rfl
          | succ k =>
            have : ¬ ((Int.negSucc (k + 1) == -1) = true) := by intro e; have := eq_of_beq e; cases this
            rw [if_neg this]
            show none = (match (Int.negSucc (k + 1) + 1) with | .ofNat k => some (n + k) | .negSucc _ => none)
            rfl
    · exact absurd ih hc
theorem indexByte_ge (c : UInt8) : ∀ l : List UInt8, -1 ≤ Lib.indexByte l c
  | [] => Int.le_refl _
  | b :: l => by
    have ih := indexByte_ge c l
    unfold Lib.indexByte
    split
    · decide
    · split
      · decide
      · omega

noncomputable def indexByteS (args : List AV) (H : Heap) : Option CR := match args with
  | [.s a, .i .u8 (.ofNat c)] => match Nat.blt c 256 with
    | true => some (.ret (.i .i64 (Option.rec (motive := fun _ => Int) (-1) (fun n => .ofNat n) (findIx c a 0))) H)
    | false => none
  | _ => none
theorem indexByte_ok {B : Ren → World → Prop} {f : Nat} (henter : ∀ (vs : Array Value) (w : World), (callFunc f vs).run P w = .ok (.enter f vs) w)
    (hc : ∀ (s : ByteArray) (c : Int) (w : World), Calls P f #[.string s, .int .u8 c] w fun e w' => e = .returned (.int .i64 (Lib.indexByte s.data.toList c.toNat.toUInt8)) ∧ w' = w)
    {args : List AV} {v : AV} (h : indexByteS args H = some (.ret v H')) : CallOk P B f args H v H' := by
  unfold indexByteS at h
  split at h
  · rename_i a c
    split at h
    · rename_i hl
      rw [Nat.blt_eq] at hl
      cases h
      refine callOk_of_calls henter ?_ H
      intro ρ w vs hvs hB
      obtain ⟨vs⟩ := vs
      cases hvs with
      | cons _ v1 _ m1 h1 t1 =>
        cases t1 with
        | cons _ v2 _ m2 h2 t2 =>
          cases t2
          cases h1 with
          | s _ s1 e1 =>
            cases h2 with
            | i _ _ =>
              refine ⟨_, ?_, hc s1 (.ofNat c) w⟩
              have : Option.rec (motive := fun _ => Int) (-1) (fun n => .ofNat n) (findIx c a 0) = Lib.indexByte s1.data.toList (Int.ofNat c).toNat.toUInt8 := by
                rw [← e1]
                rcases findIx_eq c s1.data.toList 0 with e | e
                · rw [e]
                  show _ = Lib.indexByte s1.data.toList c.toUInt8
                  have hge := indexByte_ge c.toUInt8 s1.data.toList
                  generalize Lib.indexByte s1.data.toList c.toUInt8 = z at hge ⊢
                  cases z with
                  | ofNat k => simp
                  | negSucc k =>
                    cases k with
                    | zero => rfl
                    | succ k => omega
                · omega
              rw [this]
              exact .i _ _
    · cases h
  · cases h
end Go.AX
end

section
namespace Go.AX
variable {P : Program} {ρ ρ' ρ1 : Ren} {w w' : World} {H H' H1 : Heap}

/-- What stands below a world's size stands; nothing is said outside. -/
structure Below0 (w w' : World) : Prop where
  size : w.heap.size ≤ w'.heap.size
  same : ∀ k, k < w.heap.size → w'.heap[k]? = w.heap[k]?
  io : SameIO w w'

theorem HRel.below (hH : HRel P ρ H w) (h : Below0 w w') : HRel P ρ H w' ∧ Grow ρ ρ H H w w' :=
  hH.behind (ρ1 := noName) (H1 := empty) ⟨Ren.le_refl _, h.size, fun k hk _ => h.same k hk, (fun _ _ h1 _ => by cases h1), (fun _ _ h1 _ => by cases h1), Nat.le_refl _, (fun _ _ _ h1 _ => h1), h.io⟩

/-- A contract of the kit's, of a call that makes blocks of its own alone. -/
theorem callOk_of_below {B : Ren → World → Prop} {f : Nat} {args : List AV} {v : AV} (henter : ∀ (vs : Array Value) (w : World), (callFunc f vs).run P w = .ok (.enter f vs) w)
    (h : ∀ (ρ : Ren) (w : World) (vs : Array Value), VRels ρ args vs.toList → B ρ w → ∃ v' : Value, VRel ρ v v' ∧ Calls P f vs w fun e w' => e = .returned v' ∧ Below0 w w') (H : Heap) : CallOk P B f args H v H := by
  intro ρ w vs hvs hH hB
  refine ⟨fun w => henter vs w, ?_⟩
  intro c cs
  obtain ⟨v', hv, hc⟩ := h ρ w vs hvs hB
  obtain ⟨e, w', fr, ⟨rfl, hb⟩, hcomes, hfn, hleave⟩ := hc (c :: cs)
  obtain ⟨q1, q2⟩ := hH.below hb
  exact ⟨ρ, w', v', Steps.trans hcomes (.one (step_leave_returned hleave)), hv, q1, q2⟩
end Go.AX
end

section
namespace Go.AX
noncomputable section
/-! ## strings.Builder: copyCheck and String, as they are told -/
variable {P : Program} {ρ ρ' : Ren} {w w' : World} {H H' : Heap}

theorem callOk_of {B : Ren → World → Prop} {f : Nat} {args : List AV} {v : AV} (henter : ∀ (vs : Array Value) (w : World), (callFunc f vs).run P w = .ok (.enter f vs) w)
    (h : ∀ (ρ : Ren) (w : World) (vs : Array Value), VRels ρ args vs.toList → HRel P ρ H w → B ρ w → ∃ Q : Ending → World → Prop, Calls P f vs w Q ∧ ∀ e w', Q e w' → ∃ v' ρ', e = .returned v' ∧ VRel ρ' v v' ∧ HRel P ρ' H' w' ∧ Grow ρ ρ' H H' w w') : CallOk P B f args H v H' := by
  intro ρ w vs hvs hH hB
  refine ⟨fun w => henter vs w, ?_⟩
  intro c cs
  obtain ⟨Q, hc, hq⟩ := h ρ w vs hvs hH hB
  obtain ⟨e, w', fr, hQ, hcomes, hfn, hleave⟩ := hc (c :: cs)
  obtain ⟨v', ρ', rfl, hv, q1, q2⟩ := hq e w' hQ
  exact ⟨ρ', w', v', Steps.trans hcomes (.one (step_leave_returned hleave)), hv, q1, q2⟩

theorem one_arg {a : AV} {vs : Array Value} (h : VRels ρ [a] vs.toList) : ∃ v, vs = #[v] ∧ VRel ρ a v := by
  obtain ⟨vs⟩ := vs
  cases h with
  | cons _ v _ m h1 t1 =>
    cases t1
    exact ⟨v, rfl, h1⟩

theorem thaw_frozen {b o : Nat} {c : Array Value} {e : TypeId} {fz : Nat × Nat} (hb : w.heap[b]? = some (.cells c e fz)) (hfz : Thaw c fz) (ho : o < c.size) : w.frozen? ⟨b, o, none⟩ = false := by
  obtain ⟨lo, hi⟩ := fz
  have := hfz o ho
  simp only [World.frozen?, hb, Bool.and_eq_false_iff, decide_eq_false_iff_not]
  simp only at this
  by_cases hlo : lo ≤ o
  · right; intro h; exact this ⟨hlo, h⟩
  · left; exact hlo

theorem heap_setCell {b o : Nat} {v : Value} {c : Array Value} {e : TypeId} {fz : Nat × Nat} (hb : w.heap[b]? = some (.cells c e fz)) :
    (w.setCell ⟨b, o, none⟩ v).heap[b]? = some (.cells (c.setIfInBounds o v) e fz) ∧ (∀ k, k ≠ b → (w.setCell ⟨b, o, none⟩ v).heap[k]? = w.heap[k]?) ∧ (w.setCell ⟨b, o, none⟩ v).heap.size = w.heap.size ∧ SameIO w (w.setCell ⟨b, o, none⟩ v) := by
  refine ⟨?_, ?_, ?_, rfl, rfl⟩
  · simp [World.setCell, Array.getElem?_modify, hb]
  · intro k hk
    simp only [World.setCell, Array.getElem?_modify]
    rw [if_neg (fun e => hk e.symm)]
  · simp [World.setCell]

/-- copyCheck, of a builder of type T. -/
def checkS (T : Nat) (args : List AV) (H : Heap) : Option CR := match args with
  | [.p id ix off] => match ix, off, H.get id with
    | 0, 0, some (.one ty sz cs) => match Nat.beq ty T && Nat.beq sz 2 with
      | true => match cs with
        | [.p0, b] => some (.ret (.tu []) (H.put id (.one ty sz [.p id 0 0, b])))
        | [.p q i2 o2, _] => match Id.beq q id && Nat.beq i2 0 && Nat.beq o2 0 with
          | true => some (.ret (.tu []) H)
          | false => none
        | _ => none
      | false => none
    | _, _, _ => none
  | _ => none

theorem check_ok {B : Ren → World → Prop} {f T : Nat} (henter : ∀ (vs : Array Value) (w : World), (callFunc f vs).run P w = .ok (.enter f vs) w)
    (hfresh : ∀ (b : Nat) (w : World), w.cell? ⟨b, 0, none⟩ = some (.pointer none) → w.shape? b = some (T, 2) → w.frozen? ⟨b, 0, none⟩ = false → Calls P f #[.pointer (some ⟨b, 0, none⟩)] w fun e w' => e = .returned (.tuple #[]) ∧ w' = w.setCell ⟨b, 0, none⟩ (.pointer (some ⟨b, 0, none⟩)))
    (hused : ∀ (b : Nat) (w : World), w.cell? ⟨b, 0, none⟩ = some (.pointer (some ⟨b, 0, none⟩)) → Calls P f #[.pointer (some ⟨b, 0, none⟩)] w fun e w' => e = .returned (.tuple #[]) ∧ w' = w)
    {args : List AV} {v : AV} (h : checkS T args H = some (.ret v H')) : CallOk P B f args H v H' := by
  unfold checkS at h
  split at h
  · rename_i id ix off
    split at h
    · rename_i ty sz cs hg
      split at h
      · rename_i hty
        rw [Bool.and_eq_true] at hty
        obtain ⟨hty, hsz⟩ := hty
        have hty := Nat.eq_of_beq_eq_true hty
        have hsz := Nat.eq_of_beq_eq_true hsz
        subst hty hsz
        split at h
        · rename_i b
          cases h
          refine callOk_of henter ?_
          intro ρ w vs hvs hH _
          obtain ⟨a, rfl, ha⟩ := one_arg hvs
          cases ha with
          | p _ _ _ loc hl =>
            obtain ⟨o, ho, hk⟩ := hH.ok id loc hl
            rw [hg] at ho
            cases ho
            obtain ⟨h1, h2, h3, c, e, fz, h4, h5, h6, h7, h8, rfl⟩ := hk
            have haddr : (⟨loc.blk, loc.base + 0 * loc.sz + 0, none⟩ : Addr) = ⟨loc.blk, 0, none⟩ := by simp [h2]
            rw [haddr]
            obtain ⟨c⟩ := c
            cases h8 with
            | cons _ v0 _ m0 r0 t0 =>
              cases t0 with
              | cons _ v1 _ m1 r1 t1 =>
                cases t1
                cases r0
                have hcell : w.cell? ⟨loc.blk, 0, none⟩ = some (.pointer none) := by rw [cell_of h4]; rfl
                refine ⟨_, hfresh loc.blk w hcell (by simp [World.shape?, h4]) (thaw_frozen h4 h5 (by simp)), ?_⟩
                rintro _ w' ⟨rfl, rfl⟩
                obtain ⟨q1, q2, q3, q4⟩ := heap_setCell (o := 0) (v := .pointer (some ⟨loc.blk, 0, none⟩)) h4
                have hp : VRel ρ (.p id 0 0) (.pointer (some ⟨loc.blk, 0, none⟩)) := by
                  have := VRel.p (ρ := ρ) id 0 0 loc hl
                  rwa [haddr] at this
                refine ⟨_, ρ, rfl, .tu [] #[] .nil, hH.put1 hl (hH.solo hl hg (fun _ _ _ _ _ _ e => by cases e)) ⟨h1, h2, h3, _, e, fz, q1, thaw_set h5, by simpa using h6, ?_, ?_, rfl⟩ q2, Grow.put1 hl q2 q3 q4⟩
                · simp only [List.all_cons, List.all_nil, Bool.and_true, Bool.and_eq_true] at h7 ⊢
                  exact ⟨rfl, h7.2⟩
                · exact .cons _ _ _ _ hp (.cons _ _ _ _ r1 .nil)
        · rename_i q i2 o2 _
          split at h
          · rename_i hq
            simp only [Bool.and_eq_true] at hq
            obtain ⟨⟨hq, hi2⟩, ho2⟩ := hq
            have hq := Id.beq_iff.1 hq
            have hi2 := Nat.eq_of_beq_eq_true hi2
            have ho2 := Nat.eq_of_beq_eq_true ho2
            subst hq hi2 ho2
            cases h
            refine callOk_of henter ?_
            intro ρ w vs hvs hH _
            obtain ⟨a, rfl, ha⟩ := one_arg hvs
            cases ha with
            | p _ _ _ loc hl =>
              obtain ⟨o, ho, hk⟩ := hH.ok q loc hl
              rw [hg] at ho
              cases ho
              obtain ⟨h1, h2, h3, c, e, fz, h4, h5, h6, h7, h8, rfl⟩ := hk
              have haddr : (⟨loc.blk, loc.base + 0 * loc.sz + 0, none⟩ : Addr) = ⟨loc.blk, 0, none⟩ := by simp [h2]
              rw [haddr]
              obtain ⟨c⟩ := c
              cases h8 with
              | cons _ v0 _ m0 r0 t0 =>
                cases r0 with
                | p _ _ _ loc2 hl2 =>
                  rw [hl] at hl2
                  cases hl2
                  have hcell : w.cell? ⟨loc.blk, 0, none⟩ = some (.pointer (some ⟨loc.blk, 0, none⟩)) := by
                    rw [cell_of h4, ← haddr]; rfl
                  refine ⟨_, hused loc.blk w hcell, ?_⟩
                  rintro _ w' ⟨rfl, rfl⟩
                  exact ⟨_, ρ, rfl, .tu [] #[] .nil, hH, Grow.refl _ _ _⟩
          · cases h
        · cases h
      · cases h
    · cases h
  · cases h

/-! ### An array whose bytes a string shares -/
theorem HRel.same_heap (hH : HRel P ρ H w) (hh : w'.heap = w.heap) (hio : SameIO w w') : HRel P ρ H w' ∧ Grow ρ ρ H H w w' := by
  refine ⟨⟨?_, hH.kin, hH.old⟩, Ren.le_refl _, by rw [hh]; exact Nat.le_refl _, fun k _ _ => by rw [hh], (fun _ _ h h' => by rw [h] at h'; cases h'), (fun _ _ h h' => by rw [h] at h'; cases h'), Nat.le_refl _, fun _ _ _ h _ => h, hio⟩
  intro id loc hl
  obtain ⟨o, ho, hk⟩ := hH.ok id loc hl
  exact ⟨o, ho, hk.keep (Ren.le_refl ρ) (by rw [hh])⟩

theorem HRel.frz1 (hH : HRel P ρ H w) {q : Id} {loc : Loc} {ty sz m : Nat} {d : List AV} {t : PT (List AV)} (hl : ρ q = some loc) (hg : H.get q = some (.arr ty sz m d t none)) {c : Array Value} {e : TypeId} {fz fz' : Nat × Nat}
    (h4 : w.heap[loc.blk]? = some (.cells c e fz)) (h4' : w'.heap[loc.blk]? = some (.cells c e fz')) (hs : ∀ k, k ≠ loc.blk → w'.heap[k]? = w.heap[k]?) (hsz : w'.heap.size = w.heap.size) (hio : SameIO w w') :
    HRel P ρ ((H.new (.lin H.next none m)).put q (.arr ty sz m d t (some H.next))) w' ∧ Grow ρ ρ H ((H.new (.lin H.next none m)).put q (.arr ty sz m d t (some H.next))) w w' := by
  have hqn : q ≠ H.next := hH.get_next _ _ hg
  have hN := hH.new (.lin H.next none m) hH.get_next
  have hg' : (H.new (.lin H.next none m)).get q = some (.arr ty sz m d t none) := by rw [Heap.get_new_ne _ _ hqn]; exact hg
  obtain ⟨o, ho, hk⟩ := hH.ok q loc hl
  rw [hg] at ho
  cases ho
  obtain ⟨f1, f2, f3, f4, c2, e2, fz2, f5, f6, f7, f8, hty⟩ := hk
  rw [h4] at f5
  cases f5
  have hgl : ((H.new (.lin H.next none m)).put q (.arr ty sz m d t (some H.next))).get H.next = some (.lin H.next none m) := by
    rw [Heap.get_put_ne _ _ (fun e => hqn e.symm), Heap.get_new_same]
  refine ⟨hN.put1 hl (hN.solo hl hg' (fun _ _ _ _ _ _ e => by cases e)) ⟨f1, f2, f3, ?_, _, _, fz', h4', ?_, f7, fun ix hix _ => f8 ix hix rfl, hty⟩ hs, Grow.trans hH.old (Grow.newH hH _) (Grow.put1 hl hs hsz hio)⟩
  · intro l hl'
    cases hl'
    exact ⟨_, _, _, hgl, Nat.le_refl _⟩
  · intro hla
    simp only [Heap.latest, hgl] at hla
    exact absurd (Id.beq_iff.1 hla).symm hqn

theorem HRel.frz2 (hH : HRel P ρ H w) {q k : Id} {loc : Loc} {ty sz m top : Nat} {st : Option Nat} {d : List AV} {t : PT (List AV)} (hl : ρ q = some loc) (hg : H.get q = some (.arr ty sz m d t (some k))) (hk : H.get k = some (.lin q st top)) {c : Array Value} {e : TypeId} {fz fz' : Nat × Nat}
    (h4 : w.heap[loc.blk]? = some (.cells c e fz)) (h4' : w'.heap[loc.blk]? = some (.cells c e fz')) (hs : ∀ k, k ≠ loc.blk → w'.heap[k]? = w.heap[k]?) (hsz : w'.heap.size = w.heap.size) (hio : SameIO w w') :
    HRel P ρ (H.put k (.lin k st top)) w' ∧ Grow ρ ρ H (H.put k (.lin k st top)) w w' := by
  have hnk : ρ k = none := by
    cases hh : ρ k with
    | none => rfl
    | some lk =>
      obtain ⟨o, ho, hok⟩ := hH.ok k lk hh
      rw [hk] at ho
      cases ho
      cases hok
  have hgk : (H.put k (.lin k st top)).get k = some (.lin k st top) := Heap.get_put_same _ _ _
  have hgo : ∀ x, x ≠ k → (H.put k (.lin k st top)).get x = H.get x := fun x hx => Heap.get_put_ne _ _ hx
  have hnx : (H.put k (.lin k st top)).next = H.next := Heap.next_put _ _ _
  generalize H.put k (.lin k st top) = H2 at hgk hgo hnx
  have hlins : ∀ l x s tp, H.get l = some (.lin x s tp) → ∃ x' s' tp', H2.get l = some (.lin x' s' tp') ∧ tp ≤ tp' := by
    intro l x s tp h
    by_cases e1 : l = k
    · subst e1
      rw [hk] at h
      cases h
      exact ⟨_, _, _, hgk, Nat.le_refl _⟩
    · exact ⟨_, _, _, (hgo l e1).trans h, Nat.le_refl _⟩
  have hrd : ∀ x, x ≠ k → ∀ ix l, H2.readable x ix (some l) = true → H.readable x ix (some l) = true := by
    intro x hx ix l h
    by_cases e1 : l = k
    · subst e1
      have hnb : Id.beq l x = false := Bool.eq_false_iff.2 (fun hh => hx (Id.beq_iff.1 hh).symm)
      simp only [Heap.readable, hgk, hnb, Bool.false_or] at h
      simp only [Heap.readable, hk, Bool.or_eq_true]
      exact .inr h
    · simp only [Heap.readable, hgo l e1] at h
      exact h
  have hla : ∀ x, x ≠ k → ∀ l, H2.latest x (some l) = true → H.latest x (some l) = true ∧ l ≠ k := by
    intro x hx l h
    by_cases e1 : l = k
    · subst e1
      simp only [Heap.latest, hgk] at h
      exact absurd (Id.beq_iff.1 h).symm hx
    · simp only [Heap.latest, hgo l e1] at h
      exact ⟨h, e1⟩
  refine ⟨⟨?_, ?_, ?_⟩, ?_⟩
  · intro x lx hx
    obtain ⟨o, ho, hok⟩ := hH.ok x lx hx
    have hxk : x ≠ k := by intro e; subst e; rw [hnk] at hx; cases hx
    refine ⟨o, (hgo x hxk).trans ho, ?_⟩
    have hh := hok.heap2 hlins (fun ix l => hrd x hxk ix l) (fun l h => (hla x hxk l h).1)
    by_cases hb : lx.blk = loc.blk
    · have hlin : ∃ ty2 sz2 n2 d2 t2, o = .arr ty2 sz2 n2 d2 t2 (some k) := by
        rcases hH.kin x q lx loc hx hl hb with h | ⟨_, l2, ty2, sz2, n2, d2, t2, ty3, sz3, n3, d3, t3, k1, k2⟩
        · subst h
          rw [hg] at ho
          cases ho
          exact ⟨_, _, _, _, _, rfl⟩
        · rw [hg] at k2
          cases k2
          rw [ho] at k1
          cases k1
          exact ⟨_, _, _, _, _, rfl⟩
      obtain ⟨ty2, sz2, n2, d2, t2, rfl⟩ := hlin
      obtain ⟨f1, f2, f3, f4, c2, e2, fz2, f5, f6, f7, f8, hty⟩ := hh
      rw [hb, h4] at f5
      cases f5
      refine ⟨f1, f2, f3, f4, _, _, fz', by rw [hb]; exact h4', ?_, f7, f8, hty⟩
      intro h
      exact absurd rfl (hla x hxk k h).2
    · exact hh.keep (Ren.le_refl ρ) (hs _ hb)
  · intro a b la lb ha hb hab
    rcases hH.kin a b la lb ha hb hab with h | ⟨h1, l, ty, sz, n, d, t, ty', sz', n', d', t', g1, g2⟩
    · exact .inl h
    · have hak : a ≠ k := by intro e; subst e; rw [hnk] at ha; cases ha
      have hbk : b ≠ k := by intro e; subst e; rw [hnk] at hb; cases hb
      exact .inr ⟨h1, l, ty, sz, n, d, t, ty', sz', n', d', t', (hgo a hak).trans g1, (hgo b hbk).trans g2⟩
  · intro x o hx
    rw [hnx]
    by_cases e1 : x = k
    · subst e1; exact hH.old _ _ hk
    · rw [hgo x e1] at hx
      exact hH.old _ _ hx
  · refine ⟨Ren.le_refl _, by rw [hsz]; exact Nat.le_refl _, ?_, (fun _ _ h h' => by rw [h] at h'; cases h'), (fun _ _ h h' => by rw [h] at h'; cases h'), by rw [hnx]; exact Nat.le_refl _, ?_, hio⟩
    · intro j _ hne
      exact hs j fun e => hne q loc hl e.symm
    · intro x o _ ho hnl
      have : x ≠ k := by
        intro e
        subst e
        rw [hk] at ho
        cases ho
        exact hnl _ _ _ rfl
      rw [hgo x this]
      exact ho

/-- String, of a builder. U: the type of bytes. -/
def strS (U : Nat) (args : List AV) (H : Heap) : Option CR := match args with
  | [.p id ix off] => match ix, off, H.get id with
    | 0, 0, some (.one _ sz cs) => match Nat.beq sz 2 with
      | true => match cs with
        | [_, .sl0] => some (.ret (.s []) H)
        | [_, .sl q st n _ k] => match H.get q with
          | some (.arr ty sz' m d t lin) => match Nat.beq ty U && Nat.beq k 1 && Nat.beq sz' 1 && Nat.beq st 0 && Nat.blt 0 n && Nat.ble n m && Nat.ble n 1000000000 with
            | true => match bytesAt t d n 0 with
              | some l => match lin with
                | none => some (.ret (.s l) ((H.new (.lin H.next none m)).put q (.arr ty sz' m d t (some H.next))))
                | some j => match H.get j with
                  | some (.lin x stb top) => match Id.beq x q with
                    | true => some (.ret (.s l) (H.put j (.lin j stb top)))
                    | false => none
                  | _ => none
              | none => none
            | false => none
          | _ => none
        | _ => none
      | false => none
    | _, _, _ => none
  | _ => none

theorem freeze_heap {w : World} {g n : Nat} {c : Array Value} {e : TypeId} {fz : Nat × Nat} (h : w.heap[g]? = some (.cells c e fz)) : (∃ fz', (w.freeze ⟨g, 0, none⟩ n).heap[g]? = some (.cells c e fz')) ∧ (∀ k, k ≠ g → (w.freeze ⟨g, 0, none⟩ n).heap[k]? = w.heap[k]?) ∧ (w.freeze ⟨g, 0, none⟩ n).heap.size = w.heap.size ∧ SameIO w (w.freeze ⟨g, 0, none⟩ n) := by
  unfold World.freeze
  split
  · exact ⟨⟨_, h⟩, fun _ _ => rfl, rfl, rfl, rfl⟩
  · obtain ⟨lo, hi⟩ := fz
    refine ⟨⟨if lo == hi then (0, 0 + n) else (min lo 0, max hi (0 + n)), ?_⟩, ?_, ?_, rfl, rfl⟩
    · simp only [Array.getElem?_modify, if_true, h, Option.map_some]
    · intro k hk
      simp only [Array.getElem?_modify]
      rw [if_neg (fun e => hk e.symm)]
    · simp

theorem str_ok {B : Ren → World → Prop} {f U : Nat} (henter : ∀ (vs : Array Value) (w : World), (callFunc f vs).run P w = .ok (.enter f vs) w)
    (hstr : ∀ (b g cap : Nat) (l : List UInt8) (cur : Array Value) (fz : Nat × Nat) (w : World), l ≠ [] → cap ≠ 0 → w.cell? ⟨b, 1, none⟩ = some (.slice (some ⟨g, 0, none⟩) l.length cap) → w.heap[g]? = some (.cells cur U fz) → l.length ≤ cur.size → l.length ≤ 9223372036854775807 →
      (∀ (j : Nat) (x : UInt8), l[j]? = some x → cur[j]? = some (Value.int .u8 (x.toNat : Int))) → Calls P f #[.pointer (some ⟨b, 0, none⟩)] w fun e w' => e = .returned (.string ⟨l.toArray⟩) ∧ w' = w.drew.freeze ⟨g, 0, none⟩ l.length)
    (hnil : ∀ (b : Nat) (w : World), w.cell? ⟨b, 1, none⟩ = some (.slice none 0 0) → Calls P f #[.pointer (some ⟨b, 0, none⟩)] w fun e w' => e = .returned (.string ⟨#[]⟩) ∧ w' = w.drew)
    {args : List AV} {v : AV} (h : strS U args H = some (.ret v H')) : CallOk P B f args H v H' := by
  unfold strS at h
  split at h
  · rename_i id ix off
    split at h
    · rename_i ty sz cs hg
      split at h
      · rename_i hsz
        have hsz := Nat.eq_of_beq_eq_true hsz
        subst hsz
        split at h
        · rename_i a0
          cases h
          refine callOk_of henter ?_
          intro ρ w vs hvs hH _
          obtain ⟨a, rfl, ha⟩ := one_arg hvs
          cases ha with
          | p _ _ _ loc hl =>
            obtain ⟨o, ho, hk⟩ := hH.ok id loc hl
            rw [hg] at ho
            cases ho
            obtain ⟨h1, h2, h3, c, e, fz, h4, h5, h6, h7, h8, rfl⟩ := hk
            have haddr : (⟨loc.blk, loc.base + 0 * loc.sz + 0, none⟩ : Addr) = ⟨loc.blk, 0, none⟩ := by simp [h2]
            rw [haddr]
            obtain ⟨c⟩ := c
            cases h8 with
            | cons _ v0 _ m0 r0 t0 =>
              cases t0 with
              | cons _ v1 _ m1 r1 t1 =>
                cases t1
                cases r1
                have hcell : w.cell? ⟨loc.blk, 1, none⟩ = some (.slice none 0 0) := by rw [cell_of h4]; rfl
                refine ⟨_, hnil loc.blk w hcell, ?_⟩
                rintro _ w' ⟨rfl, rfl⟩
                obtain ⟨q1, q2⟩ := hH.same_heap (w' := w.drew) rfl ⟨rfl, rfl⟩
                exact ⟨_, ρ, rfl, .s [] _ rfl, q1, q2⟩
        · rename_i a0 q st n cp k
          split at h
          · rename_i ty' sz' m d t lin hgq
            split at h
            · rename_i hcond
              simp only [Bool.and_eq_true, Nat.ble_eq, Nat.blt_eq] at hcond
              obtain ⟨⟨⟨⟨⟨⟨hc1, hc2⟩, hc3⟩, hc4⟩, hn0⟩, hnm⟩, hnb⟩ := hcond
              have hc1 := Nat.eq_of_beq_eq_true hc1
              have hc2 := Nat.eq_of_beq_eq_true hc2
              have hc3 := Nat.eq_of_beq_eq_true hc3
              have hc4 := Nat.eq_of_beq_eq_true hc4
              subst hc1 hc2 hc3 hc4
              split at h
              · rename_i l hbl
                obtain ⟨hlen, hget⟩ := bytesAt_len hbl
                have key : ∀ (ρ : Ren) (w : World) (vs : Array Value), VRels ρ [.p id 0 0] vs.toList → HRel P ρ H w → H.latest q lin = true → ∃ locq cur fz fz', ρ q = some locq ∧ w.heap[locq.blk]? = some (.cells cur ty' fz) ∧ (∃ Q : Ending → World → Prop, Calls P f vs w Q ∧ ∀ e w', Q e w' → ∃ v', e = .returned v' ∧ VRel ρ (.s l) v' ∧
                    w'.heap[locq.blk]? = some (.cells cur ty' fz') ∧ (∀ k, k ≠ locq.blk → w'.heap[k]? = w.heap[k]?) ∧ w'.heap.size = w.heap.size ∧ SameIO w w') := by
                  intro ρ w vs hvs hH hla
                  obtain ⟨a, rfl, ha⟩ := one_arg hvs
                  cases ha with
                  | p _ _ _ loc hl =>
                    obtain ⟨o, ho, hk⟩ := hH.ok id loc hl
                    rw [hg] at ho
                    cases ho
                    obtain ⟨h1, h2, h3, c, e, fz, h4, h5, h6, h7, h8, rfl⟩ := hk
                    have haddr : (⟨loc.blk, loc.base + 0 * loc.sz + 0, none⟩ : Addr) = ⟨loc.blk, 0, none⟩ := by simp [h2]
                    rw [haddr]
                    obtain ⟨c⟩ := c
                    cases h8 with
                    | cons _ v0 _ m0 r0 t0 =>
                      cases t0 with
                      | cons _ v1 _ m1 r1 t1 =>
                        cases t1
                        cases r1 with
                        | sl _ _ _ _ _ locq cap hlq hz hlc hc ht o hoff =>
                          obtain ⟨o2, ho2, hk2⟩ := hH.ok q locq hlq
                          rw [hgq] at ho2
                          cases ho2
                          obtain ⟨f1, f2, f3, f4, cur, e2, fzq, f5, f6, f7, f8, rfl, fb⟩ := hk2
                          have ho := hoff (by omega)
                          have ho0 : o = 0 := by rw [ho, fb, f1]
                          subst ho0
                          have hcell : w.cell? ⟨loc.blk, 1, none⟩ = some (.slice (some ⟨locq.blk, 0, none⟩) n cap) := by rw [cell_of h4]; rfl
                          have hl8 : ((l.map UInt8.ofNat).map UInt8.toNat) = l := by
                            rw [List.map_map]
                            apply List.ext_getElem?
                            intro j
                            rw [List.getElem?_map]
                            cases hj : l[j]? with
                            | none => rfl
                            | some x =>
                              have := (hget j x hj).2
                              simp only [Option.map_some, Function.comp_apply, UInt8.toNat_ofNat', Option.some.injEq]
                              omega
                          have hll : (l.map UInt8.ofNat).length = n := by rw [List.length_map, hlen]
                          have hrd : ∀ ix, H.readable q ix lin = true := by
                            intro ix
                            cases lin with
                            | none => rfl
                            | some j =>
                              simp only [Heap.latest] at hla
                              simp only [Heap.readable]
                              split at hla
                              · rename_i x s tp hx
                                simp only [hla, Bool.true_or]
                              · cases hla
                          have hcells : ∀ (j : Nat) (x : UInt8), (l.map UInt8.ofNat)[j]? = some x → cur[j]? = some (.int .u8 x.toNat) := by
                            intro j x hj
                            rw [List.getElem?_map, Option.map_eq_some_iff] at hj
                            obtain ⟨x0, hx0, rfl⟩ := hj
                            obtain ⟨r1, r2⟩ := hget j x0 hx0
                            have hjn : j < n := by rw [← hlen]; exact (List.getElem?_eq_some_iff.1 hx0).1
                            obtain ⟨v', hv1, hv2⟩ := f8 (0 + j) (by omega) (hrd _) 0 (.i .u8 (.ofNat x0)) (by rw [r1]; rfl)
                            have e1 : locq.base + (0 + j) * 1 + 0 = j := by omega
                            rw [e1] at hv1
                            rw [hv1]
                            cases hv2
                            have : (UInt8.ofNat x0).toNat = x0 := by simp only [UInt8.toNat_ofNat']; omega
                            rw [this]
                            rfl
                          have hcur : n ≤ cur.size := by
                            have : m * 1 ≤ locq.tot := by omega
                            omega
                          have hcall := hstr loc.blk locq.blk cap (l.map UInt8.ofNat) cur fzq w (by intro e; rw [e] at hll; simp at hll; omega) (by omega) (by rw [hll]; exact hcell) f5 (by omega) (by omega) hcells
                          obtain ⟨⟨fz', g1⟩, g2, g3, g4⟩ := freeze_heap (w := w.drew) (g := locq.blk) (n := (l.map UInt8.ofNat).length) (c := cur) (e := e2) (fz := fzq) f5
                          refine ⟨locq, cur, fzq, fz', hlq, f5, _, hcall, ?_⟩
                          rintro _ w' ⟨rfl, rfl⟩
                          exact ⟨_, rfl, .s _ _ hl8, g1, g2, g3, g4⟩
                split at h
                · cases h
                  refine callOk_of henter ?_
                  intro ρ w vs hvs hH _
                  obtain ⟨locq, cur, fz, fz', k1, k2, Q, k3, k4⟩ := key ρ w vs hvs hH rfl
                  refine ⟨Q, k3, ?_⟩
                  intro e w' hQ
                  obtain ⟨v', m1, m2, m3, m4, m5, m6⟩ := k4 e w' hQ
                  obtain ⟨q1, q2⟩ := hH.frz1 k1 hgq k2 m3 m4 m5 m6
                  exact ⟨v', ρ, m1, m2, q1, q2⟩
                · rename_i j
                  split at h
                  · rename_i x stb top hj
                    split at h
                    · rename_i hx
                      have hxq := Id.beq_iff.1 hx
                      subst hxq
                      cases h
                      refine callOk_of henter ?_
                      intro ρ w vs hvs hH _
                      obtain ⟨locq, cur, fz, fz', k1, k2, Q, k3, k4⟩ := key ρ w vs hvs hH (by simp only [Heap.latest, hj]; exact hx)
                      refine ⟨Q, k3, ?_⟩
                      intro e w' hQ
                      obtain ⟨v', m1, m2, m3, m4, m5, m6⟩ := k4 e w' hQ
                      obtain ⟨q1, q2⟩ := hH.frz2 k1 hgq hj k2 m3 m4 m5 m6
                      exact ⟨v', ρ, m1, m2, q1, q2⟩
                    · cases h
                  · cases h
              · cases h
            · cases h
          · cases h
        · cases h
      · cases h
    · cases h
  · cases h
end
end Go.AX
end

section
namespace Go.AX
noncomputable section
/-! ## strings.Repeat and strings.Replace, as they are told -/
variable {P : Program} {ρ ρ' : Ren} {w w' : World} {H H' : Heap}

theorem below0 (h : Go.RowKit.Below w.heap.size w w') : Below0 w w' := ⟨h.size, h.block, h.os, h.output⟩

theorem u8s_of {s : ByteArray} {l : List Nat} (h : s.data.toList.map UInt8.toNat = l) : l.map UInt8.ofNat = s.data.toList := by
  subst h
  rw [List.map_map]
  have : (UInt8.ofNat ∘ UInt8.toNat) = id := by funext x; simp
  rw [this, List.map_id]

def repN (l : List Nat) : Nat → List Nat := Nat.rec [] fun _ ih => app l ih
theorem repN_eq (l : List UInt8) : ∀ n, repN (l.map UInt8.toNat) n = (Lib.repeatL l n).map UInt8.toNat
  | 0 => rfl
  | n + 1 => by
    show app (l.map UInt8.toNat) (repN (l.map UInt8.toNat) n) = _
    rw [app_eq, repN_eq l n, Lib.repeatL, List.map_append]

/-- strings.Repeat, as it is told. -/
def repeatS (args : List AV) (H : Heap) : Option CR := match args with
  | [.s a, .i .i64 (.ofNat n)] => match Nat.ble n 1000000 && Nat.ble (len a) 1000000 with
    | true => some (.ret (.s (repN a n)) H)
    | false => none
  | _ => none
theorem repeat_ok {B : Ren → World → Prop} {f : Nat} (henter : ∀ (vs : Array Value) (w : World), (callFunc f vs).run P w = .ok (.enter f vs) w)
    (hc : ∀ (s : ByteArray) (c : Nat) (w : World), c ≤ 9223372036854775807 → s.size * c ≤ 140737488355328 → Calls P f #[.string s, .int .i64 c] w fun e w' => e = .returned (.string ⟨(Lib.repeatL s.data.toList c).toArray⟩) ∧ Go.RowKit.Below w.heap.size w w')
    {args : List AV} {v : AV} (h : repeatS args H = some (.ret v H')) : CallOk P B f args H v H' := by
  unfold repeatS at h
  split at h
  · rename_i a n
    split at h
    · rename_i hl
      rw [Bool.and_eq_true, Nat.ble_eq, Nat.ble_eq] at hl
      obtain ⟨hn, hl⟩ := hl
      cases h
      refine callOk_of_below henter ?_ H
      intro ρ w vs hvs hB
      obtain ⟨vs⟩ := vs
      cases hvs with
      | cons _ v1 _ m1 h1 t1 =>
        cases t1 with
        | cons _ v2 _ m2 h2 t2 =>
          cases t2
          cases h1 with
          | s _ s1 e1 =>
            cases h2
            have hs : s1.data.toList.length = s1.size := Array.length_toList
            have hla : s1.size ≤ 1000000 := by
              rw [len_eq, ← e1, List.length_map] at hl
              omega
            have hmul : s1.size * n ≤ 1000000 * 1000000 := Nat.mul_le_mul hla hn
            refine ⟨.string ⟨(Lib.repeatL s1.data.toList n).toArray⟩, ?_, (hc s1 n w (by omega) (by omega)).mono ?_⟩
            · refine .s _ _ ?_
              rw [← e1, repN_eq]
            · rintro e w' ⟨rfl, hb⟩
              exact ⟨rfl, below0 hb⟩
    · cases h
  · cases h

/-- strings.Replace, as it is told. -/
def replaceS (args : List AV) (H : Heap) : Option CR := match args with
  | [.s a, .s b, .s c, .i .i64 n] => match Nat.ble (len a) 1000000 && Nat.blt 0 (len b) && Nat.ble (len c) 1000000 with
    | true => some (.ret (.s ((Lib.replace (a.map UInt8.ofNat) (b.map UInt8.ofNat) (c.map UInt8.ofNat) n).map UInt8.toNat)) H)
    | false => none
  | _ => none
theorem replace_ok {g f : Nat} (henter : ∀ (vs : Array Value) (w : World), (callFunc f vs).run P w = .ok (.enter f vs) w)
    (hc : ∀ (s old new : ByteArray) (n m : Int) (w : World), s.size < 4294967281 → w.cell? ⟨g, 0, none⟩ = some (.int .i64 m) → 1 ≤ old.size → s.size + Lib.countB s old * new.size ≤ 140737488355328 →
      Calls P f #[.string s, .string old, .string new, .int .i64 n] w fun e w' => e = .returned (.string ⟨(Lib.replace s.data.toList old.data.toList new.data.toList n).toArray⟩) ∧ Go.RowKit.Below w.heap.size w w')
    {args : List AV} {v : AV} (h : replaceS args H = some (.ret v H')) : CallOk P (IntVar g) f args H v H' := by
  unfold replaceS at h
  split at h
  · rename_i a b c n
    split at h
    · rename_i hl
      simp only [Bool.and_eq_true, Nat.ble_eq, Nat.blt_eq] at hl
      obtain ⟨⟨hla, hlb⟩, hlc⟩ := hl
      cases h
      refine callOk_of_below henter ?_ H
      intro ρ w vs hvs hB
      obtain ⟨_, m, hm⟩ := hB
      obtain ⟨vs⟩ := vs
      cases hvs with
      | cons _ v1 _ m1 h1 t1 =>
      cases t1 with
      | cons _ v2 _ m2 h2 t2 =>
      cases t2 with
      | cons _ v3 _ m3 h3 t3 =>
      cases t3 with
      | cons _ v4 _ m4 h4 t4 =>
        cases t4
        cases h1 with
        | s _ s1 e1 =>
        cases h2 with
        | s _ s2 e2 =>
        cases h3 with
        | s _ s3 e3 =>
          cases h4
          have q1 : s1.data.toList.length = s1.size := Array.length_toList
          have q2 : s2.data.toList.length = s2.size := Array.length_toList
          have q3 : s3.data.toList.length = s3.size := Array.length_toList
          rw [len_eq] at hla hlb hlc
          have r1 : s1.size ≤ 1000000 := by rw [← e1, List.length_map] at hla; omega
          have r2 : 1 ≤ s2.size := by rw [← e2, List.length_map] at hlb; omega
          have r3 : s3.size ≤ 1000000 := by rw [← e3, List.length_map] at hlc; omega
          have hcb : Lib.countB s1 s2 * s2.size ≤ s1.size := Lib.countB_mul_le s2 r2 _ s1 (Nat.le_refl _)
          have hcb1 : Lib.countB s1 s2 ≤ 1000000 := Nat.le_trans (Nat.le_mul_of_pos_right _ r2) (Nat.le_trans hcb r1)
          have hmul : Lib.countB s1 s2 * s3.size ≤ 1000000 * 1000000 := Nat.mul_le_mul hcb1 r3
          refine ⟨.string ⟨(Lib.replace s1.data.toList s2.data.toList s3.data.toList n).toArray⟩, ?_, (hc s1 s2 s3 n m w (by omega) hm r2 (by omega)).mono ?_⟩
          · refine .s _ _ ?_
            rw [u8s_of e1, u8s_of e2, u8s_of e3]
          · rintro e w' ⟨rfl, hb⟩
            exact ⟨rfl, below0 hb⟩
    · cases h
  · cases h
end
end Go.AX
end

section
namespace Go.AX
noncomputable section
/-! ## Calls of which the answer is known but for the names in it -/
variable {P : Program} {ρ ρ' : Ren} {w w' : World} {H H' : Heap}

def hush1 (a : AV) : AV := match a.shut with
  | true => a
  | false => .un
def hushL : List AV → List AV := List.rec [] fun a _ ih => hush1 a :: ih
def hush (a : AV) : AV := match a with
  | .tu l => .tu (hushL l)
  | a => hush1 a

theorem VRel.hush1 {a : AV} {v : Value} (h : VRel ρ a v) : VRel ρ' (hush1 a) v := by
  unfold Go.AX.hush1
  split
  · rename_i hs
    exact h.shut hs
  · exact .un v
theorem VRels.hushL : ∀ {l : List AV} {m : List Value}, VRels ρ l m → VRels ρ' (hushL l) m
  | _, _, .nil => .nil
  | _, _, .cons a v l m h t => .cons _ _ _ _ h.hush1 t.hushL
theorem VRel.hush {a : AV} {v : Value} (h : VRel ρ a v) : VRel ρ' (hush a) v := by
  unfold Go.AX.hush
  split
  · cases h with
    | tu l cs h => exact .tu _ _ h.hushL
  · exact h.hush1

/-- A call whose arguments name no block, carried out once, at the empty heap: known at any heap, but for what its answer names. -/
theorem memo_hush {B : Ren → World → Prop} (hbare : Bare B) {rec : Rec} (hrec : RecOk P B rec) {f : Nat} {args : List AV} {v : AV} {H1 : Heap} (h : rec f args empty = .ret v H1) (ha : AV.shutL args = true) (H : Heap) : CallOk P B f args H (hush v) H := by
  intro ρ w vs hvs hH hB
  obtain ⟨h1, h2⟩ := hrec f args empty v H1 h noName w vs (hvs.shut ha) (hrel_empty P w) (hbare ρ w hB)
  refine ⟨h1, ?_⟩
  intro c cs
  obtain ⟨ρ1, w', v', s1, s2, s3, s4⟩ := h2 c cs
  obtain ⟨q1, q2⟩ := hH.behind s4
  exact ⟨ρ, w', v', s1, s2.hush, q1, q2⟩
end
end Go.AX
end

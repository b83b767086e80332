import PyProof.Rows.All
import Open.Pieces
import Open.Tree
import Open.FastRun
import OpenK.AllK
import Wide.FinOn
import Wide.All
import OpenK.KCall
import OpenK.KMake
import OpenK.KWalk
import PyProof.TupleKey
import PyProof.DictKinds
import PyProof.DictRoadsH
import PyProof.Cells
import PyProof.PlainList
import PyProof.RangeIter
import PyProof.EnumIter
import PyProof.EnumStmt
import PyProof.DictIter
import KE.KxBytes
import PyProof.Rows.RuleB_mod
import PyProof.Rows.RuleB_floordiv
import PyProof.Rows.RuleB_and
import PyProof.Rows.RuleB_or
import PyProof.Rows.RuleB_rshift
import PyProof.Rows.RuleB_small
import KE.KEqSeq
import PyProof.EqKinds
import PyProof.LetGo
import KE.KBytesCut
import PyProof.RangeFor
import PyProof.Conv_int_bool
import PyProof.Methods
import PyProof.MeetsDictList
import PyProof.MeetsSeq
import PyProof.WalkInts
import Wide.BytesRules
import PyProof.MaxThree
import KE.BytesMake
import PyProof.ConsumeWalk
import OpenK.KMore
import PyProof.EvalArms
import PyProof.FactsAll.list_0
import PyProof.FactsAll.dict_0
import PyProof.Rows.TupDisplay
import PyProof.WalksMore
import PyProof.EnumFor
import PyProof.CompFree
import PyProof.CompMap
import PyProof.DictWalks
import PySem.Challenge.RW_xw0366_01
set_option linter.unusedVariables false
set_option linter.unusedSimpArgs false
set_option maxRecDepth 100000
set_option Elab.async false
set_option bootstrap.genMatcherCode false
set_option genSizeOfSpec false
set_option backward.eqns.nonrecursive false
-- H1
namespace MineH
open PySem PySem.W PySem.Calls

/-! the tree of objects, read and written with few steps of the kernel -/
noncomputable def getF (T : BT) : Nat → Option Obj :=
  @BT.rec (fun _ => Nat → Option Obj) (fun _ => none) (fun v _ _ gl gr i => @Nat.rec (fun _ => Option Obj) (some v) (fun j _ => @Nat.rec (fun _ => Option Obj) (gl (Nat.div j (nat_lit 2))) (fun _ _ => gr (Nat.div j (nat_lit 2))) (Nat.mod j (nat_lit 2))) i) T
noncomputable def setF (T : BT) : Nat → (Obj → Obj) → BT :=
  @BT.rec (fun _ => Nat → (Obj → Obj) → BT) (fun _ _ => .nil) (fun v l r sl sr i f => @Nat.rec (fun _ => BT) (.node (f v) l r) (fun j _ => @Nat.rec (fun _ => BT) (.node v (sl (Nat.div j (nat_lit 2)) f) r) (fun _ _ => .node v l (sr (Nat.div j (nat_lit 2)) f)) (Nat.mod j (nat_lit 2))) i) T
noncomputable def insF (T : BT) : Nat → Obj → BT :=
  @BT.rec (fun _ => Nat → Obj → BT) (fun _ o => .node o .nil .nil) (fun v l r il ir i o => @Nat.rec (fun _ => BT) (.node o l r) (fun j _ => @Nat.rec (fun _ => BT) (.node v (il (Nat.div j (nat_lit 2)) o) r) (fun _ _ => .node v l (ir (Nat.div j (nat_lit 2)) o)) (Nat.mod j (nat_lit 2))) i) T
theorem half_cases (j : Nat) : (∃ k, j = 2 * k ∧ (j + 1) % 2 = 1 ∧ (j + 1) / 2 = k ∧ Nat.div j 2 = k ∧ Nat.mod j 2 = 0) ∨ ∃ k, j = 2 * k + 1 ∧ ¬ (j + 1) % 2 = 1 ∧ (j + 1) / 2 - 1 = k ∧ Nat.div j 2 = k ∧ Nat.mod j 2 = 1 := by
  have d : Nat.div j 2 = j / 2 := rfl
  have m : Nat.mod j 2 = j % 2 := rfl
  rw [d, m]
  rcases Nat.mod_two_eq_zero_or_one j with h | h
  · exact .inl ⟨j / 2, by omega, by omega, by omega, rfl, h⟩
  · exact .inr ⟨j / 2, by omega, by omega, by omega, rfl, h⟩
theorem getF_eq : ∀ (T : BT) (i : Nat), getF T i = T.get i
  | .nil, _ => rfl
  | .node v l r, 0 => rfl
  | .node v l r, j + 1 => by
    rw [BT.get_node, if_neg (Nat.succ_ne_zero j)]
    show @Nat.rec (fun _ => Option Obj) (getF l (Nat.div j 2)) (fun _ _ => getF r (Nat.div j 2)) (Nat.mod j 2) = _
    rw [getF_eq l, getF_eq r]
    rcases half_cases j with ⟨k, _, h1, h2, h3, h4⟩ | ⟨k, _, h1, h2, h3, h4⟩
    · rw [if_pos h1, h2, h3, h4]; rfl
    · rw [if_neg h1, h2, h3, h4]; rfl
theorem setF_eq : ∀ (T : BT) (i : Nat) (f : Obj → Obj), setF T i f = T.set i f
  | .nil, _, _ => rfl
  | .node v l r, 0, _ => rfl
  | .node v l r, j + 1, f => by
    rw [BT.set_node, if_neg (Nat.succ_ne_zero j)]
    show @Nat.rec (fun _ => BT) (.node v (setF l (Nat.div j 2) f) r) (fun _ _ => .node v l (setF r (Nat.div j 2) f)) (Nat.mod j 2) = _
    rw [setF_eq l, setF_eq r]
    rcases half_cases j with ⟨k, _, h1, h2, h3, h4⟩ | ⟨k, _, h1, h2, h3, h4⟩
    · rw [if_pos h1, h2, h3, h4]; rfl
    · rw [if_neg h1, h2, h3, h4]; rfl
theorem insF_eq : ∀ (T : BT) (i : Nat) (o : Obj), insF T i o = T.ins i o
  | .nil, _, _ => rfl
  | .node v l r, 0, _ => rfl
  | .node v l r, j + 1, o => by
    rw [BT.ins_node, if_neg (Nat.succ_ne_zero j)]
    show @Nat.rec (fun _ => BT) (.node v (insF l (Nat.div j 2) o) r) (fun _ _ => .node v l (insF r (Nat.div j 2) o)) (Nat.mod j 2) = _
    rw [insF_eq l, insF_eq r]
    rcases half_cases j with ⟨k, _, h1, h2, h3, h4⟩ | ⟨k, _, h1, h2, h3, h4⟩
    · rw [if_pos h1, h2, h3, h4]; rfl
    · rw [if_neg h1, h2, h3, h4]; rfl
/-! the run of the top, with small cases -/
structure Mach where
  den : Code → Sem PySem.Fin
  set : Setting
  okA : Nat → Bool
noncomputable abbrev Ret := Option (BT × Nat × Nat)
noncomputable abbrev Rec := BT → Nat → Nat → Sem PySem.Fin → Code → Pos → List Frame → Ret
noncomputable abbrev Kont := Mach → Rec → BT → Nat → Nat → Code → Pos → List Frame → Ret

noncomputable def aNo : Kont := fun _ _ _ _ _ _ _ _ => none
noncomputable def stackOf (code c : Code) (stack : List Frame) : List Frame := match code, c, stack with
  | .builtin .., .call f a, .ret k h g l cd p kept :: rest => .ret k h g l cd p (kept ++ unmarked (f :: a.refs)) :: rest
  | .call f _, .call .., .ret k h g l cd p kept :: rest => .ret k h g l cd p (kept ++ .ellipsis :: unmarked [f]) :: rest
  | .call f a, .builtin .., .ret k h g l cd p kept :: rest =>
    .ret k h g l cd p (if l.contains borrowed then kept.takeWhile (· != .ellipsis) ++ unmarked a.refs else unmarked (kept ++ f :: a.refs)) :: rest
  | .call .., _, .ret k h g l cd p kept :: rest => .ret k h g l cd p (kept.takeWhile (· != .ellipsis)) :: rest
  | _, _, _ => stack
noncomputable def againOk (c : Code) : Bool := !(Thread.atCollectorCode ⟨.pure (.again c), c, default, []⟩) || Thread.atExit ⟨.pure (.again c), c, default, []⟩
noncomputable def aAgain (c : Code) : Kont := fun m r T n tk code pos stack => @Bool.rec (fun _ => Ret) none (r T n tk (m.den c) c pos (stackOf code c stack)) (againOk c)
noncomputable def popD (f : Flow) (fr : Frame) (rest : List Frame) : Kont := fun m r T n tk code pos stack =>
  @Frame.rec (fun _ => Ret) (fun k _ _ _ c p _ => r T n tk (k (.ok f)) c p rest) (fun _ _ _ _ _ => none) fr
noncomputable def aDone (f : Flow) : Kont := fun m r T n tk code pos stack =>
  @List.rec Frame (fun _ => Ret) (some (T, n, tk)) (fun fr rest _ => popD f fr rest m r T n tk code pos stack) stack
noncomputable def aPure (f : PySem.Fin) : Kont := @PySem.Fin.rec (fun _ => Kont) aDone aAgain f
noncomputable def popR (e : Value) (fr : Frame) (rest : List Frame) : Kont := fun m r T n tk code pos stack =>
  @Frame.rec (fun _ => Ret) (fun k _ _ _ c p _ => r T n tk (k (.error e)) c p rest) (fun _ _ _ _ _ => none) fr
noncomputable def aRaise (e : Value) : Kont := fun m r T n tk code pos stack =>
  @List.rec Frame (fun _ => Ret) none (fun fr rest _ => popR e fr rest m r T n tk code pos stack) stack
noncomputable def aRule (_ : String) (k : Unit → Sem PySem.Fin) : Kont := fun m r T n tk code pos stack => r T n tk (k ()) code pos stack
noncomputable def aAt (p : Pos) (k : Unit → Sem PySem.Fin) : Kont := fun m r T n tk code pos stack => r T n tk (k ()) code p stack
noncomputable def loaded (k : Obj → Sem PySem.Fin) (o : Option Obj) : Kont := fun m r T n tk code pos stack =>
  @Option.rec Obj (fun _ => Ret) none (fun o => r T n tk (k o) code pos stack) o
noncomputable def getA (T : BT) (n a : Nat) : Option Obj := @Bool.rec (fun _ => Option Obj) none (@Option.rec Obj (fun _ => Option Obj) none alive (getF T a)) (Nat.ble (Nat.succ a) n)
noncomputable def aLoad (a : Addr) (_ : Option Value) (k : Obj → Sem PySem.Fin) : Kont := fun m r T n tk code pos stack => loaded k (getA T n a) m r T n tk code pos stack
noncomputable def aUpdate (a : Addr) (_ : Option Value) (f : Obj → Obj) (k : Unit → Sem PySem.Fin) : Kont := fun m r T n tk code pos stack =>
  @Bool.rec (fun _ => Ret) none (@Option.rec Obj (fun _ => Ret) none (fun _ => r (setF T a f) n tk (k ()) code pos stack) (getA T n a)) (m.okA a)
noncomputable def aAlloc (o : Obj) (k : Addr → Sem PySem.Fin) : Kont := fun m r T n tk code pos stack =>
  @Option.rec Obj (fun _ => Ret) none (fun _ => r (insF T n o) (Nat.succ n) tk (k n) code pos stack) (getF (insF T n o) n)
noncomputable def aIfAlive (a : Addr) (k : Option Obj → Sem PySem.Fin) : Kont := fun m r T n tk code pos stack =>
  @Bool.rec (fun _ => Ret) (r T n tk (k none) code pos stack) (@Option.rec Obj (fun _ => Ret) none (fun o => r T n tk (k (alive o)) code pos stack) (getF T a)) (Nat.ble (Nat.succ a) n)
noncomputable def aPoint (_ : List Value) (k : Unit → Sem PySem.Fin) : Kont := fun m r T n tk code pos stack => r T n tk (k ()) code pos stack
noncomputable def aFresh (k : Tok → Sem PySem.Fin) : Kont := fun m r T n tk code pos stack =>
  @Nat.rec (fun _ => Ret) (r T n 1 (k 0) code pos stack) (fun j _ => r T n (Nat.succ (Nat.succ j)) (k (Nat.succ j)) code pos stack) tk
noncomputable def aAsk (k : Setting → Sem PySem.Fin) : Kont := fun m r T n tk code pos stack => r T n tk (k m.set) code pos stack
noncomputable def keptFor (c code : Code) (l : List Value) : List Value := match c, code with
  | .builtin _ a, _ => unmarked a.refs
  | .call f a, .builtin .. | .call f a, .call .. => unmarked (if l.contains borrowed then a.refs else f :: a.refs)
  | _, _ => []
noncomputable def aCall (c : Code) (h : Option Value) (g : Bool) (l : List Value) (k : Result → Sem PySem.Fin) : Kont := fun m r T n tk code pos stack =>
  r T n tk (m.den c) c pos (.ret k h g l code pos (keptFor c code l) :: stack)
noncomputable def framesOf (own : Bool) (stack : List Frame) : List Frame := if own then (match splitAtGen stack with | some (fs, _, _) => fs | none => stack) else stack
noncomputable def aHandled (own : Bool) (k : Option Value → Sem PySem.Fin) : Kont := fun m r T n tk code pos stack => r T n tk (k (topHandled (framesOf own stack))) code pos stack
noncomputable def aStack (k : List (Code × Pos) → Sem PySem.Fin) : Kont := fun m r T n tk code pos stack => r T n tk (k ((code, pos) :: stack.map Frame.where_)) code pos stack
noncomputable def aThread (k : Nat → Sem PySem.Fin) : Kont := fun m r T n tk code pos stack => r T n tk (k 0) code pos stack

noncomputable def oneStep (cur : Sem PySem.Fin) : Kont := @Sem.casesOn PySem.Fin (fun _ => Kont) cur aPure aRaise (fun _ => aNo) (fun _ => aNo) aRule aAt aLoad aUpdate aAlloc aIfAlive aPoint (fun _ _ => aNo) aFresh aAsk
  (fun _ _ _ => aNo) (fun _ _ _ => aNo) aCall aHandled (fun _ _ => aNo) (fun _ _ => aNo) (fun _ _ _ _ => aNo) (fun _ _ _ _ => aNo) aStack (fun _ _ => aNo) aThread (fun _ _ _ _ _ => aNo)
noncomputable def loop (m : Mach) (fuel : Nat) : Rec := @Nat.rec (fun _ => Rec) (fun _ _ _ _ _ _ _ => none) (fun _ r T n tk cur code pos stack => oneStep cur m r T n tk code pos stack) fuel

section
variable {p : Program} {w : World} {tb : String → Option Builtin} {n₀ : Nat} {ann : Option Value} {life : Life} {gens : Array GenState} {drawn : Drawn} {os : OsState}
noncomputable def okOf (n₀ : Nat) (ann : Option Value) (a : Nat) : Bool := Nat.ble n₀ a || a == mainNs || a == cStatics || ann == some (.ref a)
noncomputable def machOf (den : Code → Sem PySem.Fin) (p : Program) (w : World) (n₀ : Nat) (ann : Option Value) : Mach := ⟨den, ⟨p, w.params⟩, okOf n₀ ann⟩
noncomputable abbrev shOf (life : Life) (gens : Array GenState) (drawn : Drawn) (os : OsState) (T : BT) (n tk : Nat) : Shared := ⟨absHeap T n life, gens, drawn, tk, os⟩

theorem getA_some {T : BT} {n a : Nat} {o : Obj} (h : getA T n a = some o) : (absHeap T n life).get? a = some o ∧ ∃ o', T.get a = some o' := by
  unfold getA at h
  rw [getF_eq] at h
  cases e : Nat.ble (Nat.succ a) n with
  | false => rw [e] at h; cases h
  | true =>
    rw [e] at h
    cases g : T.get a with
    | none => rw [g] at h; cases h
    | some o' =>
      rw [g] at h
      exact ⟨(abs_get (Nat.le_of_ble_eq_true e) g).trans h, o', rfl⟩

theorem through_nil {cur : Sem PySem.Fin} {code : Code} {pos : Pos} {stack : List Frame} (h : ∀ f, cur ≠ .pure (.done f)) : through ⟨cur, code, pos, stack⟩ = false := by
  unfold through
  cases stack with
  | cons => rfl
  | nil =>
    cases cur with
    | pure f =>
      cases f with
      | done f => exact absurd rfl (h f)
      | again => rfl
    | _ => rfl
theorem through_cons {cur : Sem PySem.Fin} {code : Code} {pos : Pos} {fr : Frame} {stack : List Frame} : through ⟨cur, code, pos, fr :: stack⟩ = false := rfl

theorem topRun_step {N : Nat} {s s' r : Shared} {t t' : Thread} (h1 : through t = false) (h2 : stepOk n₀ ann t = true) (h3 : step (denote tb) p w s t = .go s' t') (h4 : topRun tb p w n₀ ann N s' t' = some r) :
    topRun tb p w n₀ ann (N + 1) s t = some r := by
  unfold topRun
  rw [h1, h2, h3]; exact h4

theorem loop_spec : ∀ (N : Nat) (T : BT) (n tk : Nat) (cur : Sem PySem.Fin) (code : Code) (pos : Pos) (stack : List Frame) (T' : BT) (n' tk' : Nat),
    loop (machOf (denote tb) p w n₀ ann) N T n tk cur code pos stack = some (T', n', tk') →
    topRun tb p w n₀ ann N (shOf life gens drawn os T n tk) ⟨cur, code, pos, stack⟩ = some (shOf life gens drawn os T' n' tk')
  | 0, _, _, _, _, _, _, _, _, _, _, h => by cases h
  | N + 1, T, n, tk, cur, code, pos, stack, T', n', tk', h => by
    have ih := loop_spec N
    have h : oneStep cur (machOf (denote tb) p w n₀ ann) (loop (machOf (denote tb) p w n₀ ann) N) T n tk code pos stack = some (T', n', tk') := h
    cases cur with
    | pure f =>
      cases f with
      | done f =>
        cases stack with
        | nil => cases h; rfl
        | cons fr rest =>
          cases fr with
          | ret k hd g l c q kept => exact topRun_step rfl rfl rfl (ih _ _ _ _ _ _ _ _ _ _ h)
          | gen => cases h
      | again c =>
        have h : @Bool.rec (fun _ => Ret) none (loop (machOf (denote tb) p w n₀ ann) N T n tk (denote tb c) c pos (stackOf code c stack)) (againOk c) = some (T', n', tk') := h
        cases e : againOk c with
        | false => rw [e] at h; cases h
        | true =>
          rw [e] at h
          refine topRun_step (through_nil fun f => by intro q; cases q) ?_ rfl (ih _ _ _ _ _ _ _ _ _ _ h)
          show ((((!Thread.atCollectorCode ⟨.pure (.again c), code, pos, stack⟩) || Thread.atExit ⟨.pure (.again c), code, pos, stack⟩) && !false) && true && true) = true
          have e' : ((!Thread.atCollectorCode ⟨.pure (.again c), code, pos, stack⟩) || Thread.atExit ⟨.pure (.again c), code, pos, stack⟩) = true := e
          rw [e']; rfl
    | raise e =>
      cases stack with
      | nil => cases h
      | cons fr rest =>
        cases fr with
        | ret k hd g l c q kept => exact topRun_step rfl rfl rfl (ih _ _ _ _ _ _ _ _ _ _ h)
        | gen => cases h
    | rule t k => exact topRun_step (through_nil fun f => by intro q; cases q) rfl rfl (ih _ _ _ _ _ _ _ _ _ _ h)
    | «at» q k => exact topRun_step (through_nil fun f => by intro q; cases q) rfl rfl (ih _ _ _ _ _ _ _ _ _ _ h)
    | point l k => exact topRun_step (through_nil fun f => by intro q; cases q) rfl rfl (ih _ _ _ _ _ _ _ _ _ _ h)
    | ask k => exact topRun_step (through_nil fun f => by intro q; cases q) rfl rfl (ih _ _ _ _ _ _ _ _ _ _ h)
    | call c hd g l k => exact topRun_step (through_nil fun f => by intro q; cases q) rfl rfl (ih _ _ _ _ _ _ _ _ _ _ h)
    | handled own k => exact topRun_step (through_nil fun f => by intro q; cases q) rfl rfl (ih _ _ _ _ _ _ _ _ _ _ h)
    | stack k => exact topRun_step (through_nil fun f => by intro q; cases q) rfl rfl (ih _ _ _ _ _ _ _ _ _ _ h)
    | thread k => exact topRun_step (through_nil fun f => by intro q; cases q) rfl rfl (ih _ _ _ _ _ _ _ _ _ _ h)
    | fresh k =>
      cases tk with
      | zero => exact topRun_step (through_nil fun f => by intro q; cases q) rfl rfl (ih _ _ _ _ _ _ _ _ _ _ h)
      | succ j => exact topRun_step (through_nil fun f => by intro q; cases q) rfl rfl (ih _ _ _ _ _ _ _ _ _ _ h)
    | load a q k =>
      have h : loaded k (getA T n a) (machOf (denote tb) p w n₀ ann) (loop (machOf (denote tb) p w n₀ ann) N) T n tk code pos stack = some (T', n', tk') := h
      cases e : getA T n a with
      | none => rw [e] at h; cases h
      | some o =>
        rw [e] at h
        refine topRun_step (through_nil fun f => by intro q; cases q) rfl ?_ (ih _ _ _ _ _ _ _ _ _ _ h)
        simp only [step, shOf, (getA_some (life := life) e).1]
    | update a q f k =>
      have h : @Bool.rec (fun _ => Ret) none (@Option.rec Obj (fun _ => Ret) none (fun _ => loop (machOf (denote tb) p w n₀ ann) N (setF T a f) n tk (k ()) code pos stack) (getA T n a)) (okOf n₀ ann a) = some (T', n', tk') := h
      rw [setF_eq] at h
      cases e0 : okOf n₀ ann a with
      | false => rw [e0] at h; cases h
      | true =>
        rw [e0] at h
        cases e : getA T n a with
        | none => rw [e] at h; cases h
        | some o =>
          rw [e] at h
          obtain ⟨g1, o', g2⟩ := getA_some (life := life) e
          refine topRun_step (through_nil fun f => by intro q; cases q) ?_ ?_ (ih _ _ _ _ _ _ _ _ _ _ h)
          · show (true && okOf n₀ ann a) = true
            rw [e0]; rfl
          · simp only [step, shOf, g1, Option.isSome_some, if_true, absHeap_set g2]
    | alloc o k =>
      have h : @Option.rec Obj (fun _ => Ret) none (fun _ => loop (machOf (denote tb) p w n₀ ann) N (insF T n o) (Nat.succ n) tk (k n) code pos stack) (getF (insF T n o) n) = some (T', n', tk') := h
      rw [getF_eq, insF_eq] at h
      cases e : (T.ins n o).get n with
      | none => rw [e] at h; cases h
      | some o' =>
        rw [e] at h
        refine topRun_step (through_nil fun f => by intro q; cases q) rfl ?_ (ih _ _ _ _ _ _ _ _ _ _ h)
        simp only [step, shOf, absHeap_size]
        rw [absHeap_ins (by rw [e]; rfl)]
    | loadIfAlive a k =>
      have h : @Bool.rec (fun _ => Ret) (loop (machOf (denote tb) p w n₀ ann) N T n tk (k none) code pos stack) (@Option.rec Obj (fun _ => Ret) none (fun o => loop (machOf (denote tb) p w n₀ ann) N T n tk (k (alive o)) code pos stack) (getF T a)) (Nat.ble (Nat.succ a) n) = some (T', n', tk') := h
      rw [getF_eq] at h
      cases e : Nat.ble (Nat.succ a) n with
      | false =>
        rw [e] at h
        have lt : ¬ a < n := fun q => by rw [show Nat.ble (Nat.succ a) n = true from Nat.ble_eq_true_of_le q] at e; cases e
        refine topRun_step (through_nil fun f => by intro q; cases q) rfl ?_ (ih _ _ _ _ _ _ _ _ _ _ h)
        simp only [step, shOf, abs_get_none lt]
      | true =>
        rw [e] at h
        cases g : T.get a with
        | none => rw [g] at h; cases h
        | some o =>
          rw [g] at h
          refine topRun_step (through_nil fun f => by intro q; cases q) rfl ?_ (ih _ _ _ _ _ _ _ _ _ _ h)
          simp only [step, shOf, abs_get (Nat.le_of_ble_eq_true e) g]
    | unsupported _ => cases h
    | finish _ => cases h
    | register _ _ => cases h
    | choose _ _ _ => cases h
    | os _ _ _ => cases h
    | newGen _ _ => cases h
    | genState _ _ => cases h
    | resume _ _ _ _ => cases h
    | yield _ _ _ _ => cases h
    | fork _ _ => cases h
    | await _ _ _ _ _ => cases h
end
end MineH
-- H2
namespace MineH
open PySem PySem.W PySem.Calls
noncomputable def bootT (P : Params) : BT := ((((((((((BT.nil.ins 0 (boot_o_0 P)).ins 1 (boot_o_1 P)).ins 2 (boot_o_2 P)).ins 3 (boot_o_3 P)).ins 4 (boot_o_4 P)).ins 5 (boot_o_5 P)).ins 6 (boot_o_6 P)).ins 7 (boot_o_7 P)).ins 8 (boot_o_8 P)).ins 9 (boot_o_9 P)).ins 10 (boot_o_10 P)
noncomputable abbrev life0 : Life := {}
theorem bootT_abs (P : Params) : absHeap (bootT P) 11 life0 = boot_heap P := by kernel_rfl
noncomputable abbrev pw : Program := Challenge.pw_xw0366_01
noncomputable abbrev annB : Option Value := some (.ref 6)
noncomputable abbrev denQ : Code → Sem PySem.Fin := PySem.W.Fast.tw11892475500146522536 PySem.W.Fast.tw14364793385576792824
theorem denQ_eq : denote treeTable = denQ := by
  show _ = PySem.W.Fast.tw11892475500146522536 PySem.W.Fast.tw14364793385576792824
  rw [← PySem.W.Fast.te11892475500146522536, ← PySem.W.Fast.te14364793385576792824]
theorem boot_size (P : Params) : ((boot_heap P).isNs mainGlobals && (#[] : Array GenState).size == 0, (boot_heap P).objs.size, (boot_heap P).nsMap mainGlobals "__annotations__") = (true, 11, annB) := by kernel_rfl
theorem open_pw : ∀ w : World, (fencedOpening treeTable pw w 20000).map (fun s => (s.heap, s.gens, s.drawn, s.toks)) = some (boot_heap w.params, Array.mk [], boot_drawn, boot_toks) :=
  boot_open (by kernel_rfl) (by decide) (fun s => by kernel_rfl)
noncomputable def endAll (w : World) : Ret := loop (machOf denQ pw w 11 annB) 13600 (bootT w.params) 11 181 (topStub pw).cur (topStub pw).code (topStub pw).pos (topStub pw).stack
end MineH
-- H5
namespace MineH
open PySem PySem.W PySem.Calls
noncomputable def memF (k : Str) (l : List Str) : Bool := @List.rec Str (fun _ => Bool) false (fun x _ ih => @Bool.rec (fun _ => Bool) ih true (Fast.sEq x k)) l
theorem memF_of {k : Str} : ∀ {l : List Str}, memF k l = true → k ∈ l
  | [], h => by cases h
  | x :: l, h => by
    have h : @Bool.rec (fun _ => Bool) (memF k l) true (Fast.sEq x k) = true := h
    cases e : Fast.sEq x k with
    | true => exact (Fast.sEq_iff.mp e) ▸ .head _
    | false => rw [e] at h; exact .tail _ (memF_of h)
noncomputable def allMem (l m ks : List Str) : Bool := @List.rec Str (fun _ => Bool) true (fun k _ ih => @Bool.rec (fun _ => Bool) (@Bool.rec (fun _ => Bool) false ih (memF k m)) ih (memF k l)) ks
theorem allMem_of {l m : List Str} : ∀ {ks : List Str}, allMem l m ks = true → ∀ k ∈ ks, k ∈ l ∨ k ∈ m
  | [], _, _, h => by cases h
  | x :: ks, h, k, hk => by
    have h : @Bool.rec (fun _ => Bool) (@Bool.rec (fun _ => Bool) false (allMem l m ks) (memF x m)) (allMem l m ks) (memF x l) = true := h
    cases e : memF x l with
    | true =>
      rw [e] at h
      rcases List.mem_cons.mp hk with rfl | hk
      · exact .inl (memF_of e)
      · exact allMem_of h k hk
    | false =>
      rw [e] at h
      cases e' : memF x m with
      | false => rw [e'] at h; cases h
      | true =>
        rw [e'] at h
        rcases List.mem_cons.mp hk with rfl | hk
        · exact .inr (memF_of e')
        · exact allMem_of h k hk
noncomputable def namesF (p : Program) (h : Heap) : Bool := h.isNs mainGlobals && allMem p.boundNames startupNames (h.nsKeys mainGlobals)
theorem namesF_of {p : Program} {h : Heap} (x : namesF p h = true) : namesBound p h = true := by
  obtain ⟨a, b⟩ := Bool.and_eq_true_iff.mp x
  refine Bool.and_eq_true_iff.mpr ⟨a, List.all_eq_true.mpr fun k hk => ?_⟩
  rw [Bool.or_eq_true, List.contains_iff_mem, List.contains_iff_mem]
  exact (allMem_of b k hk).symm
noncomputable def looksOf {α : Type} (p q : Program) (loose : List Str) (Xt : Shared → Bool) (Yf : Shared → α) (g0 : Bool) (H₀ : Heap) (s : Shared) :=
  ((staticsOk (importedModules p.main.body) H₀ s.heap && namesF p s.heap && gensDone s && laidKept H₀ s.heap), PySem.W.Fast.tw4187177175401517315 q loose (importedModules p.main.body) Xt g0 s, Yf s)
theorem left_gen {p q : Program} {loose : List Str} {Xt : Shared → Bool} {α : Type} {Yf : Shared → α} {Ya : World → α} {g0 : Bool} {N M m₀ k₀ : Nat} {ann : Option Value} {T₀ : Params → BT} {H₀ : Params → Heap} {d₀ : Drawn} {life : Life} {den : Code → Sem PySem.Fin}
    (hden : denote treeTable = den) (open_ : ∀ w : World, (fencedOpening treeTable p w N).map (fun s => (s.heap, s.gens, s.drawn, s.toks)) = some (H₀ w.params, Array.mk [], d₀, k₀))
    (size : ∀ P : Params, ((H₀ P).isNs mainGlobals && (Array.mk [] : Array GenState).size == 0, (H₀ P).objs.size, (H₀ P).nsMap mainGlobals "__annotations__") = (true, m₀, ann))
    (abs : ∀ P, absHeap (T₀ P) m₀ life = H₀ P) (le : Nat.ble M N = true)
    (shot : ∀ (w : World) (os : OsState), (loop (machOf den p w m₀ ann) M (T₀ w.params) m₀ k₀ (topStub p).cur (topStub p).code (topStub p).pos (topStub p).stack).map (fun r =>
      looksOf p q loose Xt Yf g0 (H₀ w.params) (shOf life (Array.mk []) d₀ os r.1 r.2.1 r.2.2)) = some (true, openGood q loose, Ya w)) :
    LeftO p q loose Xt Yf Ya N g0 := fun w => by
  subst hden
  obtain ⟨⟨h, gs, d, k, os⟩, e, e'⟩ := Option.map_eq_some_iff.mp (open_ w)
  obtain ⟨rfl, rfl, rfl, rfl⟩ : h = H₀ w.params ∧ gs = Array.mk [] ∧ d = d₀ ∧ k = k₀ := by simpa using e'
  have sz := size w.params
  obtain ⟨z1, z2, z3⟩ : _ ∧ _ ∧ _ := ⟨congrArg (·.1) sz, congrArg (·.2.1) sz, congrArg (·.2.2) sz⟩
  obtain ⟨⟨T', n', tk'⟩, hr, hl⟩ := Option.map_eq_some_iff.mp (shot w os)
  have l1 := congrArg (·.1) hl
  have l2 := congrArg (·.2.1) hl
  have l3 := congrArg (·.2.2) hl
  have r : topRun treeTable p w m₀ ann M ⟨H₀ w.params, Array.mk [], d, k, os⟩ (topStub p) = some (shOf life (Array.mk []) d os T' n' tk') := by
    have := loop_spec (life := life) (gens := Array.mk []) (drawn := d) (os := os) _ _ _ _ _ _ _ _ _ _ _ hr
    unfold shOf at this
    rw [abs] at this
    exact this
  have r := topRun_mono (N - M) _ _ _ _ r
  rw [show M + (N - M) = N by have := Nat.le_of_ble_eq_true le; omega] at r
  have t : topFrom treeTable p w N ⟨H₀ w.params, Array.mk [], d, k, os⟩ = some (shOf life (Array.mk []) d os T' n' tk') := by
    unfold topFrom
    dsimp only at z1 z2 z3 ⊢
    rw [z1, z2, z3, r]
    show (match staticsOk (importedModules p.main.body) (H₀ w.params) _ && namesBound p _ && gensDone _ && laidKept (H₀ w.params) _ with | true => _ | false => _) = _
    rw [show (staticsOk (importedModules p.main.body) (H₀ w.params) (shOf life (Array.mk []) d os T' n' tk').heap && namesBound p (shOf life (Array.mk []) d os T' n' tk').heap && gensDone (shOf life (Array.mk []) d os T' n' tk') && laidKept (H₀ w.params) (shOf life (Array.mk []) d os T' n' tk').heap) = true from by
      obtain ⟨q, q4⟩ := Bool.and_eq_true_iff.mp l1
      obtain ⟨q, q3⟩ := Bool.and_eq_true_iff.mp q
      obtain ⟨q1, q2⟩ := Bool.and_eq_true_iff.mp q
      exact Bool.and_eq_true_iff.mpr ⟨Bool.and_eq_true_iff.mpr ⟨Bool.and_eq_true_iff.mpr ⟨q1, namesF_of q2⟩, q3⟩, q4⟩]
  unfold openEnds
  rw [e]
  show (topFrom treeTable p w N _).map _ = _
  rw [t]
  have l2' : openSeen q loose (importedModules p.main.body) Xt g0 (shOf life (Array.mk []) d os T' n' tk') = openGood q loose := by
    rw [PySem.W.Fast.te4187177175401517315]; exact l2
  exact congrArg some (Prod.ext l2' l3)
end MineH
noncomputable section
noncomputable section
namespace Mine
open PySem

/-! abstract ints: c + r * ring + s * seed + m * many; that modulo ring; a number congruent to that -/
inductive SI where
  | lit (n : Int)
  | lin (c r s m : Int)
  | md (c s m : Int)
  | pend (c s m : Int)
  deriving Inhabited
structure L4 where
  c : Int
  r : Int
  s : Int
  m : Int
  deriving Inhabited

noncomputable def eqB (a b : Int) : Bool := match a, b with
  | .ofNat m, .ofNat n => Nat.beq m n
  | .ofNat _, .negSucc _ => false
  | .negSucc _, .ofNat _ => false
  | .negSucc m, .negSucc n => Nat.beq m n
noncomputable def ltB (a b : Int) : Bool := match a, b with
  | .ofNat m, .ofNat n => Nat.blt m n
  | .ofNat _, .negSucc _ => false
  | .negSucc _, .ofNat _ => true
  | .negSucc m, .negSucc n => Nat.blt n m
noncomputable def leB (a b : Int) : Bool := (ltB b a).not
noncomputable def sameB : Bool → Bool → Bool
  | true, b => b
  | false, b => b.not
noncomputable def notO : Option Bool → Option Bool
  | some b => some b.not
  | none => none

/-- what is known of many: its least and its greatest value -/
structure Tab where
  lo : Int
  hi : Int
noncomputable def mkLin (c r s m : Int) : SI := match (eqB r 0).and ((eqB s 0).and (eqB m 0)) with
  | true => .lit c
  | false => .lin c r s m
noncomputable def toL : SI → Option L4
  | .lit n => some ⟨n, 0, 0, 0⟩
  | .lin c r s m => some ⟨c, r, s, m⟩
  | _ => none
noncomputable def toP : SI → L4
  | .lit n => ⟨n, 0, 0, 0⟩
  | .lin c r s m => ⟨c, r, s, m⟩
  | .md c s m => ⟨c, 0, s, m⟩
  | .pend c s m => ⟨c, 0, s, m⟩
noncomputable def addS (a b : SI) : SI := match a, b with
  | .lit x, .lit y => .lit (x + y)
  | a, b => match toL a, toL b with
    | some x, some y => mkLin (x.c + y.c) (x.r + y.r) (x.s + y.s) (x.m + y.m)
    | _, _ => .pend ((toP a).c + (toP b).c) ((toP a).s + (toP b).s) ((toP a).m + (toP b).m)
noncomputable def subS (a b : SI) : SI := match a, b with
  | .lit x, .lit y => .lit (x - y)
  | a, b => match toL a, toL b with
    | some x, some y => mkLin (x.c - y.c) (x.r - y.r) (x.s - y.s) (x.m - y.m)
    | _, _ => .pend ((toP a).c - (toP b).c) ((toP a).s - (toP b).s) ((toP a).m - (toP b).m)
/-- the least and the greatest value of k * x for x from lo to hi -/
noncomputable def mulLo (k lo hi : Int) : Int := match ltB k 0 with
  | true => k * hi
  | false => k * lo
noncomputable def mulHi (k lo hi : Int) : Int := match ltB k 0 with
  | true => k * lo
  | false => k * hi
noncomputable def loOf (T : Tab) (x : L4) : Int := x.c + mulLo x.r 256 4294967296 + mulLo x.m T.lo T.hi
noncomputable def hiOf (T : Tab) (x : L4) : Int := x.c + mulHi x.r 256 4294967296 + mulHi x.m T.lo T.hi
noncomputable def less (T : Tab) (a b : L4) : Option Bool := match eqB a.s b.s with
  | true => match ltB 0 (loOf T ⟨b.c - a.c, b.r - a.r, 0, b.m - a.m⟩) with
    | true => some true
    | false => match leB (hiOf T ⟨b.c - a.c, b.r - a.r, 0, b.m - a.m⟩) 0 with
      | true => some false
      | false => none
  | false => none
noncomputable def ltS (T : Tab) : SI → SI → Option Bool
  | .lit a, .lit b => some (ltB a b)
  | a, b => match toL a, toL b with
    | some x, some y => less T x y
    | _, _ => none
noncomputable def eqS (T : Tab) : SI → SI → Option Bool
  | .lit a, .lit b => some (eqB a b)
  | .md c s m, .md c' s' m' => match (eqB s s').and (eqB m m') with
    | true => match eqB c c' with
      | true => some true
      | false => match (ltB (-256) (c - c')).and (ltB (c - c') 256) with
        | true => some false
        | false => none
    | false => match eqB s s' with
      | true => match ((ltB 0 (loOf T ⟨c - c', 0, 0, m - m'⟩)).and (ltB (hiOf T ⟨c - c', 0, 0, m - m'⟩) 256)).or ((ltB (-256) (loOf T ⟨c - c', 0, 0, m - m'⟩)).and (ltB (hiOf T ⟨c - c', 0, 0, m - m'⟩) 0)) with
        | true => some false
        | false => none
      | false => none
  | a, b => match toL a, toL b with
    | some x, some y => match less T x y, less T y x with
      | some false, some false => some true
      | some true, _ => some false
      | _, some true => some false
      | _, _ => none
    | _, _ => none
noncomputable def reduce (T : Tab) (x : L4) : SI := match eqB x.s 0 with
  | true => match (leB 0 (loOf T ⟨x.c, 0, 0, x.m⟩)).and (ltB (hiOf T ⟨x.c, 0, 0, x.m⟩) 256) with
    | true => mkLin x.c 0 0 x.m
    | false => match (leB (-256) (loOf T ⟨x.c, 0, 0, x.m⟩)).and (ltB (hiOf T ⟨x.c, 0, 0, x.m⟩) 0) with
      | true => .lin x.c 1 0 x.m
      | false => .md x.c 0 x.m
  | false => .md x.c x.s x.m
noncomputable def isRing : SI → Bool
  | .lin c r s m => (eqB c 0).and ((eqB r 1).and ((eqB s 0).and (eqB m 0)))
  | _ => false
noncomputable def modS (T : Tab) (a b : SI) : Option SI := match a, b with
  | .lit x, .lit y => match eqB y 0 with
    | true => none
    | false => some (.lit (Int.fmod x y))
  | a, b => match isRing b with
    | true => some (reduce T (toP a))
    | false => none
noncomputable def divS (a b : SI) : Option SI := match a, b with
  | .lit x, .lit y => match (ltB 0 y).and (ltB y 1073741824) with
    | true => some (.lit (Int.fdiv x y))
    | false => none
  | _, _ => none
noncomputable def big : Int := 1152921504606846976
noncomputable def smallS (T : Tab) (a : SI) : Bool := match toL a with
  | some x => (eqB x.s 0).and ((ltB (-big) (loOf T x)).and (ltB (hiOf T x) big))
  | none => false
noncomputable def mulS (T : Tab) (a b : SI) : Option SI := match (smallS T a).and (smallS T b) with
  | true => match a, b with
    | .lit x, .lit y => some (.lit (x * y))
    | .lit k, .lin c r s m => some (mkLin (k * c) (k * r) (k * s) (k * m))
    | _, _ => none
  | false => none

/-! one thing behind the other; one or the other -/
noncomputable def bindO {α β : Type} (o : Option α) (f : α → Option β) : Option β := Option.rec none f o
noncomputable def whenO {α : Type} (b : Bool) (o : Option α) : Option α := Bool.rec none o b
noncomputable def orO {α : Type} (a b : Option α) : Option α := Option.rec b (fun x => some x) a
noncomputable def strIs (a b : String) : Bool := decide (a = b)
noncomputable def nil? {α : Type} : List α → Option Unit
  | [] => some ()
  | _ :: _ => none
noncomputable def one? {α : Type} : List α → Option α
  | [] => none
  | a :: r => match r with
    | [] => some a
    | _ :: _ => none
noncomputable def two? {α : Type} : List α → Option (α × α)
  | [] => none
  | a :: r => bindO (one? r) fun b => some (a, b)
noncomputable def three? {α : Type} : List α → Option (α × α × α)
  | [] => none
  | a :: r => bindO (two? r) fun b => some (a, b)
noncomputable def isNo {α : Type} : Option α → Option Unit
  | none => some ()
  | some _ => none
noncomputable def sLit : SI → Option Int
  | .lit n => some n
  | _ => none
noncomputable def iNat : Int → Option Nat
  | .ofNat n => some n
  | .negSucc _ => none
/-! texts, lists -/
noncomputable def listEq {α : Type} (f : α → α → Bool) (a b : List α) : Bool := List.rec (fun r => List.rec true (fun _ _ _ => false) r) (fun x _ ih r => List.rec false (fun y q _ => Bool.rec false (ih q) (f x y)) r) a b
noncomputable def natsEq (a b : List Nat) : Bool := listEq Nat.beq a b
noncomputable def seq (a b : Str) : Bool := natsEq a.cps.toList b.cps.toList
noncomputable def lk {α : Type} (l : List (Str × α)) (x : Str) : Option α := List.rec none (fun p _ ih => Bool.rec ih (some p.2) (seq x p.1)) l
noncomputable def putL {α : Type} : List (Str × α) → Str → α → List (Str × α)
  | [], x, v => [(x, v)]
  | p :: r, x, v => match seq x p.1 with
    | true => (p.1, v) :: r
    | false => p :: putL r x v
noncomputable def tailL {α : Type} (l : List α) : List α := List.rec [] (fun _ t _ => t) l
noncomputable def dropR {α : Type} (l : List α) (n : Nat) : List α := Nat.rec l (fun _ r => tailL r) n
noncomputable def at? {α : Type} (l : List α) (n : Nat) : Option α := List.rec none (fun a _ _ => some a) (dropR l n)
noncomputable def set? {α : Type} (l : List α) (n : Nat) (x : α) : List α := List.rec (fun _ => []) (fun a l ih n => Nat.rec (x :: l) (fun m _ => a :: ih m) n) l n
noncomputable def nlk {α : Type} (l : List (Nat × α)) (x : Nat) : Option α := List.rec none (fun p _ ih => Bool.rec ih (some p.2) (Nat.beq p.1 x)) l
/-! abstract values and objects -/
inductive AV where
  | none
  | bool (b : Bool)
  | int (e : SI)
  | str (s : Str)
  | bytes (n : SI)
  | glob (a : Nat)
  | own (i : Nat)
  | blt (id : String)
  | typ (n : String)
  | bnd (lo hi : Option Int) (n : Int)
  deriving Inhabited
inductive AO where
  | inst (c d : Nat)
  | fields (kv : List (Str × AV))
  | list (xs : List AV)
  | tup (xs : List AV)
  | idict (kv : List (Int × AV))
  | pdict (kv : List (List (List Int) × Nat × AV))
  | sdict (kv : List (List Str × Nat × AV))
  | barr
  | rng (n : Nat)
  | src (tp : List (Nat × Nat))
  | flist (xs : List AV) (vs : List Value) (n : Nat)
  deriving Inhabited
noncomputable abbrev AS := List AO
noncomputable abbrev Loc := List (Str × AV)
structure Fn where
  ps : List Str
  ds : List AV
  body : List Stmt
  names : List (Str × NameKind)
  deriving Inhabited
structure Cls where
  init : Nat
  meths : List (Str × Nat)
  props : List (Str × Nat)
  flds : List Str
  deriving Inhabited
structure Tabs where
  fn : List (Nat × Fn)
  cls : List (Nat × Cls)
  glob : List (Str × AV)
  take : Option Nat

inductive Fl where
  | next | brk | cont
  | ret (v : AV)
  deriving Inhabited

noncomputable def appL (l r : AS) : AS := List.rec r (fun a _ ih => a :: ih) l
noncomputable def lenL (l : AS) : Nat := List.rec 0 (fun _ _ ih => Nat.succ ih) l
noncomputable def alloc (σ : AS) (o : AO) : AV × AS := (.own (lenL σ), appL σ [o])

/-! views of values and of objects -/
noncomputable def vNone : AV → Option Unit
  | .none => some ()
  | _ => none
noncomputable def isNone : AV → Bool
  | .none => true
  | _ => false
noncomputable def vBool : AV → Option Bool
  | .bool b => some b
  | _ => none
noncomputable def vInt : AV → Option SI
  | .int e => some e
  | _ => none
noncomputable def vStr : AV → Option Str
  | .str s => some s
  | _ => none
noncomputable def vBytes : AV → Option SI
  | .bytes n => some n
  | _ => none
noncomputable def vOwn : AV → Option Nat
  | .own i => some i
  | _ => none
noncomputable def vBlt : AV → Option String
  | .blt i => some i
  | _ => none
noncomputable def vTyp : AV → Option String
  | .typ i => some i
  | _ => none
noncomputable def vBnd : AV → Option (Option Int × Option Int × Int)
  | .bnd lo hi n => some (lo, hi, n)
  | _ => none
noncomputable def vLit (a : AV) : Option Int := bindO (vInt a) sLit
noncomputable def vNat (a : AV) : Option Nat := bindO (vLit a) iNat
noncomputable def aList : AO → Option (List AV)
  | .list xs => some xs
  | _ => none
noncomputable def aTup : AO → Option (List AV)
  | .tup xs => some xs
  | _ => none
noncomputable def aIdict : AO → Option (List (Int × AV))
  | .idict kv => some kv
  | _ => none
noncomputable def aPdict : AO → Option (List (List (List Int) × Nat × AV))
  | .pdict kv => some kv
  | _ => none
noncomputable def aSdict : AO → Option (List (List Str × Nat × AV))
  | .sdict kv => some kv
  | _ => none
noncomputable def aBarr : AO → Option Unit
  | .barr => some ()
  | _ => none
noncomputable def aFlist : AO → Option (List AV × List Value × Nat)
  | .flist xs vs n => some (xs, vs, n)
  | _ => none
noncomputable def aSrc : AO → Option (List (Nat × Nat))
  | .src tp => some tp
  | _ => none
noncomputable def atA {α : Type} (p : AO → Option α) (σ : AS) (i : Nat) : Option α := bindO (at? σ i) p
/-! keys of dicts -/
noncomputable def litsOf : List AV → Option (List Int)
  | [] => some []
  | .int (.lit n) :: r => match litsOf r with
    | some l => some (n :: l)
    | none => none
  | _ :: _ => none
noncomputable def strsOf : List AV → Option (List Str)
  | [] => some []
  | .str s :: r => match strsOf r with
    | some l => some (s :: l)
    | none => none
  | _ :: _ => none
noncomputable def tupLits (σ : AS) : List AV → Option (List (List Int))
  | [] => some []
  | .own i :: r => match at? σ i with
    | some (.tup xs) => match litsOf xs, tupLits σ r with
      | some a, some l => some (a :: l)
      | _, _ => none
    | _ => none
  | _ :: _ => none
noncomputable def pkey (σ : AS) (i : Nat) : Option (List (List Int)) := match at? σ i with
  | some (.tup xs) => match xs with
    | [] => none
    | x :: r => tupLits σ (x :: r)
  | _ => none
noncomputable def skey (σ : AS) (i : Nat) : Option (List Str) := match at? σ i with
  | some (.tup xs) => match xs with
    | [] => none
    | x :: r => strsOf (x :: r)
  | _ => none
noncomputable def intsEq (a b : List Int) : Bool := listEq eqB a b
noncomputable def pEq (a b : List (List Int)) : Bool := listEq intsEq a b
noncomputable def sEq (a b : List Str) : Bool := listEq seq a b
/-- look up, put, drop in an association list by a test -/
noncomputable def look {κ β : Type} (eq : κ → κ → Bool) : List (κ × β) → κ → Option β
  | [], _ => none
  | p :: r, k => match eq p.1 k with
    | true => some p.2
    | false => look eq r k
noncomputable def drop {κ β : Type} (eq : κ → κ → Bool) : List (κ × β) → κ → List (κ × β)
  | [], _ => []
  | p :: r, k => match eq p.1 k with
    | true => r
    | false => p :: drop eq r k
noncomputable def putI : List (Int × AV) → Int → AV → List (Int × AV)
  | [], k, v => [(k, v)]
  | p :: r, k, v => match eqB p.1 k with
    | true => (p.1, v) :: r
    | false => p :: putI r k v

/-! comparisons -/
noncomputable def allInt : List AV → Bool
  | [] => true
  | .int _ :: r => allInt r
  | _ => false
noncomputable def veqs (T : Tab) : List AV → List AV → Option Bool
  | [], r => bindO (nil? r) fun _ => some true
  | a :: l, r => match r with
    | [] => none
    | b :: q => bindO (vInt a) fun x => bindO (vInt b) fun y => bindO (eqS T x y) fun c => match c with
      | true => veqs T l q
      | false => some false
noncomputable def veqT (T : Tab) (σ : AS) (i j : Nat) : Option Bool := bindO (atA aTup σ i) fun xs => bindO (atA aTup σ j) fun ys => whenO ((allInt xs).and ((allInt ys).and (Nat.beq xs.length ys.length))) (veqs T xs ys)
noncomputable def memS (s : Str) : List Str → Bool
  | [] => false
  | x :: r => match seq s x with
    | true => true
    | false => memS s r
noncomputable def memI (n : Int) : List Int → Bool
  | [] => false
  | x :: r => match eqB n x with
    | true => true
    | false => memI n r
noncomputable def memStr (σ : AS) (j : Nat) (s : Str) : Option Bool := bindO (atA aTup σ j) fun xs => bindO (strsOf xs) fun l => some (memS s l)
noncomputable def memLit (σ : AS) (j : Nat) (n : Int) : Option Bool := bindO (atA aIdict σ j) fun kv => some (look eqB kv n).isSome
noncomputable def memOwn (σ : AS) (j i : Nat) : Option Bool := orO (bindO (atA aIdict σ j) fun kv => bindO (nil? kv) fun _ => bindO (pkey σ i) fun _ => some false) (bindO (atA aPdict σ j) fun kv => bindO (pkey σ i) fun k => some (look pEq kv k).isSome)
noncomputable def mem (σ : AS) (a : AV) (b : AV) : Option Bool := bindO (vOwn b) fun j => orO (bindO (vStr a) fun s => memStr σ j s)
  (orO (bindO (vLit a) fun n => orO (bindO (atA aList σ j) fun xs => bindO (litsOf xs) fun l => some (memI n l)) (memLit σ j n)) (bindO (vOwn a) fun i => memOwn σ j i))
/-- where «not in» is asked -/
noncomputable def memN (σ : AS) (a : AV) (b : AV) : Option Bool := bindO (vOwn b) fun j => orO (bindO (vStr a) fun s => memStr σ j s) (bindO (vLit a) fun n => memLit σ j n)
noncomputable def isN (a b : AV) : Option Bool := bindO (vNone b) fun _ => some (isNone a)
/-! arithmetic -/
noncomputable def yes : Option Bool → Bool
  | some true => true
  | _ => false
noncomputable def no : Option Bool → Bool
  | some false => true
  | _ => false
noncomputable def intO : Option SI → Option AV
  | some x => some (.int x)
  | none => none
/-- numbers known within bounds -/
noncomputable def toB (a : AV) : Option (Option Int × Option Int × Int) := orO (bindO (vLit a) fun n => some (some n, some n, n)) (vBnd a)
noncomputable def addO (a b : Option Int) : Option Int := bindO a fun x => bindO b fun y => some (x + y)
noncomputable def subO (a b : Option Int) : Option Int := bindO a fun x => bindO b fun y => some (x - y)
noncomputable def mulO (a b : Option Int) : Option Int := bindO a fun x => bindO b fun y => some (x * y)
noncomputable def geO (n : Int) : Option Int → Bool
  | some a => leB n a
  | none => false
noncomputable def leO (n : Int) : Option Int → Bool
  | some a => leB a n
  | none => false
noncomputable def litB (a b : Option Int) : Option Int := bindO a fun x => bindO b fun y => whenO (eqB x y) (some x)
noncomputable def bndBin (op : Operator) (x y : Option Int × Option Int × Int) : Option AV := match op with
  | .Add => some (.bnd (addO x.1 y.1) (addO x.2.1 y.2.1) (x.2.2 + y.2.2))
  | .Sub => some (.bnd (subO x.1 y.2.1) (subO x.2.1 y.1) (x.2.2 - y.2.2))
  | .Mult => whenO ((geO 0 x.1).and ((geO 0 y.1).and ((leO 576460752303423488 x.2.1).or (leO 576460752303423488 y.2.1)))) (some (.bnd (some 0) (mulO x.2.1 y.2.1) (x.2.2 * y.2.2)))
  | .Mod => bindO (litB y.1 y.2.1) fun m => whenO (ltB 0 m) (some (.bnd (some 0) (some (m - 1)) (Int.fmod x.2.2 y.2.2)))
  | .FloorDiv => bindO (litB y.1 y.2.1) fun m => whenO ((ltB 0 m).and ((ltB m 1073741824).and (geO 0 x.1))) (some (.bnd (some 0) none (Int.fdiv x.2.2 y.2.2)))
  | _ => none
noncomputable def bndLow (g l : Option Int) : Option Bool := bindO g fun c => bindO l fun d => whenO (leB c d) (some false)
noncomputable def bndGt (x y : Option Int × Option Int × Int) : Option Bool := orO (bindO x.1 fun a => bindO y.2.1 fun b => whenO (ltB b a) (some true)) (bndLow x.2.1 y.1)
noncomputable def bndO (f : Option Int × Option Int × Int → Option Int × Option Int × Int → Option Bool) (a b : AV) : Option Bool := bindO (toB a) fun x => bindO (toB b) fun y => f x y
noncomputable def binI (T : Tab) (op : Operator) (x y : SI) : Option AV := match op with
  | .Add => some (.int (addS x y))
  | .Sub => some (.int (subS x y))
  | .Mult => intO (mulS T x y)
  | .Mod => intO (modS T x y)
  | .FloorDiv => intO (divS x y)
  | .BitAnd => bindO (sLit x) fun m => bindO (sLit y) fun n => some (.int (.lit (Builtin.bitAnd m n)))
  | .BitOr => bindO (sLit x) fun m => bindO (sLit y) fun n => some (.int (.lit (Builtin.bitOr m n)))
  | .RShift => bindO (sLit x) fun m => bindO (bindO (sLit y) iNat) fun n => whenO (Nat.blt n 64) (some (.int (.lit (Int.fdiv m (2 ^ n)))))
  | .Pow => bindO (sLit x) fun m => bindO (bindO (sLit y) iNat) fun n => whenO ((Nat.blt n 65).and ((ltB 0 m).and (ltB m 1024))) (some (.int (.lit (m ^ n))))
  | _ => none
noncomputable def binB (T : Tab) (op : Operator) (x y : SI) : Option AV := match op with
  | .Add => whenO (yes (notO (ltS T (.lit 65536) (addS x y)))) (some (.bytes (addS x y)))
  | _ => none
noncomputable def bin (T : Tab) (op : Operator) (a b : AV) : Option AV := orO (bindO (vInt a) fun x => bindO (vInt b) fun y => binI T op x y)
  (orO (bindO (vBytes a) fun x => bindO (vBytes b) fun y => binB T op x y) (bindO (toB a) fun x => bindO (toB b) fun y => bndBin op x y))
noncomputable def int2 {α : Type} (a b : AV) (f : SI → SI → Option α) : Option α := bindO (vInt a) fun x => bindO (vInt b) fun y => f x y
noncomputable def cmpEq (T : Tab) (a b : AV) : Option Bool := orO (int2 a b fun x y => eqS T x y) (orO (bindO (vStr a) fun x => bindO (vStr b) fun y => some (seq x y)) (bindO (vNone a) fun _ => bindO (vStr b) fun _ => some false))
noncomputable def cmpNe (T : Tab) (σ : AS) (a b : AV) : Option Bool := orO (int2 a b fun x y => notO (eqS T x y)) (bindO (vOwn a) fun i => bindO (vOwn b) fun j => notO (veqT T σ i j))
noncomputable def cmp (T : Tab) (σ : AS) (op : CmpOp) (a b : AV) : Option Bool := match op with
  | .Eq => cmpEq T a b
  | .NotEq => cmpNe T σ a b
  | .Lt => int2 a b fun x y => ltS T x y
  | .Gt => orO (int2 a b fun x y => ltS T y x) (bndO bndGt a b)
  | .LtE => int2 a b fun x y => notO (ltS T y x)
  | .GtE => orO (int2 a b fun x y => notO (ltS T x y)) (notO (bndO bndGt b a))
  | .Is => isN a b
  | .IsNot => notO (isN a b)
  | .In => mem σ a b
  | .NotIn => notO (memN σ a b)
/-! parts -/
noncomputable def itemN (σ : AS) (j n : Nat) : Option AV := orO (bindO (atA aList σ j) fun xs => at? xs n) (orO (bindO (atA aTup σ j) fun xs => at? xs n) (bindO (atA aFlist σ j) fun x => at? x.1 n))
noncomputable def itemP (σ : AS) (j i : Nat) : Option AV := bindO (atA aPdict σ j) fun kv => bindO (pkey σ i) fun k => bindO (look pEq kv k) fun p => some p.2
noncomputable def item (σ : AS) (o i : AV) : Option AV := bindO (vOwn o) fun j => orO (bindO (vNat i) fun n => whenO (Nat.blt n 4096) (itemN σ j n))
  (orO (bindO (vLit i) fun n => bindO (atA aIdict σ j) fun kv => look eqB kv n) (bindO (vOwn i) fun i => itemP σ j i))
noncomputable def leS (T : Tab) (a b : SI) : Bool := no (ltS T b a)
/-- a part of bytes of length n -/
noncomputable def cut (T : Tab) (n : SI) (lo hi : Option AV) : Option AV := whenO (leS T n (.lit 65536)) (match lo with
  | none => bindO hi fun h => bindO (vInt h) fun h => whenO ((leS T (.lit 0) h).and (leS T h n)) (some (.bytes h))
  | some l => bindO (vInt l) fun l => match hi with
    | none => whenO ((leS T (.lit 0) l).and (leS T l n)) (some (.bytes (subS n l)))
    | some h => bindO (vInt h) fun h => whenO ((leS T (.lit 0) l).and ((leS T l h).and (leS T h n))) (some (.bytes (subS h l))))
noncomputable def storeI (σ : AS) (j : Nat) (kv : List (Int × AV)) (i v : AV) : Option AS := orO (bindO (vLit i) fun n => some (set? σ j (.idict (putI kv n v))))
  (bindO (vOwn i) fun i => bindO (nil? kv) fun _ => bindO (pkey σ i) fun k => some (set? σ j (.pdict [(k, i, v)])))
noncomputable def storeP (σ : AS) (j : Nat) (kv : List (List (List Int) × Nat × AV)) (i v : AV) : Option AS := bindO (vOwn i) fun i => bindO (pkey σ i) fun k => bindO (isNo (look pEq kv k)) fun _ => some (set? σ j (.pdict (kv ++ [(k, i, v)])))
noncomputable def storeL (σ : AS) (j : Nat) (xs : List AV) (i v : AV) : Option AS := bindO (vNat i) fun n => whenO ((Nat.blt n xs.length).and (Nat.blt n 4096)) (some (set? σ j (.list (set? xs n v))))
noncomputable def store (σ : AS) (o i v : AV) : Option AS := bindO (vOwn o) fun j => orO (bindO (atA aIdict σ j) fun kv => whenO (Nat.blt kv.length 4096) (storeI σ j kv i v))
  (orO (bindO (atA aPdict σ j) fun kv => whenO (Nat.blt kv.length 4096) (storeP σ j kv i v)) (bindO (atA aList σ j) fun xs => storeL σ j xs i v))
/-! the calls of built-ins -/
noncomputable def best (T : Tab) (max : Bool) : SI → List AV → Option SI
  | b, [] => some b
  | b, .int x :: r => match (match max with | true => ltS T b x | false => ltS T x b) with
    | some true => best T max x r
    | some false => best T max b r
    | none => none
  | _, _ => none
noncomputable def bytesOk : List AV → Bool
  | [] => true
  | .int (.lit (.ofNat n)) :: r => (Nat.blt n 256).and (bytesOk r)
  | _ => false
noncomputable def anyOf : List AV → Option Bool
  | [] => some false
  | _ => none
noncomputable def bLen (T : Tab) (σ : AS) (a : AV) : Option (AV × AS) := orO (bindO (vBytes a) fun n => whenO (leS T n (.lit 65536)) (some (.int n, σ)))
  (bindO (vOwn a) fun i => orO (bindO (atA aList σ i) fun xs => whenO (Nat.blt xs.length 4096) (some (.int (.lit (.ofNat xs.length)), σ)))
    (orO (bindO (atA aBarr σ i) fun _ => some (.int (.lit 0), σ)) (bindO (atA aFlist σ i) fun x => some (.int (.lit (.ofNat x.1.length)), σ))))
noncomputable def bBest2 (T : Tab) (max : Bool) (σ : AS) (p : AV × AV) : Option (AV × AS) := bindO (vInt p.1) fun a => bindO (vInt p.2) fun b => bindO (best T max a [.int b]) fun x => some (.int x, σ)
noncomputable def bMin3 (T : Tab) (σ : AS) (p : AV × AV × AV) : Option (AV × AS) := bindO (vInt p.1) fun a => bindO (vInt p.2.1) fun b => bindO (vInt p.2.2) fun c => bindO (best T false a [.int b, .int c]) fun x => some (.int x, σ)
noncomputable def bMaxB (σ : AS) (p : AV × AV) : Option (AV × AS) := bindO (vBnd p.1) fun x => bindO (vBnd p.2) fun y => bindO (bndGt y x) fun c => match c with
  | true => some (.bnd y.1 y.2.1 y.2.2, σ)
  | false => some (.bnd x.1 x.2.1 x.2.2, σ)
noncomputable def bAny (σ : AS) (a : AV) : Option (AV × AS) := bindO (vOwn a) fun i => bindO (atA aList σ i) fun xs => bindO (nil? xs) fun _ => some (.bool false, σ)
noncomputable def bBytes (T : Tab) (σ : AS) (a : AV) : Option (AV × AS) := orO (bindO (vBytes a) fun n => some (.bytes n, σ))
  (orO (bindO (vInt a) fun n => whenO ((leS T (.lit 0) n).and (leS T n (.lit 65536))) (some (.bytes n, σ)))
    (bindO (vOwn a) fun i => bindO (atA aList σ i) fun xs => whenO ((bytesOk xs).and (Nat.blt xs.length 4096)) (some (.bytes (.lit (.ofNat xs.length)), σ))))
noncomputable def bBlt (T : Tab) (id : String) (args : List AV) (σ : AS) : Option (AV × AS) := orO (whenO (strIs id "len") (bindO (one? args) fun a => bLen T σ a))
  (orO (whenO (strIs id "min") (orO (bindO (two? args) fun p => bBest2 T false σ p) (bindO (three? args) fun p => bMin3 T σ p)))
    (orO (whenO (strIs id "max") (bindO (two? args) fun p => orO (bBest2 T true σ p) (bMaxB σ p))) (whenO (strIs id "any") (bindO (one? args) fun a => bAny σ a))))
noncomputable def bTyp (T : Tab) (n : String) (args : List AV) (σ : AS) : Option (AV × AS) := orO (whenO (strIs n "int") (bindO (one? args) fun a => bindO (vBool a) fun b => some (.int (.lit (match b with | true => 1 | false => 0)), σ)))
  (orO (whenO (strIs n "bytes") (bindO (one? args) fun a => bBytes T σ a))
    (orO (whenO (strIs n "range") (bindO (one? args) fun a => bindO (vNat a) fun n => whenO (Nat.blt n 4096) (some (alloc σ (.rng n))))) (whenO (strIs n "bytearray") (bindO (nil? args) fun _ => some (alloc σ .barr)))))
noncomputable def builtin (T : Tab) (f : AV) (args : List AV) (σ : AS) : Option (AV × AS) := orO (bindO (vBlt f) fun id => bBlt T id args σ) (bindO (vTyp f) fun n => bTyp T n args σ)
noncomputable def findI (n : Int) : List Int → Option Nat
  | [] => none
  | m :: r => match eqB m n with
    | true => some 0
    | false => match findI n r with
      | some j => some (j + 1)
      | none => none
noncomputable def eraseAt {α : Type} : List α → Nat → List α
  | [], _ => []
  | _ :: l, 0 => l
  | a :: l, j + 1 => a :: eraseAt l j
/-- the methods of built-in objects: which id, and what they give -/
noncomputable def methId (σ : AS) (o : AV) (name : Str) : Option String := match o with
  | .own i => match at? σ i with
    | some (.list _) => match seq name "append" with
      | true => some "list.append"
      | false => match seq name "remove" with
        | true => some "list.remove"
        | false => none
    | some (.idict _) => match seq name "pop" with
      | true => some "dict.pop"
      | false => match seq name "get" with
        | true => some "dict.get"
        | false => none
    | some (.pdict _) => match seq name "pop" with
      | true => some "dict.pop"
      | false => match seq name "get" with
        | true => some "dict.get"
        | false => none
    | some (.sdict _) => match seq name "get" with
      | true => some "dict.get"
      | false => none
    | _ => none
  | _ => none
noncomputable def optAV : Option AV → AV
  | some v => v
  | none => .none
noncomputable def mList (id : String) (i : Nat) (xs : List AV) (a : AV) (σ : AS) : Option (AV × AS) := orO (whenO (strIs id "list.append") (some (.none, set? σ i (.list (xs ++ [a])))))
  (whenO (strIs id "list.remove") (bindO (vLit a) fun n => bindO (litsOf xs) fun l => bindO (findI n l) fun j => some (.none, set? σ i (.list (eraseAt xs j)))))
noncomputable def mIdict (id : String) (i : Nat) (kv : List (Int × AV)) (a : AV) (σ : AS) : Option (AV × AS) := whenO (strIs id "dict.pop") (bindO (vLit a) fun n => bindO (look eqB kv n) fun v => some (v, set? σ i (.idict (drop eqB kv n))))
noncomputable def mPdict (id : String) (i : Nat) (kv : List (List (List Int) × Nat × AV)) (a : AV) (σ : AS) : Option (AV × AS) := bindO (vOwn a) fun j => bindO (pkey σ j) fun k =>
  orO (whenO (strIs id "dict.pop") (bindO (look pEq kv k) fun p => some (p.2, set? σ i (.pdict (drop pEq kv k))))) (whenO (strIs id "dict.get") (some (optAV ((look pEq kv k).map (·.2)), σ)))
noncomputable def mSdict (id : String) (kv : List (List Str × Nat × AV)) (a : AV) (σ : AS) : Option (AV × AS) := whenO (strIs id "dict.get") (bindO (vOwn a) fun j => bindO (skey σ j) fun k => some (optAV ((look sEq kv k).map (·.2)), σ))
noncomputable def methCall (id : String) (i : Nat) (args : List AV) (σ : AS) : Option (AV × AS) := bindO (one? args) fun a => orO (bindO (atA aList σ i) fun xs => whenO (Nat.blt xs.length 4096) (mList id i xs a σ))
  (orO (bindO (atA aIdict σ i) fun kv => whenO (Nat.blt kv.length 4096) (mIdict id i kv a σ))
    (orO (bindO (atA aPdict σ i) fun kv => whenO (Nat.blt kv.length 4096) (mPdict id i kv a σ)) (bindO (atA aSdict σ i) fun kv => mSdict id kv a σ)))
/-- what a loop goes over -/
inductive SKd where
  | list | tup | enum
  | rng (n : Nat)
  deriving Inhabited
noncomputable def kindOfO : AO → Option SKd
  | .list _ => some .list
  | .tup _ => some .tup
  | .rng n => whenO (Nat.blt n 4096) (some (.rng n))
  | _ => none
noncomputable def kindOfSrc (σ : AS) (src : AV) : Option SKd := bindO (vOwn src) fun i => atA kindOfO σ i
/-- the k-th thing of what a loop goes over (enum: with its number, in a tuple of its own) -/
noncomputable def nextOf (σ : AS) (src : AV) (kd : SKd) (k : Nat) : Option (Option (AV × AS)) := bindO (vOwn src) fun i => match kd with
  | .list => bindO (atA aList σ i) fun xs => some ((at? xs k).map fun v => (v, σ))
  | .enum => bindO (atA aList σ i) fun xs => some ((at? xs k).map fun v => alloc σ (.tup [.int (.lit (.ofNat k)), v]))
  | .tup => bindO (atA aTup σ i) fun xs => some ((at? xs k).map fun v => (v, σ))
  | .rng n => some (match Nat.blt k n with
    | true => some (.int (.lit (.ofNat k)), σ)
    | false => none)
/-! the run -/
structure Run where
  E : Expr → List (Str × NameKind) → Loc → AS → Option (AV × AS)
  T : Expr → List (Str × NameKind) → Loc → AS → Option (Bool × AS)
  X : Stmt → List (Str × NameKind) → Loc → AS → Option (Fl × Loc × AS)
  C : AV → List AV → AS → Option (AV × AS)
  W : Expr → List Stmt → List (Str × NameKind) → Loc → AS → Option (Fl × Loc × AS)
  F : Expr → AV → SKd → Nat → List Stmt → List (Str × NameKind) → Loc → AS → Option (Fl × Loc × AS)
  G : Expr → Expr → List Expr → AV → SKd → Nat → List AV → List (Str × NameKind) → Loc → AS → Option (List AV × AS)

noncomputable def callOf : Expr → Option (Expr × List Expr × List Keyword)
  | .Call f a k _ => some (f, a, k)
  | _ => none
noncomputable def isName : Expr → Option Str
  | .Name x _ => some x
  | _ => none
noncomputable def tupOf : Expr → Option (List Expr)
  | .Tuple ts _ _ => some ts
  | _ => none
noncomputable def attrOf : Expr → Option (Expr × Str)
  | .Attribute o name _ => some (o, name)
  | _ => none
noncomputable def subOf : Expr → Option (Expr × Expr)
  | .Subscript o i _ => some (o, i)
  | _ => none
noncomputable def isGlobal : Option NameKind → Bool
  | some k => match k with
    | .globalImplicit => true
    | _ => false
  | none => false
noncomputable def isLC : Option NameKind → Bool
  | some k => match k with
    | .local => true
    | .cell => true
    | _ => false
  | none => false
noncomputable def starred : Expr → Bool
  | .Starred .. => true
  | _ => false
noncomputable def isSlice : Expr → Bool
  | .Slice .. => true
  | _ => false
noncomputable def isSuper : Expr → Bool
  | .Call .. => false
  | _ => false
/-- a list of expressions, from left to right -/
noncomputable def evL (f : Expr → AS → Option (AV × AS)) : List Expr → AS → Option (List AV × AS)
  | [], σ => some ([], σ)
  | e :: es, σ => match starred e with
    | true => none
    | false => match f e σ with
      | none => none
      | some (v, σ1) => match evL f es σ1 with
        | none => none
        | some (vs, σ2) => some (v :: vs, σ2)
noncomputable def evB (f : Expr → AS → Option (AV × AS)) (isAnd : Bool) : List Expr → AS → Option (AV × AS)
  | [], _ => none
  | [e], σ => f e σ
  | e :: es, σ => match f e σ with
    | some (.bool b, σ1) => match sameB b isAnd with
      | true => evB f isAnd es σ1
      | false => some (.bool b, σ1)
    | _ => none
noncomputable def allT (f : Expr → AS → Option (Bool × AS)) (isAnd : Bool) : List Expr → AS → Option (Bool × AS)
  | [], σ => some (isAnd, σ)
  | e :: es, σ => match f e σ with
    | some (b, σ1) => match sameB b isAnd with
      | true => allT f isAnd es σ1
      | false => some (b, σ1)
    | none => none
noncomputable def evC (T : Tab) (f : Expr → AS → Option (AV × AS)) : AV → List CmpOp → List Expr → AS → Option (Bool × AS)
  | a, [op], [r], σ => match f r σ with
    | some (b, σ1) => match cmp T σ1 op a b with
      | some c => some (c, σ1)
      | none => none
    | none => none
  | a, op :: ops, r :: rs, σ => match f r σ with
    | some (b, σ1) => match cmp T σ1 op a b with
      | some true => evC T f b ops rs σ1
      | some false => some (false, σ1)
      | none => none
    | none => none
  | _, _, _, _ => none
noncomputable def evS (f : Stmt → Loc → AS → Option (Fl × Loc × AS)) : List Stmt → Loc → AS → Option (Fl × Loc × AS)
  | [], l, σ => some (.next, l, σ)
  | st :: r, l, σ => match f st l σ with
    | some (.next, l1, σ1) => evS f r l1 σ1
    | some (fl, l1, σ1) => some (fl, l1, σ1)
    | none => none
noncomputable def kindIs (k : NameKind) : Option NameKind → Bool
  | some .local => match k with | .local => true | _ => false
  | some .cell => match k with | .cell => true | _ => false
  | some .free => match k with | .free => true | _ => false
  | some .globalImplicit => match k with | .globalImplicit => true | _ => false
  | _ => false
noncomputable def fieldOf (B : Tabs) (σ : AS) (i : Nat) (name : Str) : Option AV := match at? σ i with
  | some (.inst c d) => match nlk B.cls c with
    | some k => match memS name k.flds with
      | true => match at? σ d with
        | some (.fields kv) => match lk kv name with
          | some (.blt _) => none
          | r => r
        | _ => none
      | false => none
    | none => none
  | _ => none
noncomputable def propOf (B : Tabs) (σ : AS) (i : Nat) (name : Str) : Option Nat := match at? σ i with
  | some (.inst c d) => match nlk B.cls c with
    | some k => match lk k.props name, at? σ d with
      | some f, some (.fields _) => some f
      | _, _ => none
    | none => none
  | _ => none
noncomputable def methOf (B : Tabs) (σ : AS) (i : Nat) (name : Str) : Option Nat := match at? σ i with
  | some (.inst c d) => match nlk B.cls c with
    | some k => match lk k.meths name, at? σ d with
      | some f, some (.fields kv) => match lk kv name with
        | some _ => none
        | none => some f
      | _, _ => none
    | none => none
  | _ => none
noncomputable def setField (B : Tabs) (σ : AS) (o : AV) (name : Str) (v : AV) : Option AS := match o with
  | .own i => match at? σ i with
    | some (.inst c d) => match nlk B.cls c with
      | some k => match memS name k.flds with
        | true => match at? σ d with
          | some (.fields kv) => match Nat.blt kv.length 4096 with
            | true => some (set? σ d (.fields (putL kv name v)))
            | false => none
          | _ => none
        | false => none
      | none => none
    | _ => none
  | _ => none

/-- names and (nested) tuples of names as targets -/
noncomputable def setName (names : List (Str × NameKind)) (x : Str) (v : AV) (l : Loc) : Option Loc := whenO (isLC (lk names x)) (some (putL l x v))
noncomputable def setNames (names : List (Str × NameKind)) : List Expr → List AV → Loc → Option Loc
  | [], vs, l => bindO (nil? vs) fun _ => some l
  | t :: ts, vs, l => match vs with
    | [] => none
    | v :: vs => bindO (isName t) fun x => bindO (setName names x v l) fun l1 => setNames names ts vs l1
noncomputable def parts (σ : AS) (v : AV) : Option (List AV) := bindO (vOwn v) fun i => atA aTup σ i
noncomputable def assignN (names : List (Str × NameKind)) (σ : AS) (t : Expr) (v : AV) (l : Loc) : Option Loc := orO (bindO (isName t) fun x => setName names x v l) (bindO (tupOf t) fun ts => bindO (parts σ v) fun vs => setNames names ts vs l)
noncomputable def evDict (f : Expr → AS → Option (AV × AS)) : List (Option Expr) → List Expr → AS → Option (List (List Str × Nat × AV) × AS)
  | [], [], σ => some ([], σ)
  | some k :: ks, v :: vs, σ => match f k σ with
    | some (.own i, σ1) => match f v σ1 with
      | some (a, σ2) => match evDict f ks vs σ2 with
        | some (r, σ3) => match skey σ3 i with
          | some s => some ((s, i, a) :: r, σ3)
          | none => none
        | none => none
      | none => none
    | _ => none
  | _, _, _ => none
noncomputable def dupS : List (List Str × Nat × AV) → Bool
  | [] => false
  | p :: r => match look sEq r p.1 with
    | some _ => true
    | none => dupS r
noncomputable def fill (ps : List Str) (args ds : List AV) : Option Loc := match (Nat.ble args.length ps.length).and ((Nat.ble (ps.length - args.length) ds.length).and (Nat.ble ds.length ps.length)) with
  | true => some (ps.zip args ++ (ps.drop (ps.length - ds.length)).zip ds)
  | false => none

/-- enumerate(e), by its name -/
noncomputable def enumArg (ns : List (Str × NameKind)) (e : Expr) : Option Expr := bindO (callOf e) fun p => bindO (isName p.1) fun f => bindO (one? p.2.1) fun e => bindO (nil? p.2.2) fun _ => whenO ((seq f "enumerate").and ((isGlobal (lk ns f)).and (starred e).not)) (some e)
noncomputable def isComp : Expr → Bool
  | .ListComp .. => true
  | .SetComp .. => true
  | .DictComp .. => true
  | _ => false
/-- the names of a frame that are not the inner frame's own -/
noncomputable def isLocal : Option NameKind → Bool
  | some .local => true
  | _ => false
noncomputable def strip (ns : List (Str × NameKind)) : Loc → Loc
  | [] => []
  | p :: r => match isLocal (lk ns p.1) with
    | true => strip ns r
    | false => p :: strip ns r
/-- what asks for no call and makes nothing -/
noncomputable def pureV (ns : List (Str × NameKind)) (l : Loc) (σ : AS) : Expr → Option AV
  | .Name x _ => match lk ns x with
    | some .local => lk l x
    | some .cell => lk l x
    | some .free => lk l x
    | _ => none
  | .Constant c _ _ => match c with
    | .int i => some (.int (.lit i))
    | _ => none
  | .Subscript o s _ => match isSlice s with
    | true => none
    | false => match pureV ns l σ o with
      | some a => match pureV ns l σ s with
        | some b => item σ a b
        | none => none
      | none => none
  | _ => none
noncomputable def pureT (T : Tab) (ns : List (Str × NameKind)) (l : Loc) (σ : AS) : Expr → Option Bool
  | .Compare a ops rs _ => match ops with
    | [op] => match rs with
      | [b] => match pureV ns l σ a with
        | some x => match pureV ns l σ b with
          | some y => cmp T σ op x y
          | none => none
        | none => none
      | _ => none
    | _ => none
  | _ => none
/-- the turns over the keys of a dict -/
noncomputable def scanF (T : Tab) (ns : List (Str × NameKind)) (σ : AS) (t test : Expr) (b : Bool) : List (List (List Int) × Nat × AV) → Loc → Option (Fl × Loc)
  | [], l => some (.next, l)
  | p :: r, l => match assignN ns σ t (.own p.2.1) l with
    | some l1 => match pureT T ns l1 σ test with
      | some true => some (.ret (.bool b), l1)
      | some false => scanF T ns σ t test b r l1
      | none => none
    | none => none
noncomputable def scanG (T : Tab) (ns : List (Str × NameKind)) (σ : AS) (x : Str) (test : Expr) (l : Loc) : List (List (List Int) × Nat × AV) → Option (List AV)
  | [] => some []
  | p :: r => match setName ns x (.own p.2.1) l with
    | some l1 => match pureT T ns l1 σ test with
      | some true => match scanG T ns σ x test l r with
        | some vs => some (.own p.2.1 :: vs)
        | none => none
      | some false => scanG T ns σ x test l r
      | none => none
    | none => none
/-- if TEST: return B -/
noncomputable def ifOf : Stmt → Option (Expr × List Stmt × List Stmt)
  | .If t a b _ => some (t, a, b)
  | _ => none
noncomputable def retOf : Stmt → Option (Option Expr)
  | .Return v _ => some v
  | _ => none
noncomputable def boolOf : Expr → Option Bool
  | .Constant c _ _ => match c with
    | .bool b => some b
    | _ => none
  | _ => none
noncomputable def oneIf (b : List Stmt) : Option (Expr × Bool) := bindO (one? b) fun s => bindO (ifOf s) fun p => bindO (nil? p.2.2) fun _ => bindO (one? p.2.1) fun r => bindO (retOf r) fun v => bindO v fun e => bindO (boolOf e) fun b => some (p.1, b)
noncomputable def notSet : Expr → Bool
  | .Set .. => false
  | _ => true
noncomputable def noSets : List Expr → Bool
  | [] => true
  | e :: r => (notSet e).and (noSets r)
noncomputable def nameIn (x : Str) : List Expr → Bool
  | [] => false
  | e :: r => (match isName e with
    | some y => seq x y
    | none => false).or (nameIn x r)
noncomputable def apartN : List Expr → Bool
  | [] => true
  | e :: r => match isName e with
    | some x => (nameIn x r).not.and (apartN r)
    | none => false
noncomputable def swapOk (t v : Expr) : Bool := match tupOf t with
  | some ts => match tupOf v with
    | some vs => (vs.all (constantsAlone 8)).not.and (apartN ts)
    | none => true
  | none => true
/-- the names of a comprehension's own frame, in a frame with the names ns -/
noncomputable def okComp (ns : List (Str × NameKind)) (all : List (Str × NameKind)) : List (Str × NameKind) → Bool
  | [] => true
  | (x, k) :: r => ((seq x "__debug__").not.and ((seq x "__classdict__").not.and (match k with
    | .local => isLocal (lk all x)
    | .free => match lk ns x with
      | some .cell => true
      | some .free => true
      | _ => false
    | .cell => false
    | _ => true))).and (okComp ns all r)
noncomputable def okKind : ScopeKind → Bool
  | .function => true
  | _ => false
noncomputable def sourceOf (σ : AS) : AV → Option AO
  | .own i => at? σ i
  | _ => none

noncomputable def isFun (B : Tabs) : AV → Bool
  | .glob a => match nlk B.fn a with
    | some _ => true
    | none => match nlk B.cls a with
      | some _ => true
      | none => false
  | .blt _ => true
  | .typ _ => true
  | _ => false
noncomputable def okArgs (args : List Expr) (ks : List Keyword) : Bool := (Nat.blt args.length 29).and (match ks with | [] => true | _ => false)
noncomputable def lineOk (a p : Pos) : Bool := Nat.beq a.endLine p.line
noncomputable def baseOk : Expr → Bool
  | .Call (.Name x _) [] [] _ => (seq x "super").not
  | _ => true

noncomputable def compP (T : Tab) (elt : Expr) (g : Comprehension) (ns : List (Str × NameKind)) (l : Loc) (kv : List (List (List Int) × Nat × AV)) (σ : AS) : Option (AV × AS) :=
  bindO (isName elt) fun x => bindO (isName g.target) fun y => bindO (one? g.ifs) fun c => whenO ((seq x y).and (Nat.blt kv.length 4096)) (bindO (scanG T ns σ x c l kv) fun vs => some (alloc σ (.list vs)))
noncomputable def compS (T : Tab) (r : Run) (elt : Expr) (g : Comprehension) (ns : List (Str × NameKind)) (l : Loc) (src : AV) (σ : AS) : Option (AV × AS) :=
  orO (bindO (vOwn src) fun i => orO (bindO (atA aIdict σ i) fun kv => bindO (nil? kv) fun _ => some (alloc σ (.list []))) (bindO (atA aPdict σ i) fun kv => compP T elt g ns l kv σ))
    (bindO (kindOfSrc σ src) fun kd => bindO (r.G elt g.target g.ifs src kd 0 [] ns l σ) fun q => some (alloc q.2 (.list q.1)))
noncomputable def compL (T : Tab) (r : Run) (elt : Expr) (g : Comprehension) (sc : Scope) (ns : List (Str × NameKind)) (l : Loc) (σ : AS) : Option (AV × AS) :=
  whenO ((eqB g.is_async 0).and ((notSet g.iter).and ((okKind sc.kind).and (okComp ns sc.names sc.names)))) (bindO (r.E g.iter ns l σ) fun p => compS T r elt g sc.names (strip sc.names l) p.1 p.2)
noncomputable def eConstant (B : Tabs) (T : Tab) (r : Run) (c : Const) (ns : List (Str × NameKind)) (l : Loc) (σ : AS) : Option (AV × AS) := match c with
    | .none => some (.none, σ)
    | .bool b => some (.bool b, σ)
    | .int i => some (.int (.lit i), σ)
    | .str s => some (.str s, σ)
    | .bytes b => some (.bytes (.lit (.ofNat b.length)), σ)
    | _ => none
noncomputable def eName (B : Tabs) (T : Tab) (r : Run) (x : Str) (ns : List (Str × NameKind)) (l : Loc) (σ : AS) : Option (AV × AS) := match lk ns x with
    | some .local => match lk l x with
      | some v => some (v, σ)
      | none => none
    | some .cell => match lk l x with
      | some v => some (v, σ)
      | none => none
    | some .free => match lk l x with
      | some v => some (v, σ)
      | none => none
    | some .globalImplicit => match lk B.glob x with
      | some v => some (v, σ)
      | none => none
    | _ => none
noncomputable def eBoolOp (B : Tabs) (T : Tab) (r : Run) (op : BoolOp) (vs : List Expr) (ns : List (Str × NameKind)) (l : Loc) (σ : AS) : Option (AV × AS) := evB (fun e σ => r.E e ns l σ) (match op with | .And => true | .Or => false) vs σ
noncomputable def eBinOp (B : Tabs) (T : Tab) (r : Run) (a : Expr) (op : Operator) (b : Expr) (ns : List (Str × NameKind)) (l : Loc) (σ : AS) : Option (AV × AS) := match r.E a ns l σ with
    | some (x, σ1) => match r.E b ns l σ1 with
      | some (y, σ2) => match bin T op x y with
        | some v => some (v, σ2)
        | none => none
      | none => none
    | none => none
noncomputable def eUnaryOp (B : Tabs) (T : Tab) (r : Run) (op : UnaryOp) (x : Expr) (ns : List (Str × NameKind)) (l : Loc) (σ : AS) : Option (AV × AS) := match op with
    | .Not => match r.E x ns l σ with
      | some (.bool b, σ1) => some (.bool b.not, σ1)
      | _ => none
    | .USub => match r.E x ns l σ with
      | some (.int (.lit n), σ1) => some (.int (.lit (-n)), σ1)
      | _ => none
    | _ => none
noncomputable def eIfExp (B : Tabs) (T : Tab) (r : Run) (t : Expr) (a : Expr) (b : Expr) (ns : List (Str × NameKind)) (l : Loc) (σ : AS) : Option (AV × AS) := match r.T t ns l σ with
    | some (true, σ1) => r.E a ns l σ1
    | some (false, σ1) => r.E b ns l σ1
    | none => none
noncomputable def eDict (B : Tabs) (T : Tab) (r : Run) (ks : List (Option Expr)) (vs : List Expr) (ns : List (Str × NameKind)) (l : Loc) (σ : AS) : Option (AV × AS) := match ks, vs with
    | [], [] => some (alloc σ (.idict []))
    | ks, vs => match Nat.blt vs.length 15 with
      | true => match evDict (fun e σ => r.E e ns l σ) ks vs σ with
        | some (kv, σ1) => match dupS kv with
          | true => none
          | false => some (alloc σ1 (.sdict kv))
        | none => none
      | false => none
noncomputable def eList (B : Tabs) (T : Tab) (r : Run) (es : List Expr) (ns : List (Str × NameKind)) (l : Loc) (σ : AS) : Option (AV × AS) := match evL (fun e σ => r.E e ns l σ) es σ with
    | some (vs, σ1) => match Nat.blt vs.length 4096 with
      | true => some (alloc σ1 (.list vs))
      | false => none
    | none => none
noncomputable def eTuple (B : Tabs) (T : Tab) (r : Run) (es : List Expr) (ns : List (Str × NameKind)) (l : Loc) (σ : AS) : Option (AV × AS) := match es with
    | [] => none
    | e0 :: es => match evL (fun e σ => r.E e ns l σ) (e0 :: es) σ with
      | some (vs, σ1) => match Nat.blt vs.length 4096 with
        | true => some (alloc σ1 (.tup vs))
        | false => none
      | none => none
noncomputable def eCompare (B : Tabs) (T : Tab) (r : Run) (a : Expr) (ops : List CmpOp) (rs : List Expr) (ns : List (Str × NameKind)) (l : Loc) (σ : AS) : Option (AV × AS) := match noSets rs with
    | false => none
    | true => match r.E a ns l σ with
      | some (x, σ1) => match evC T (fun e σ => r.E e ns l σ) x ops rs σ1 with
        | some (b, σ2) => some (.bool b, σ2)
        | none => none
      | none => none
noncomputable def eCall (B : Tabs) (T : Tab) (r : Run) (f : Expr) (args : List Expr) (ks : List Keyword) (pos : Pos) (ns : List (Str × NameKind)) (l : Loc) (σ : AS) : Option (AV × AS) := match okArgs args ks with
    | false => none
    | true => match f with
      | .Attribute o name apos => match (lineOk apos pos).and (baseOk o) with
        | false => none
        | true => match r.E o ns l σ with
          | some (.own i, σ1) => match methOf B σ1 i name with
            | some fa => match evL (fun e σ => r.E e ns l σ) args σ1 with
              | some (vs, σ2) => r.C (.glob fa) (.own i :: vs) σ2
              | none => none
            | none => match methId σ1 (.own i) name with
              | some id => match evL (fun e σ => r.E e ns l σ) args σ1 with
                | some (vs, σ2) => methCall id i vs σ2
                | none => none
              | none => none
          | _ => none
      | f => match r.E f ns l σ with
        | some (fv, σ1) => match isFun B fv with
          | true => match evL (fun e σ => r.E e ns l σ) args σ1 with
            | some (vs, σ2) => r.C fv vs σ2
            | none => none
          | false => none
        | none => none
noncomputable def eAttribute (B : Tabs) (T : Tab) (r : Run) (o : Expr) (name : Str) (ns : List (Str × NameKind)) (l : Loc) (σ : AS) : Option (AV × AS) := match baseOk o with
    | false => none
    | true => match r.E o ns l σ with
      | some (.own i, σ1) => match propOf B σ1 i name with
        | some f => match r.C (.glob f) [.own i] σ1 with
          | some (.blt _, _) => none
          | x => x
        | none => match fieldOf B σ1 i name with
          | some v => some (v, σ1)
          | none => none
      | _ => none
noncomputable def eSubscript (B : Tabs) (T : Tab) (r : Run) (o : Expr) (s : Expr) (ns : List (Str × NameKind)) (l : Loc) (σ : AS) : Option (AV × AS) := match r.E o ns l σ with
    | some (ov, σ1) => match s with
      | .Slice lo hi st _ => match st, ov with
        | none, .bytes n => match lo with
          | none => match hi with
            | some h => match r.E h ns l σ1 with
              | some (hv, σ2) => match cut T n none (some hv) with
                | some v => some (v, σ2)
                | none => none
              | none => none
            | none => none
          | some a => match r.E a ns l σ1 with
            | some (av, σ2) => match hi with
              | none => match cut T n (some av) none with
                | some v => some (v, σ2)
                | none => none
              | some h => match r.E h ns l σ2 with
                | some (hv, σ3) => match cut T n (some av) (some hv) with
                  | some v => some (v, σ3)
                  | none => none
                | none => none
            | none => none
        | _, _ => none
      | s => match r.E s ns l σ1 with
        | some (iv, σ2) => match item σ2 ov iv with
          | some v => some (v, σ2)
          | none => none
        | none => none
    | none => none
noncomputable def stepE (B : Tabs) (T : Tab) (r : Run) (e : Expr) (ns : List (Str × NameKind)) (l : Loc) (σ : AS) : Option (AV × AS) := match e with
  | .Constant c _ _ => eConstant B T r c ns l σ
  | .Name x _ => eName B T r x ns l σ
  | .BoolOp op vs _ => eBoolOp B T r op vs ns l σ
  | .BinOp a op b _ => eBinOp B T r a op b ns l σ
  | .UnaryOp op x _ => eUnaryOp B T r op x ns l σ
  | .IfExp t a b _ => eIfExp B T r t a b ns l σ
  | .Dict ks vs _ => eDict B T r ks vs ns l σ
  | .List es _ => eList B T r es ns l σ
  | .Tuple es _ _ => eTuple B T r es ns l σ
  | .ListComp elt gens sc _ => bindO (one? gens) fun g => compL T r elt g sc ns l σ
  | .Compare a ops rs _ => eCompare B T r a ops rs ns l σ
  | .Call f args ks pos => eCall B T r f args ks pos ns l σ
  | .Attribute o name _ => eAttribute B T r o name ns l σ
  | .Subscript o s _ => eSubscript B T r o s ns l σ
  | _ => none

noncomputable def stepT (B : Tabs) (T : Tab) (r : Run) (e : Expr) (ns : List (Str × NameKind)) (l : Loc) (σ : AS) : Option (Bool × AS) := match e with
  | .UnaryOp op x p => match op with
    | .Not => match r.T x ns l σ with
      | some (b, σ1) => some (b.not, σ1)
      | none => none
    | _ => none
  | .BoolOp op vs _ => allT (fun e σ => r.T e ns l σ) (match op with | .And => true | .Or => false) vs σ
  | .IfExp t a b _ => match r.T t ns l σ with
    | some (true, σ1) => r.T a ns l σ1
    | some (false, σ1) => r.T b ns l σ1
    | none => none
  | .Compare a ops rs _ => match noSets rs with
    | false => none
    | true => match r.E a ns l σ with
      | some (x, σ1) => evC T (fun e σ => r.E e ns l σ) x ops rs σ1
      | none => none
  | e => match r.E e ns l σ with
    | some (.bool b, σ1) => some (b, σ1)
    | _ => none

noncomputable def xAssign (B : Tabs) (r : Run) (t v : Expr) (ns : List (Str × NameKind)) (l : Loc) (a : AV) (σ : AS) : Option (Fl × Loc × AS) :=
  orO (bindO (attrOf t) fun q => bindO (r.E q.1 ns l σ) fun p => bindO (setField B p.2 p.1 q.2 a) fun σ3 => some (.next, l, σ3))
    (orO (bindO (subOf t) fun q => whenO (isSlice q.2).not (bindO (r.E q.1 ns l σ) fun p => bindO (r.E q.2 ns l p.2) fun w => bindO (store w.2 p.1 w.1 a) fun σ4 => some (.next, l, σ4)))
      (whenO ((isComp v).not.and (swapOk t v)) (bindO (assignN ns σ t a l) fun l1 => some (.next, l1, σ))))
noncomputable def stepX (B : Tabs) (T : Tab) (r : Run) (s : Stmt) (ns : List (Str × NameKind)) (l : Loc) (σ : AS) : Option (Fl × Loc × AS) := match s with
  | .Expr e _ => match isComp e with
    | true => none
    | false => match r.E e ns l σ with
      | some (_, σ1) => some (.next, l, σ1)
      | none => none
  | .Return v _ => match v with
    | none => some (.ret .none, l, σ)
    | some e => match r.E e ns l σ with
      | some (v, σ1) => some (.ret v, l, σ1)
      | none => none
  | .If t a b _ => match r.T t ns l σ with
    | some (true, σ1) => evS (fun s l σ => r.X s ns l σ) a l σ1
    | some (false, σ1) => evS (fun s l σ => r.X s ns l σ) b l σ1
    | none => none
  | .While t b o _ => match o with
    | [] => r.W t b ns l σ
    | _ => none
  | .For t it b o _ => match o with
    | [] => match enumArg ns it with
      | some e => match r.E e ns l σ with
        | some (src, σ1) => match kindOfSrc σ1 src with
          | some .list => match t with
            | .Tuple .. => r.F t src .enum 0 b ns l σ1
            | _ => none
          | _ => none
        | none => none
      | none => match notSet it with
       | false => none
       | true => match r.E it ns l σ with
        | some (src, σ1) => match sourceOf σ1 src with
          | some (.idict []) => some (.next, l, σ1)
          | some (.pdict kv) => match oneIf b with
            | some (test, v) => match scanF T ns σ1 t test v kv l with
              | some (fl, l1) => some (fl, l1, σ1)
              | none => none
            | none => none
          | _ => match kindOfSrc σ1 src with
            | some kd => r.F t src kd 0 b ns l σ1
            | none => none
        | none => none
    | _ => none
  | .Assign ts v _ => bindO (one? ts) fun t => bindO (r.E v ns l σ) fun p => xAssign B r t v ns l p.1 p.2
  | _ => none

/-- a draw from a list of two numbers, told beforehand -/
noncomputable def takeC (args : List AV) (σ : AS) : Option (AV × AS) := bindO (two? args) fun p => bindO (vOwn p.1) fun i => bindO (vNat p.2) fun top => bindO (atA aSrc σ i) fun tp => match tp with
  | [] => none
  | q :: tp => whenO (Nat.beq q.1 top) (some (.int (.lit (.ofNat q.2)), set? σ i (.src tp)))
noncomputable def isTake (B : Tabs) (a : Nat) : Bool := match B.take with
  | some b => Nat.beq b a
  | none => false
noncomputable def stepC (B : Tabs) (T : Tab) (r : Run) (f : AV) (args : List AV) (σ : AS) : Option (AV × AS) := match f with
  | .glob a => match isTake B a with
   | true => takeC args σ
   | false => match nlk B.fn a with
    | some fn => match fill fn.ps args fn.ds with
      | some l => match evS (fun s l σ => r.X s fn.names l σ) fn.body l σ with
        | some (.ret v, _, σ1) => some (v, σ1)
        | some (.next, _, σ1) => some (.none, σ1)
        | _ => none
      | none => none
    | none => match nlk B.cls a with
      | some k => match r.C (.glob k.init) (.own (Nat.succ (lenL σ)) :: args) (appL σ [.fields [], .inst a (lenL σ)]) with
        | some (.none, σ1) => some (.own (Nat.succ (lenL σ)), σ1)
        | _ => none
      | none => none
  | f => builtin T f args σ

noncomputable def stepW (B : Tabs) (T : Tab) (r : Run) (t : Expr) (b : List Stmt) (ns : List (Str × NameKind)) (l : Loc) (σ : AS) : Option (Fl × Loc × AS) :=
  match r.T t ns l σ with
  | some (true, σ1) => match evS (fun s l σ => r.X s ns l σ) b l σ1 with
    | some (.next, l1, σ2) => r.W t b ns l1 σ2
    | some (.cont, l1, σ2) => r.W t b ns l1 σ2
    | some (.ret v, l1, σ2) => some (.ret v, l1, σ2)
    | _ => none
  | some (false, σ1) => some (.next, l, σ1)
  | none => none
noncomputable def stepF (B : Tabs) (T : Tab) (r : Run) (t : Expr) (src : AV) (kd : SKd) (k : Nat) (b : List Stmt) (ns : List (Str × NameKind)) (l : Loc) (σ : AS) : Option (Fl × Loc × AS) :=
  match nextOf σ src kd k with
  | some none => some (.next, l, σ)
  | some (some (v, σ1)) => match assignN ns σ1 t v l with
    | some l1 => match evS (fun s l σ => r.X s ns l σ) b l1 σ1 with
      | some (.next, l2, σ2) => r.F t src kd (k + 1) b ns l2 σ2
      | some (.cont, l2, σ2) => r.F t src kd (k + 1) b ns l2 σ2
      | some (.ret v, l2, σ2) => some (.ret v, l2, σ2)
      | _ => none
    | none => none
  | none => none
noncomputable def stepG (B : Tabs) (T : Tab) (r : Run) (elt t : Expr) (ifs : List Expr) (src : AV) (kd : SKd) (k : Nat) (acc : List AV) (ns : List (Str × NameKind)) (l : Loc) (σ : AS) : Option (List AV × AS) :=
  match nextOf σ src kd k with
  | some none => some (acc, σ)
  | some (some (v, σ1)) => match Nat.blt acc.length 4096 with
   | false => none
   | true => match assignN ns σ1 t v l with
    | some l1 => match ifs with
      | [] => match r.E elt ns l1 σ1 with
        | some (x, σ2) => r.G elt t [] src kd (k + 1) (acc ++ [x]) ns l σ2
        | none => none
      | [c] => match r.T c ns l1 σ1 with
        | some (true, σ2) => match r.E elt ns l1 σ2 with
          | some (x, σ3) => r.G elt t [c] src kd (k + 1) (acc ++ [x]) ns l σ3
          | none => none
        | some (false, σ2) => r.G elt t [c] src kd (k + 1) acc ns l σ2
        | none => none
      | _ => none
    | none => none
  | none => none

noncomputable def step (B : Tabs) (T : Tab) (r : Run) : Run := ⟨stepE B T r, stepT B T r, stepX B T r, stepC B T r, stepW B T r, stepF B T r, stepG B T r⟩
noncomputable def run (B : Tabs) (T : Tab) : Nat → Run
  | 0 => ⟨fun _ _ _ _ => none, fun _ _ _ _ => none, fun _ _ _ _ => none, fun _ _ _ => none, fun _ _ _ _ _ => none, fun _ _ _ _ _ _ _ _ => none, fun _ _ _ _ _ _ _ _ _ _ => none⟩
  | n + 1 => step B T (run B T n)
end Mine

end
end

noncomputable section
namespace Mine
open PySem
noncomputable def prog : List Stmt := PySem.Challenge.pw_xw0366_01.main.body
noncomputable def topAt (i : Nat) : Stmt := (at? prog i).getD default
noncomputable def inAt (i j : Nat) : Stmt := match topAt i with
  | .ClassDef _ _ _ b _ _ _ _ _ _ _ => (at? b j).getD default
  | _ => default
noncomputable def mkFn (s : Stmt) (ds : List AV) : Fn := match s with
  | .FunctionDef _ a b _ _ _ sc _ _ _ => ⟨a.args.map (·.arg), ds, b, sc.names⟩
  | _ => default
noncomputable def g (s : String) (v : AV) : Str × AV := (Str.ofString s, v)
noncomputable def n (s : String) (v : Nat) : Str × Nat := (Str.ofString s, v)
noncomputable def fnTab : List (Nat × Fn) := [
  (120, mkFn (topAt 11) []) /- want_port -/,
  (134, mkFn (inAt 12 0) []) /- Ports.__init__ -/,
  (141, mkFn (inAt 12 1) []) /- Ports.is_taken -/,
  (149, mkFn (inAt 12 2) [(.int (.lit 0))]) /- Ports.take -/,
  (156, mkFn (inAt 12 3) []) /- Ports.next_free -/,
  (163, mkFn (inAt 12 4) []) /- Ports.behind -/,
  (170, mkFn (inAt 12 5) []) /- Ports.free -/,
  (184, mkFn (topAt 14) []) /- plus -/,
  (191, mkFn (topAt 15) []) /- distance -/,
  (198, mkFn (topAt 16) []) /- is_before -/,
  (205, mkFn (topAt 17) []) /- is_at_most -/,
  (219, mkFn (topAt 19) []) /- latest -/,
  (233, mkFn (inAt 22 0) []) /- AckPolicy.__init__ -/,
  (248, mkFn (inAt 22 2) []) /- AckPolicy.at_once -/,
  (255, mkFn (inAt 22 3) []) /- AckPolicy.is_due -/,
  (262, mkFn (inAt 22 4) []) /- AckPolicy.on_sent -/,
  (290, mkFn (inAt 25 0) []) /- Congestion.__init__ -/,
  (297, mkFn (inAt 25 1) []) /- Congestion.window -/,
  (304, mkFn (inAt 25 2) []) /- Congestion.told_mss -/,
  (381, mkFn (inAt 28 0) []) /- RetransmitClock.__init__ -/,
  (395, mkFn (inAt 28 2) []) /- RetransmitClock.sent -/,
  (409, mkFn (inAt 28 4) []) /- RetransmitClock.acked -/,
  (430, mkFn (inAt 28 7) []) /- RetransmitClock.waited -/,
  (437, mkFn (inAt 28 8) []) /- RetransmitClock.deadline -/,
  (458, mkFn (inAt 30 0) []) /- RttEstimate.__init__ -/,
  (465, mkFn (inAt 30 1) []) /- RttEstimate.sample -/,
  (479, mkFn (inAt 30 3) []) /- RttEstimate.plain_timeout -/,
  (486, mkFn (inAt 30 4) []) /- RttEstimate.timeout -/,
  (493, mkFn (inAt 30 5) []) /- RttEstimate.bounded -/,
  (514, mkFn (inAt 32 0) []) /- SendQueue.__init__ -/,
  (521, mkFn (inAt 32 1) []) /- SendQueue.size -/,
  (528, mkFn (inAt 32 2) []) /- SendQueue.room_left -/,
  (535, mkFn (inAt 32 3) []) /- SendQueue.put -/,
  (542, mkFn (inAt 32 4) []) /- SendQueue.part -/,
  (549, mkFn (inAt 32 5) []) /- SendQueue.drop -/,
  (570, mkFn (inAt 34 0) []) /- PeerWindow.__init__ -/,
  (577, mkFn (inAt 34 1) []) /- PeerWindow.is_newer -/,
  (584, mkFn (inAt 34 2) []) /- PeerWindow.take -/,
  (612, mkFn (inAt 35 0) []) /- Sender.__init__ -/,
  (619, mkFn (inAt 35 1) []) /- Sender.window -/,
  (627, mkFn (inAt 35 2) []) /- Sender.take_window -/,
  (634, mkFn (inAt 35 3) []) /- Sender.put -/,
  (648, mkFn (inAt 35 5) []) /- Sender.flight -/,
  (655, mkFn (inAt 35 6) []) /- Sender.usable -/,
  (662, mkFn (inAt 35 7) []) /- Sender.data_sent -/,
  (669, mkFn (inAt 35 8) []) /- Sender.unsent -/,
  (676, mkFn (inAt 35 9) []) /- Sender.is_fin_due -/,
  (697, mkFn (inAt 35 12) []) /- Sender.go_on -/,
  (704, mkFn (inAt 35 13) []) /- Sender.start -/,
  (711, mkFn (inAt 35 14) []) /- Sender.may_go -/,
  (719, mkFn (inAt 35 15) [(.bool true)]) /- Sender.pieces -/,
  (726, mkFn (inAt 35 16) []) /- Sender.piece_of -/,
  (733, mkFn (inAt 35 17) []) /- Sender.ever_sent -/,
  (761, mkFn (inAt 35 21) []) /- Sender.is_idle_with_more -/,
  (768, mkFn (inAt 35 22) []) /- Sender.needs_probe -/,
  (782, mkFn (inAt 35 24) []) /- Sender.acked -/,
  (796, mkFn (topAt 37) []) /- put16 -/,
  (825, mkFn (inAt 51 0) [(.int (.lit 0)), (.bytes (.lit 0)), (.bytes (.lit 0))]) /- Segment.__init__ -/,
  (832, mkFn (inAt 51 1) []) /- Segment.has -/,
  (839, mkFn (inAt 51 2) []) /- Segment.length -/,
  (860, mkFn (topAt 52) []) /- check_number -/,
  (867, mkFn (topAt 53) []) /- mss_option -/,
  (874, mkFn (topAt 54) []) /- mss_of -/,
  (881, mkFn (topAt 67) []) /- opening_steps -/,
  (895, mkFn (topAt 69) []) /- follow -/,
  (902, mkFn (topAt 70) []) /- may_send -/,
  (909, mkFn (topAt 71) []) /- may_receive -/,
  (923, mkFn (topAt 73) []) /- is_sending -/,
  (936, mkFn (inAt 75 0) [(.int (.lit 16))]) /- Wheel.__init__ -/,
  (943, mkFn (inAt 75 1) []) /- Wheel.put -/,
  (950, mkFn (inAt 75 2) []) /- Wheel.list_of -/,
  (957, mkFn (inAt 75 3) []) /- Wheel.cancel -/,
  (964, mkFn (inAt 75 4) []) /- Wheel.time_of -/,
  (1004, mkFn (inAt 82 0) []) /- Limits.__init__ -/,
  (1018, mkFn (topAt 83) []) /- clock_of -/,
  (1032, mkFn (inAt 84 0) []) /- Tcb.__init__ -/,
  (1039, mkFn (inAt 84 1) []) /- Tcb.window_now -/,
  (1047, mkFn (inAt 84 2) [(.bytes (.lit 0))]) /- Tcb.make -/,
  (1068, mkFn (inAt 86 0) []) /- Assembly.__init__ -/,
  (1165, mkFn (inAt 88 0) [(.int (.lit 1))]) /- Receiver.__init__ -/,
  (1172, mkFn (inAt 88 1) []) /- Receiver.free_edge -/,
  (1179, mkFn (inAt 88 2) []) /- Receiver.should_tell -/,
  (1186, mkFn (inAt 88 3) []) /- Receiver.told_window -/,
  (1193, mkFn (inAt 88 4) []) /- Receiver.window -/,
  (1291, mkFn (topAt 91) []) /- change_state -/,
  (1298, mkFn (topAt 92) []) /- closed -/,
  (1312, mkFn (topAt 94) []) /- check_error -/,
  (1319, mkFn (topAt 95) []) /- open_active -/,
  (1333, mkFn (topAt 97) []) /- send -/,
  (1347, mkFn (topAt 101) []) /- abort -/,
  (1361, mkFn (topAt 104) []) /- reset_number -/,
  (1368, mkFn (topAt 105) []) /- ack_segment -/,
  (1375, mkFn (topAt 106) []) /- syn_segment -/,
  (1382, mkFn (topAt 107) []) /- flags_of -/,
  (1389, mkFn (topAt 108) []) /- take_asked_fin -/,
  (1396, mkFn (topAt 109) []) /- data_segments -/,
  (1403, mkFn (topAt 110) []) /- output -/,
  (1410, mkFn (topAt 111) []) /- set_resend -/,
  (1417, mkFn (topAt 112) []) /- keep_timers -/,
  (1445, mkFn (topAt 117) []) /- is_new_ack -/,
  (1452, mkFn (topAt 121) []) /- arrive -/,
  (1474, mkFn (topAt 124) []) /- take_syn -/,
  (1488, mkFn (topAt 126) []) /- in_syn_sent -/,
  (1502, mkFn (topAt 128) []) /- without_syn -/,
  (1565, mkFn (topAt 137) []) /- take_ack -/,
  (1593, mkFn (topAt 141) []) /- take_octets -/,
  (1607, mkFn (topAt 143) []) /- replies -/,
  (1621, mkFn (inAt 145 0) []) /- TcpTable.__init__ -/,
  (1635, mkFn (inAt 145 2) []) /- TcpTable.connect -/,
  (1640, mkFn (inAt 145 3) []) /- TcpTable.remove -/,
  (1647, mkFn (inAt 145 4) []) /- TcpTable.find -/,
  (1652, mkFn (inAt 145 5) []) /- TcpTable.is_port_used -/,
  (1720, mkFn (inAt 149 0) []) /- Link.__init__ -/,
  (1727, mkFn (inAt 149 1) []) /- Link.is_done -/,
  (1739, mkFn (topAt 150) []) /- rows_out -/,
  (1753, mkFn (inAt 151 0) []) /- TcpSockets.__init__ -/,
  (1760, mkFn (inAt 151 1) []) /- TcpSockets.new_number -/,
  (1767, mkFn (inAt 151 2) []) /- TcpSockets.new_iss -/,
  (1774, mkFn (inAt 151 3) []) /- TcpSockets.link -/,
  (1789, mkFn (inAt 151 5) [(.int (.lit 0))]) /- TcpSockets.connect -/,
  (1796, mkFn (inAt 151 6) []) /- TcpSockets.own_port -/,
  (1810, mkFn (inAt 151 8) []) /- TcpSockets.send -/,
  (1824, mkFn (inAt 151 10) []) /- TcpSockets.refuse_failed -/,
  (1852, mkFn (inAt 151 14) []) /- TcpSockets.abort -/,
  (1859, mkFn (inAt 151 15) []) /- TcpSockets.leave -/,
  (1873, mkFn (inAt 151 17) []) /- TcpSockets.look_at -/,
  (1880, mkFn (inAt 151 18) []) /- TcpSockets.end -/,
  (1887, mkFn (inAt 151 19) []) /- TcpSockets.input -/,
  (1929, mkFn (topAt 153) []) /- _law_pool -/,
  (1936, mkFn (topAt 154) []) /- _law_take -/,
  (1943, mkFn (topAt 155) []) /- _law_one -/,
  (1950, mkFn (topAt 156) []) /- _law_opened -/,
  (1957, mkFn (topAt 157) []) /- _law_round_right -/,
  (1964, mkFn (topAt 158) []) /- _law_right -/,
  (1969, mkFn (topAt 159) []) /- law -/]
noncomputable def clsTab : List (Nat × Cls) := [
  (173, ⟨134, [n "is_taken" 141, n "take" 149, n "next_free" 156, n "behind" 163, n "free" 170], [], ["first", "last", "following", "taken"]⟩) /- Ports -/,
  (272, ⟨233, [n "at_once" 248, n "is_due" 255, n "on_sent" 262], [], ["delay", "waiting", "due", "has_gap"]⟩) /- AckPolicy -/,
  (363, ⟨290, [n "window" 297, n "told_mss" 304], [], ["mss", "most", "size", "threshold", "gathered", "duplicates", "is_recovering", "is_cautious"]⟩) /- Congestion -/,
  (440, ⟨381, [n "sent" 395, n "acked" 409, n "waited" 430, n "deadline" 437], [], ["estimate", "most_tries", "tries", "timed_end", "timed_at"]⟩) /- RetransmitClock -/,
  (496, ⟨458, [n "sample" 465, n "plain_timeout" 479, n "timeout" 486, n "bounded" 493], [], ["first", "least", "most", "mean8", "spread4", "measured"]⟩) /- RttEstimate -/,
  (552, ⟨514, [n "size" 521, n "room_left" 528, n "put" 535, n "part" 542, n "drop" 549], [], ["room", "held"]⟩) /- SendQueue -/,
  (594, ⟨570, [n "is_newer" 577, n "take" 584], [], ["ring", "size", "most", "told_seq", "told_ack"]⟩) /- PeerWindow -/,
  (785, ⟨612, [n "take_window" 627, n "put" 634, n "flight" 648, n "usable" 655, n "data_sent" 662, n "unsent" 669, n "is_fin_due" 676, n "go_on" 697, n "start" 704, n "may_go" 711, n "pieces" 719, n "piece_of" 726, n "ever_sent" 733, n "is_idle_with_more" 761, n "needs_probe" 768, n "acked" 782], [n "window" 619], ["iss", "ring", "mss", "una", "next", "greatest", "peer", "queue", "syn_pending", "fin_asked", "fin_sent"]⟩) /- Sender -/,
  (849, ⟨825, [n "has" 832, n "length" 839], [], ["source_port", "target_port", "seq", "ack", "flags", "window", "urgent", "options", "payload"]⟩) /- Segment -/,
  (986, ⟨936, [n "put" 943, n "list_of" 950, n "cancel" 957, n "time_of" 964], [], ["size", "slots", "late", "entries", "reached", "given"]⟩) /- Wheel -/,
  (1007, ⟨1004, [], [], ["ring", "mss", "send_room", "receive_room", "first_timeout", "least_timeout", "most_timeout", "most_tries", "ack_delay", "time_wait"]⟩) /- Limits -/,
  (1050, ⟨1032, [n "window_now" 1039, n "make" 1047], [], ["limits", "local", "remote", "state", "sender", "receiver", "clock", "congestion", "acks", "wheel", "error", "probes", "unanswered", "is_nagle"]⟩) /- Tcb -/,
  (1146, ⟨1068, [], [], ["ring", "parts"]⟩) /- Assembly -/,
  (1280, ⟨1165, [n "free_edge" 1172, n "should_tell" 1179, n "told_window" 1186, n "window" 1193], [], ["ring", "room", "mss", "next", "ready", "assembly", "told_edge", "fin_at", "has_fin", "urgent_at"]⟩) /- Receiver -/,
  (1660, ⟨1621, [n "connect" 1635, n "remove" 1640, n "find" 1647, n "is_port_used" 1652], [], ["connections", "listeners"]⟩) /- TcpTable -/,
  (1730, ⟨1720, [n "is_done" 1727], [], ["tcb", "listener", "own_port", "is_left", "is_dropped"]⟩) /- Link -/,
  (1918, ⟨1753, [n "new_number" 1760, n "new_iss" 1767, n "link" 1774, n "connect" 1789, n "own_port" 1796, n "send" 1810, n "refuse_failed" 1824, n "abort" 1852, n "leave" 1859, n "look_at" 1873, n "end" 1880, n "input" 1887], [], ["limits", "iss", "ports", "table", "listeners", "links", "given"]⟩) /- TcpSockets -/]
noncomputable def globTab : List (Str × AV) := [
  g "ACK" (.int (.lit 16)),
  g "AckPolicy" (.glob 272),
  g "Assembly" (.glob 1146),
  g "CLOSED" (.str "closed"),
  g "CLOSE_WAIT" (.str "close wait"),
  g "CLOSING" (.str "closing"),
  g "Congestion" (.glob 363),
  g "DELAYED" (.int (.lit 3)),
  g "ESTABLISHED" (.str "established"),
  g "EVERY" (.int (.lit 2)),
  g "FIN" (.int (.lit 1)),
  g "FIN_WAIT_1" (.str "fin wait 1"),
  g "FIN_WAIT_2" (.str "fin wait 2"),
  g "ISS_STEP" (.int (.lit 64)),
  g "LAST_ACK" (.str "last ack"),
  g "LISTEN" (.str "listen"),
  g "Limits" (.glob 1007),
  g "Link" (.glob 1730),
  g "MOST_PORT" (.int (.lit 65535)),
  g "MOST_SHIFT_retransmit" (.int (.lit 7)),
  g "MOST_WINDOW" (.int (.lit 65535)),
  g "MSS_SIZE" (.int (.lit 4)),
  g "OPTIONS_END" (.int (.lit 0)),
  g "OPTION_MSS" (.int (.lit 2)),
  g "OPTION_NOTHING" (.int (.lit 1)),
  g "PERSIST" (.int (.lit 2)),
  g "PLAIN_MSS" (.int (.lit 536)),
  g "PSH" (.int (.lit 8)),
  g "PeerWindow" (.glob 594),
  g "Ports" (.glob 173),
  g "RESEND" (.int (.lit 1)),
  g "RST" (.int (.lit 4)),
  g "Receiver" (.glob 1280),
  g "RetransmitClock" (.glob 440),
  g "RttEstimate" (.glob 496),
  g "SYN" (.int (.lit 2)),
  g "SYN_RECEIVED" (.str "syn received"),
  g "SYN_SENT" (.str "syn sent"),
  g "Segment" (.glob 849),
  g "SendQueue" (.glob 552),
  g "Sender" (.glob 785),
  g "TIME_WAIT" (.str "time wait"),
  g "Tcb" (.glob 1050),
  g "TcpSockets" (.glob 1918),
  g "TcpTable" (.glob 1660),
  g "URG" (.int (.lit 32)),
  g "WAIT" (.int (.lit 4)),
  g "Wheel" (.glob 986),
  g "_law_one" (.glob 1943),
  g "_law_opened" (.glob 1950),
  g "_law_pool" (.glob 1929),
  g "_law_right" (.glob 1964),
  g "_law_round_right" (.glob 1957),
  g "_law_take" (.glob 1936),
  g "abort_tcp_user" (.glob 1347),
  g "ack_segment" (.glob 1368),
  g "arrive" (.glob 1452),
  g "change_state" (.glob 1291),
  g "check_error" (.glob 1312),
  g "check_number" (.glob 860),
  g "clock_of" (.glob 1018),
  g "closed" (.glob 1298),
  g "data_segments" (.glob 1396),
  g "distance" (.glob 191),
  g "flags_of" (.glob 1382),
  g "follow" (.glob 895),
  g "in_syn_sent" (.glob 1488),
  g "is_at_most" (.glob 205),
  g "is_before" (.glob 198),
  g "is_new_ack" (.glob 1445),
  g "is_sending" (.glob 923),
  g "keep_timers" (.glob 1417),
  g "latest" (.glob 219),
  g "may_receive" (.glob 909),
  g "may_send" (.glob 902),
  g "mss_of" (.glob 874),
  g "mss_option" (.glob 867),
  g "open_active" (.glob 1319),
  g "opening_steps" (.glob 881),
  g "output" (.glob 1403),
  g "plus" (.glob 184),
  g "put16" (.glob 796),
  g "replies" (.glob 1607),
  g "reset_number" (.glob 1361),
  g "rows_out" (.glob 1739),
  g "send_tcp_user" (.glob 1333),
  g "set_resend" (.glob 1410),
  g "syn_segment" (.glob 1375),
  g "take_ack" (.glob 1565),
  g "take_asked_fin" (.glob 1389),
  g "take_octets" (.glob 1593),
  g "take_syn" (.glob 1474),
  g "want_port" (.glob 120),
  g "without_syn" (.glob 1502),
  g "len" (.blt "len"),
  g "min" (.blt "min"),
  g "max" (.blt "max"),
  g "any" (.blt "any"),
  g "int" (.typ "int"),
  g "bytes" (.typ "bytes"),
  g "range" (.typ "range"),
  g "bytearray" (.typ "bytearray")]

noncomputable def B : Tabs := ⟨fnTab, clsTab, globTab, none⟩
noncomputable def Bt : Tabs := ⟨fnTab, clsTab, globTab, some 1936⟩
end Mine
end

noncomputable section
namespace Mine
open PySem PySem.W PySem.Calls PyProof.Rows PyProof PyProof.V PySem.SeqAt
noncomputable def fragOf (get : Nat → Option Obj) : List Nat → Frag
  | [] => []
  | a :: r => match get a with
    | some o => (a, o) :: fragOf get r
    | none => fragOf get r
theorem fragOf_in {h : Heap} : ∀ (l : List Nat), (fragOf h.get? l).In h
  | [], a, o, e => by cases e
  | b :: l, a, o, e => by
    unfold fragOf at e
    split at e
    · rename_i o' h'
      rw [List.lookup_cons] at e
      split at e
      · rename_i q
        cases e
        rw [show a = b from eq_of_beq q]; exact h'
      · exact fragOf_in l a o e
    · exact fragOf_in l a o e
theorem fragOf_congr {f g : Nat → Option Obj} : ∀ {l : List Nat}, (∀ a ∈ l, f a = g a) → fragOf f l = fragOf g l
  | [], _ => rfl
  | a :: l, h => by
    unfold fragOf
    rw [h a (by simp), fragOf_congr fun b hb => h b (by simp [hb])]
noncomputable def bitOf (m a : Nat) : Nat := Nat.mod (Nat.shiftRight m a) (nat_lit 2)
noncomputable def lookM (get : Nat → Option Obj) (m a : Nat) : Option Obj := @Nat.rec (fun _ => Option Obj) none (fun _ _ => get a) (bitOf m a)
noncomputable def maskOf (l : List Nat) : Nat := @List.rec Nat (fun _ => Nat) 0 (fun a _ m => Nat.lor (Nat.shiftLeft 1 a) m) l
theorem bit_mask : ∀ (l : List Nat) (a : Nat), (bitOf (maskOf l) a = 1 ∧ a ∈ l) ∨ (bitOf (maskOf l) a = 0 ∧ a ∉ l) := by
  have key : ∀ (l : List Nat) (a : Nat), (maskOf l).testBit a = true ↔ a ∈ l := by
    intro l
    induction l with
    | nil => intro a; simp [maskOf]
    | cons b l ih =>
      intro a
      show (1 <<< b ||| maskOf l).testBit a = true ↔ _
      rw [Nat.testBit_or, Bool.or_eq_true, ih, Nat.testBit_shiftLeft, List.mem_cons]
      refine or_congr ?_ Iff.rfl
      rw [Bool.and_eq_true, decide_eq_true_iff, Nat.testBit_one_eq_true_iff_self_eq_zero]
      omega
  intro l a
  have e : bitOf (maskOf l) a = 1 ↔ a ∈ l := by
    rw [← key]
    show (maskOf l >>> a) % 2 = 1 ↔ _
    rw [Nat.mod_two_eq_one_iff_testBit_zero, Nat.testBit_shiftRight, Nat.add_zero]
  by_cases h : a ∈ l
  · exact .inl ⟨e.mpr h, h⟩
  · refine .inr ⟨?_, h⟩
    rcases Nat.mod_two_eq_zero_or_one (maskOf l >>> a) with q | q
    · exact q
    · exact absurd (e.mp q) h
theorem lookup_frag (get : Nat → Option Obj) : ∀ (l : List Nat) (a : Nat), (a ∈ l → (fragOf get l).lookup a = get a) ∧ (a ∉ l → (fragOf get l).lookup a = none)
  | [], a => ⟨fun h => (nomatch h), fun _ => rfl⟩
  | b :: l, a => by
    have ih := lookup_frag get l a
    unfold fragOf
    cases g : get b with
    | none =>
      dsimp only
      refine ⟨fun h => ?_, fun h => ih.2 fun q => h (.tail _ q)⟩
      by_cases m : a ∈ l
      · exact ih.1 m
      · rcases List.mem_cons.mp h with rfl | h
        · rw [ih.2 m, g]
        · exact absurd h m
    | some o =>
      dsimp only
      rw [List.lookup_cons]
      by_cases q : a = b
      · subst q
        rw [beq_self_eq_true]
        exact ⟨fun _ => g.symm, fun h => absurd (.head _) h⟩
      · rw [beq_false_of_ne q]
        refine ⟨fun h => ih.1 ?_, fun h => ih.2 fun z => h (.tail _ z)⟩
        rcases List.mem_cons.mp h with z | z
        · exact absurd z q
        · exact z
theorem lookM_eq (get : Nat → Option Obj) (l : List Nat) (a : Nat) : (fragOf get l).lookup a = lookM get (maskOf l) a := by
  unfold lookM
  rcases bit_mask l a with ⟨h, m⟩ | ⟨h, m⟩
  · rw [h]; exact (lookup_frag get l a).1 m
  · rw [h]; exact (lookup_frag get l a).2 m
noncomputable def keyIs (x : Str) (v : Value) : Bool := match v with
  | .str s _ => seq s x
  | _ => false
noncomputable def nsL (l : List DictEntry) (x : Str) : Option Value :=
  @List.rec DictEntry (fun _ => Option Value) none (fun e _ ih => @Bool.rec (fun _ => Option Value) ih (some e.val) (keyIs x e.key)) l
noncomputable def strKeysB : List DictEntry → Bool
  | [] => true
  | e :: r => match e.key with
    | .str _ _ => strKeysB r
    | _ => false
noncomputable def avIs : AV → Value → Bool
  | .none, .none => true
  | .bool a, .bool b => sameB a b
  | .int (.lit n), .int m _ => eqB n m
  | .str s, .str t _ => seq s t
  | .bytes (.lit n), .bytes b _ => eqB n (.ofNat b.toList.length)
  | .glob a, .ref b => Nat.beq a b
  | .blt i, .builtin j => i == j
  | .typ i, .type j => i == j
  | _, _ => false
noncomputable def avsAre : List AV → List Value → Bool
  | [], [] => true
  | a :: l, v :: vs => (avIs a v).and (avsAre l vs)
  | _, _ => false
noncomputable def dsAre (L : Nat → Option Obj) (ds : List AV) : Value → Bool
  | .none => match ds with
    | [] => true
    | _ => false
  | .ref d => match L d with
    | some ⟨_, _, .seq items _, _⟩ => avsAre ds items.toList
    | _ => false
  | _ => false
noncomputable def fnFrom (L : Nat → Option Obj) (a : Nat) (ds : List AV) : Fn := match L a with
  | some ⟨_, _, .func fd, _⟩ => match fd.body with
    | .stmts b => ⟨fd.params.args.map (·.arg), ds, b, fd.scope.names⟩
    | _ => ⟨[], ds, [], []⟩
  | _ => ⟨[], ds, [], []⟩
noncomputable def codeL (L : Nat → Option Obj) (q : Str) : Value → Bool
  | .ref c => match L c with
    | some ⟨_, _, .fields vs, _⟩ => match vs.toList with
      | _ :: .str n _ :: _ => seq n q
      | _ => false
    | _ => false
  | _ => false
noncomputable def fnL (L : Nat → Option Obj) (a : Nat) : Bool := match L a with
  | some ⟨.type n, _, .func _, _⟩ => n == "function"
  | _ => false
noncomputable def dictL (o : Option Obj) (x : Str) : Option (Option Value) := match o with
  | some ⟨_, _, .dict es _, _⟩ => @Option.rec Value (fun _ => Option (Option Value)) (@Bool.rec (fun _ => Option (Option Value)) (some none) none (es.toList.any (·.refKey))) (fun v => some (some v)) (nsL es.toList x)
  | _ => none
noncomputable def ownL (L : Nat → Option Obj) (x : Str) : Value → Option (Option Value)
  | .ref a => match L a with
    | some ⟨_, _, .cls cd, _⟩ => dictL (L cd.ns) x
    | _ => none
  | .type n => some (fastBuiltinOwn n x)
  | _ => none
noncomputable def alongL (L : Nat → Option Obj) (x : Str) (l : List Value) : Option (Option Value) :=
  @List.rec Value (fun _ => Option (Option Value)) (some none) (fun c _ ih => @Option.rec (Option Value) (fun _ => Option (Option Value)) none (fun o => @Option.rec Value (fun _ => Option (Option Value)) ih (fun v => some (some v)) o) (ownL L x c)) l
noncomputable def findL (L : Nat → Option Obj) (c : Nat) (x : Str) : Option (Option Value) := match L c with
  | some ⟨_, _, .cls cd, _⟩ => alongL L x cd.mro
  | _ => none
noncomputable def fineN : List (Str × NameKind) → Bool
  | [] => true
  | (x, k) :: r => ((seq x "__debug__").not.and ((seq x "__classdict__").not.and (match k with | .free => false | _ => true))).and (fineN r)
noncomputable def psOk (ns : List (Str × NameKind)) : List Str → Bool
  | [] => true
  | x :: r => (match lk ns x with | some .local => true | some .cell => true | _ => false).and (psOk ns r)
noncomputable def fnOk (L : Nat → Option Obj) (a : Nat) (ds : List AV) : Bool := match L a with
  | some ⟨_, _, .func fd, _⟩ => match fd.body with
    | .stmts _ => (okKind fd.scope.kind).and (fd.scope.isCoroutine.not.and (fd.scope.isGenerator.not.and (fd.closure.isEmpty.and ((Nat.beq fd.globals mainGlobals).and ((Nat.beq fd.builtins builtinsNs).and ((codeL L fd.qualname fd.code).and
        (fd.params.posonlyargs.isEmpty.and (fd.params.kwonlyargs.isEmpty.and (fd.params.vararg.isNone.and (fd.params.kwarg.isNone.and ((dsAre L ds fd.defaults).and ((psOk fd.scope.names (fd.params.args.map (·.arg))).and ((fineN fd.scope.names).and (fnL L a))))))))))))))
    | _ => false
  | _ => false
noncomputable def isR (o : Option (Option Value)) (a : Nat) : Bool := match o with
  | some (some (.ref b)) => Nat.beq b a
  | _ => false
noncomputable def isNN (o : Option (Option Value)) : Bool := match o with
  | some none => true
  | _ => false
noncomputable def methOk (L : Nat → Option Obj) (c : Nat) : List (Str × Nat) → Bool
  | [] => true
  | m :: r => ((isR (findL L c m.1) m.2).and (fnL L m.2)).and (methOk L c r)
noncomputable def propOk (K : Frag) (L : Nat → Option Obj) (c : Nat) : List (Str × Nat) → Bool
  | [] => true
  | m :: r => (match findL L c m.1 with
    | some (some (.ref p)) => (specialIn K (.ref p) "__get__" == some (some (Value.builtin "property.__get__"))).and ((takesIn K (.ref p) == some true).and (match recIn K p "property" with
      | some (.ref f :: _) => Nat.beq f m.2
      | _ => false))
    | _ => false).and (propOk K L c r)
noncomputable def fldOk (L : Nat → Option Obj) (c : Nat) : List Str → Bool
  | [] => true
  | x :: r => (isNN (findL L c x)).and (fldOk L c r)
noncomputable def isB (o : Option (Option Value)) (i : String) : Bool := match o with
  | some (some (.builtin j)) => j == i
  | _ => false
noncomputable def clsOk (K : Frag) (L : Nat → Option Obj) (c : Nat) (k : Cls) : Bool := (makesIn K c).and ((isR (findL L c "__init__") k.init).and ((fnL L k.init).and ((methOk L c k.meths).and ((propOk K L c k.props).and ((fldOk L c k.flds).and ((plainOver K c).and ((hasDictIn K c).and
  (((isB (findL L c "__getattribute__") "object.__getattribute__").and (isNN (findL L c "__getattr__"))).and ((isB (findL L c "__setattr__") "object.__setattr__").and (keepIn K (.ref c)))))))))))
noncomputable def fnsOk (L : Nat → Option Obj) : List (Nat × Fn) → Bool
  | [] => true
  | p :: r => (fnOk L p.1 p.2.ds).and (fnsOk L r)
noncomputable def clssOk (K : Frag) (L : Nat → Option Obj) : List (Nat × Cls) → Bool
  | [] => true
  | p :: r => (clsOk K L p.1 p.2).and (clssOk K L r)
noncomputable def fnsFrom (L : Nat → Option Obj) : List (Nat × Fn) → List (Nat × Fn)
  | [] => []
  | p :: r => (p.1, fnFrom L p.1 p.2.ds) :: fnsFrom L r
noncomputable def globsOk (g b : List DictEntry) : List (Str × AV) → Bool
  | [] => true
  | p :: r => (match nsL g p.1 with
    | some v => avIs p.2 v
    | none => match nsL b p.1 with
      | some v => avIs p.2 v
      | none => false).and (globsOk g b r)
noncomputable def entsOf (o : Option Obj) : List DictEntry := match o with
  | some ⟨_, _, .dict es _, _⟩ => es.toList
  | _ => []
noncomputable def isDict (o : Option Obj) : Bool := match o with
  | some ⟨_, _, .dict es _, _⟩ => strKeysB es.toList
  | _ => false
noncomputable def enumOk (g b : List DictEntry) : Bool := (match nsL g "enumerate" with | none => true | _ => false).and (match nsL b "enumerate" with | some (.type n) => n == "enumerate" | _ => false)
noncomputable def limOk (st : List DictEntry) : Bool := match nsL st "sys.recursionlimit" with | none => true | _ => false
theorem isDict_of {o : Option Obj} (h : isDict o = true) : ∃ ob es ep, o = some ob ∧ ob.data = .dict es ep ∧ strKeysB es.toList = true ∧ entsOf o = es.toList := by
  unfold isDict at h
  split at h
  · rename_i c d es ep sl
    exact ⟨_, es, ep, rfl, rfl, h, rfl⟩
  · cases h
noncomputable def seenB (B : Tabs) (K : Frag) (L : Nat → Option Obj) (g b st : Option Obj) : Bool := (fnsOk L B.fn).and ((clssOk K L B.cls).and ((isDict g).and ((isDict b).and ((isDict st).and ((globsOk (entsOf g) (entsOf b) B.glob).and ((enumOk (entsOf g) (entsOf b)).and (limOk (entsOf st))))))))
end Mine
end

-- H5b
namespace MineH
open PySem PySem.W PySem.Calls
/-- the same with a look of one's own at the tree of objects -/
theorem left_gen2 {p q : Program} {loose : List Str} {Xt : Shared → Bool} {Yf : Shared → Bool} {β : Type} {obs : BT → Nat → β} {ob : β} {obs2 : BT → Nat → Bool} {g0 : Bool} {N M m₀ k₀ : Nat} {ann : Option Value} {T₀ : Params → BT} {H₀ : Params → Heap} {d₀ : Drawn} {life : Life} {den : Code → Sem PySem.Fin}
    (hden : denote treeTable = den) (open_ : ∀ w : World, (fencedOpening treeTable p w N).map (fun s => (s.heap, s.gens, s.drawn, s.toks)) = some (H₀ w.params, Array.mk [], d₀, k₀))
    (size : ∀ P : Params, ((H₀ P).isNs mainGlobals && (Array.mk [] : Array GenState).size == 0, (H₀ P).objs.size, (H₀ P).nsMap mainGlobals "__annotations__") = (true, m₀, ann))
    (abs : ∀ P, absHeap (T₀ P) m₀ life = H₀ P) (le : Nat.ble M N = true)
    (hobs : ∀ T n tk os, obs T n = ob → obs2 T n = true → Yf (shOf life (Array.mk []) d₀ os T n tk) = true)
    (shot : ∀ (w : World) (os : OsState), (loop (machOf den p w m₀ ann) M (T₀ w.params) m₀ k₀ (topStub p).cur (topStub p).code (topStub p).pos (topStub p).stack).map (fun r =>
      ((looksOf p q loose Xt (fun _ => true) g0 (H₀ w.params) (shOf life (Array.mk []) d₀ os r.1 r.2.1 r.2.2), obs r.1 r.2.1), obs2 r.1 r.2.1)) = some (((true, openGood q loose, true), ob), true)) :
    LeftO p q loose Xt Yf (fun _ => true) N g0 := by
  refine left_gen (Ya := fun _ => true) (T₀ := T₀) (H₀ := H₀) (d₀ := d₀) (life := life) (den := den) (M := M) hden open_ size abs le fun w os => ?_
  obtain ⟨⟨T', n', tk'⟩, hr, hl⟩ := Option.map_eq_some_iff.mp (shot w os)
  rw [hr]
  have l1 := congrArg (·.1.1) hl
  have l2 := congrArg (·.1.2) hl
  have l4 := congrArg (·.2) hl
  have a1 := congrArg (·.1) l1
  have a2 := congrArg (·.2.1) l1
  dsimp only at l2 l4 a1 a2
  have y := hobs T' n' tk' os l2 l4
  show some _ = _
  refine congrArg some (Prod.ext a1 (Prod.ext a2 y))
end MineH
noncomputable section
namespace MineH
open Mine
open PySem PySem.W PySem.Calls
-- 312 addresses; methods that are no function of the table: []
noncomputable def addrs : List Nat := [173, 272, 363, 440, 496, 552, 594, 785, 849, 986, 1007, 1050, 1146, 1280, 1660, 1730, 1918, 172, 271, 362, 439, 495, 551, 593, 784, 848, 985, 1006, 1049, 1145, 1279, 1659, 1729, 1917, 620, 119, 133, 140, 148, 155, 162, 169, 183, 190, 197, 204, 218, 232, 247, 254, 261, 289, 296, 303, 380, 394, 408, 429, 436, 457, 464, 478, 485, 492, 513, 520, 527, 534, 541, 548, 569, 576, 583, 611, 618, 626, 633, 647, 654, 661, 668, 675, 696, 703, 710, 718, 725, 732, 760, 767, 781, 795, 824, 831, 838, 859, 866, 873, 880, 894, 901, 908, 922, 935, 942, 949, 956, 963, 1003, 1017, 1031, 1038, 1046, 1067, 1164, 1171, 1178, 1185, 1192, 1290, 1297, 1311, 1318, 1332, 1346, 1360, 1367, 1374, 1381, 1388, 1395, 1402, 1409, 1416, 1444, 1451, 1473, 1487, 1501, 1564, 1592, 1606, 1620, 1634, 1639, 1646, 1651, 1719, 1726, 1738, 1752, 1759, 1766, 1773, 1788, 1795, 1809, 1823, 1851, 1858, 1872, 1879, 1886, 1928, 1935, 1942, 1949, 1956, 1963, 1968, 120, 134, 141, 149, 156, 163, 170, 184, 191, 198, 205, 219, 233, 248, 255, 262, 290, 297, 304, 381, 395, 409, 430, 437, 458, 465, 479, 486, 493, 514, 521, 528, 535, 542, 549, 570, 577, 584, 612, 619, 627, 634, 648, 655, 662, 669, 676, 697, 704, 711, 719, 726, 733, 761, 768, 782, 796, 825, 832, 839, 860, 867, 874, 881, 895, 902, 909, 923, 936, 943, 950, 957, 964, 1004, 1018, 1032, 1039, 1047, 1068, 1165, 1172, 1179, 1186, 1193, 1291, 1298, 1312, 1319, 1333, 1347, 1361, 1368, 1375, 1382, 1389, 1396, 1403, 1410, 1417, 1445, 1452, 1474, 1488, 1502, 1565, 1593, 1607, 1621, 1635, 1640, 1647, 1652, 1720, 1727, 1739, 1753, 1760, 1767, 1774, 1789, 1796, 1810, 1824, 1852, 1859, 1873, 1880, 1887, 1929, 1936, 1943, 1950, 1957, 1964, 1969, 142, 712, 818, 931, 1040, 1158, 1782]

noncomputable def allS (get : Nat → Option Obj) : List Nat → Bool
  | [] => true
  | a :: r => match get a with
    | some _ => allS get r
    | none => false
theorem allS_of {get : Nat → Option Obj} : ∀ {l : List Nat}, allS get l = true → ∀ a ∈ l, ∃ o, get a = some o
  | [], _, a, h => by cases h
  | b :: l, q, a, h => by
    unfold allS at q
    split at q
    · rename_i o e
      rcases List.mem_cons.mp h with rfl | h
      · exact ⟨o, e⟩
      · exact allS_of q a h
    · cases q
noncomputable def lawOk (g : List DictEntry) : Bool := match nsL g "law" with
  | some (.ref a) => Nat.beq a 1969
  | _ => false
structure Obs where
  size : Nat
  all : Bool
  fns : List (Nat × Fn)
  last : Bool
  law : Bool
noncomputable def mask : Nat := maskOf addrs
noncomputable def obs (T : BT) (n : Nat) : Obs := ⟨n, allS (getA T n) addrs, fnsFrom (lookM (getA T n) mask) fnTab, (getA T n 1969).isSome, lawOk (entsOf (getA T n 3))⟩
noncomputable def want : Obs := ⟨1970, true, fnTab, true, true⟩
noncomputable def obs2 (T : BT) (n : Nat) : Bool := seenB B (fragOf (getA T n) addrs) (lookM (getA T n) mask) (getA T n 3) (getA T n 0) (getA T n 2)
noncomputable abbrev fragAt (h : Heap) : Frag := fragOf h.get? addrs
/-- what is known of the heap behind the top -/
structure Known (h : Heap) : Prop where
  size : h.objs.size = 1970
  seen : seenB B (fragAt h) (fun a => (fragAt h).lookup a) (h.get? mainGlobals) (h.get? builtinsNs) (h.get? cStatics) = true
  fns : fnsFrom (fun a => (fragAt h).lookup a) fnTab = fnTab
  last : ∃ o, h.get? 1969 = some o
  law : lawOk (entsOf (h.get? mainGlobals)) = true
noncomputable def Yf (s : Shared) : Bool := @decide (Known s.heap) (Classical.propDecidable _)
theorem getA_eq {T : BT} {n a : Nat} {life : Life} {o : Obj} (h : getA T n a = some o) : (absHeap T n life).get? a = getA T n a := by rw [h]; exact (getA_some h).1
theorem dict_some {o : Option Obj} (h : isDict o = true) : ∃ x, o = some x := by
  cases o with
  | none => cases h
  | some x => exact ⟨x, rfl⟩
theorem hobs {life : Life} {gs : Array GenState} {d : PySem.Drawn} (T : BT) (n tk : Nat) (os : OsState) (h : obs T n = want) (h3 : obs2 T n = true) : Yf (shOf life gs d os T n tk) = true := by
  have h1 : n = 1970 := congrArg Obs.size h
  have h2 : allS (getA T n) addrs = true := congrArg Obs.all h
  have h4 : fnsFrom (lookM (getA T n) mask) fnTab = fnTab := congrArg Obs.fns h
  have h5 : (getA T n 1969).isSome = true := congrArg Obs.last h
  have h6 : lawOk (entsOf (getA T n 3)) = true := congrArg Obs.law h
  have e : fragOf (absHeap T n life).get? addrs = fragOf (getA T n) addrs := fragOf_congr fun a ha => by
    obtain ⟨o, q⟩ := allS_of h2 a ha
    exact getA_eq q
  have h3 : seenB B (fragOf (getA T n) addrs) (lookM (getA T n) mask) (getA T n 3) (getA T n 0) (getA T n 2) = true := h3
  have q := h3
  unfold seenB at q
  obtain ⟨_, q⟩ := Bool.and_eq_true_iff.mp q
  obtain ⟨_, q⟩ := Bool.and_eq_true_iff.mp q
  obtain ⟨q3, q⟩ := Bool.and_eq_true_iff.mp q
  obtain ⟨q4, q⟩ := Bool.and_eq_true_iff.mp q
  obtain ⟨q5, _⟩ := Bool.and_eq_true_iff.mp q
  obtain ⟨_, e3⟩ := dict_some q3
  obtain ⟨_, e0⟩ := dict_some q4
  obtain ⟨_, e2⟩ := dict_some q5
  obtain ⟨o, eo⟩ := Option.isSome_iff_exists.mp h5
  have eL : (fun a => (fragOf (absHeap T n life).get? addrs).lookup a) = lookM (getA T n) mask := by
    rw [e]
    exact funext fun a => lookM_eq _ _ a
  refine @decide_eq_true _ (Classical.propDecidable _) ⟨?_, ?_, ?_, ⟨o, (getA_eq eo).trans eo⟩, ?_⟩
  · show (absHeap T n life).objs.size = 1970
    rw [absHeap_size, h1]
  · show seenB B (fragOf (absHeap T n life).get? addrs) (fun a => (fragOf (absHeap T n life).get? addrs).lookup a) ((absHeap T n life).get? 3) ((absHeap T n life).get? 0) ((absHeap T n life).get? 2) = true
    rw [eL, e, getA_eq e3, getA_eq e0, getA_eq e2]
    exact h3
  · show fnsFrom (fun a => (fragOf (absHeap T n life).get? addrs).lookup a) fnTab = fnTab
    rw [eL]; exact h4
  · show lawOk (entsOf ((absHeap T n life).get? 3)) = true
    rw [getA_eq e3]; exact h6
theorem known_of {s : Shared} (h : Yf s = true) : Known s.heap := @of_decide_eq_true _ (Classical.propDecidable _) h
end MineH
end
-- H4
namespace MineH
open Mine
open PySem PySem.W PySem.Calls
noncomputable def lawSt : Stmt := (pw.main.body.getLast?).getD default
noncomputable def q : Program := { pw with main := { pw.main with body := [lawSt] } }
noncomputable def loose : List Str := ["_wall", "StackError", "FormError", "SizeError", "PortError", "StateError", "ResetError", "TimedOutError", "MOST_PORT", "want_port", "Ports", "plus", "distance", "is_before", "is_at_most", "is_within", "latest", "EVERY", "AckPolicy", "DUPLICATES", "Congestion", "MOST_SHIFT_retransmit", "RetransmitClock", "RttEstimate", "SendQueue", "PeerWindow", "Sender", "put16", "need", "get16", "FIN", "SYN", "RST", "PSH", "ACK", "URG", "OPTIONS_END", "OPTION_NOTHING", "OPTION_MSS", "MSS_SIZE", "Segment", "check_number", "mss_option", "mss_of", "CLOSED", "LISTEN", "SYN_SENT", "SYN_RECEIVED", "ESTABLISHED", "FIN_WAIT_1", "FIN_WAIT_2", "CLOSE_WAIT", "CLOSING", "LAST_ACK", "TIME_WAIT", "opening_steps", "closing_steps", "follow", "may_send", "may_receive", "is_synchronized", "is_sending", "Wheel", "RESEND", "PERSIST", "DELAYED", "WAIT", "MOST_WINDOW", "Limits", "clock_of", "Tcb", "Assembly", "Receiver", "MOST_SHIFT_tcp_user", "change_state", "closed", "enter_time_wait", "check_error", "open_active", "open_passive", "send", "send_tcp_user", "close", "close_tcp_user", "abort", "abort_tcp_user", "is_all_sent", "reset_number", "ack_segment", "syn_segment", "flags_of", "take_asked_fin", "data_segments", "output", "set_resend", "keep_timers", "probe_wait", "segment_again", "is_acceptable", "is_new_ack", "WHOLE_RING", "PLAIN_MSS", "arrive", "listed", "reset_for", "take_syn", "in_listen", "in_syn_sent", "opened_from_both", "without_syn", "is_syn_again", "answers_both", "in_others", "is_let_in", "turned_down", "is_old_acknowledgement", "take_reset", "is_too_far", "take_ack", "take_acknowledgement", "take_duplicate", "end_of_sending", "take_octets", "end_of_receiving", "replies", "TcpTable", "ISS_STEP", "Listener", "Link", "rows_out", "TcpSockets", "_law_pool", "_law_take", "_law_one", "_law_opened", "_law_round_right", "_law_right"].map Str.ofString
noncomputable def Xt : Shared → Bool := fun _ => true
theorem shot (w : World) (os : OsState) : (loop (machOf denQ pw w 11 annB) 13600 (bootT w.params) 11 boot_toks (topStub pw).cur (topStub pw).code (topStub pw).pos (topStub pw).stack).map (fun r =>
    ((looksOf pw q loose Xt (fun _ => true) true (boot_heap w.params) (shOf life0 (Array.mk []) boot_drawn os r.1 r.2.1 r.2.2), obs r.1 r.2.1), obs2 r.1 r.2.1)) = some (((true, openGood q loose, true), want), true) := by kernel_rfl
theorem left : LeftO pw q loose Xt Yf (fun _ => true) 20000 :=
  left_gen2 (p := pw) (q := q) (loose := loose) (Xt := Xt) (Yf := Yf) (obs := obs) (ob := want) (obs2 := obs2) (N := 20000) (M := 13600) (m₀ := 11) (k₀ := boot_toks) (ann := annB) (T₀ := bootT) (H₀ := boot_heap) (d₀ := boot_drawn) (life := life0) (den := denQ)
    denQ_eq open_pw boot_size bootT_abs (by decide) hobs shot
end MineH
-- H6
namespace MineH
open Mine
open PySem PySem.W PySem.Calls PyProof.Rows
noncomputable abbrev rw0 : OpenLaw := PySem.Challenge.rw_xw0366_01
noncomputable def dLaw : DefRec := match lawSt with
  | .FunctionDef n a b _ _ _ sc _ _ p => ⟨n, a, b, sc, p⟩
  | _ => ⟨default, default, [], default, default⟩
theorem hdef : defOf q rw0.row.name = some (dLaw, []) := by kernel_rfl
theorem hp : rw0.row.prog.theDef rw0.row.name = some (dLaw.params, dLaw.body, dLaw.scope) := by kernel_rfl
theorem hk : kwWritten? dLaw.params.kwonlyargs dLaw.params.kw_defaults = some [] := by kernel_rfl
theorem hwr : (!rw0.row.writes || rw0.row.records.isEmpty) = true := by kernel_rfl
end MineH
-- H7
namespace MineH
open Mine
open PySem PySem.W PySem.Calls PyProof.Rows
theorem look1 : sreFenced pw.main = true := by rw [PySem.W.Fast.te11788848310118352699]; kernel_rfl
theorem look2 : ((moduleNames pw.main.body).isEmpty || lookedIntoSs (moduleNames pw.main.body) pw.main.body) = true := by kernel_rfl
theorem look3 : namesResolve pw = true := by rw [PySem.W.Fast.te8377067652309620493]; kernel_rfl
theorem look4 : pw.boundNames.all (fun n => !worldNames.contains n) = true := by rw [PySem.W.Fast.te18344453789297297638, PySem.W.Fast.te14412699480532031325]; kernel_rfl
theorem look6 : namesMeet pw pw.main.body (fun _ n => attrL n) = true := by rw [PySem.W.Fast.te17119622794617984870, PySem.W.Fast.te17868728402115742887]; kernel_rfl
end MineH
-- H8
namespace MineH
open Mine
open PySem PySem.W PySem.Calls PyProof.Rows
theorem none_of3 {α : Type} {f : α → Bool} {a b c : α} (h1 : f a = false) (h2 : f b = false) (h3 : f c = false) : [a, b, c].filter f = [] := by
  simp [List.filter, h1, h2, h3]
theorem bare1 : readsOut pw pw.main.body "vars" = false := by rw [PySem.W.Fast.te13343964577679436407]; kernel_rfl
theorem bare2 : readsOut pw pw.main.body "dir" = false := by rw [PySem.W.Fast.te13343964577679436407]; kernel_rfl
theorem bare3 : readsOut pw pw.main.body "locals" = false := by rw [PySem.W.Fast.te13343964577679436407]; kernel_rfl
theorem bare0 : (["vars", "dir", "locals"] : List Str).filter (readsOut pw pw.main.body) = [] := none_of3 bare1 bare2 bare3
theorem look5a : noRoadLSs { strict := !(importedModules pw.main.body).all cThrough.contains, foot := none, bare := [] } pw.main.body = true := by
  rw [PySem.W.Fast.te8326940854005059898]; kernel_rfl
theorem look5 : noRoadLSs { strict := !(importedModules pw.main.body).all cThrough.contains, foot := none, bare := (["vars", "dir", "locals"] : List Str).filter (readsOut pw pw.main.body) } pw.main.body = true := by
  rw [bare0]; exact look5a
end MineH
-- H9
namespace MineH
open Mine
open PySem PySem.W PySem.Calls PyProof.Rows
theorem said_of (h : looksOpen rw0.row.prog = true) : rw0.wellSaid = true := by
  unfold OpenLaw.wellSaid OpenRow.wellSaid OpenRow.partSaid
  rw [h]
  rw [PySem.W.Fast.te17119622794617984870, PySem.W.Fast.te18344453789297297638, PySem.W.Fast.te8326940854005059898, PySem.W.Fast.named_eq]
  kernel_rfl
end MineH
-- H10
namespace MineH
open Mine
open PySem PySem.W PySem.Calls PyProof.Rows
theorem looksOpen_of {p : Program} (h1 : sreFenced p.main = true) (h2 : ((moduleNames p.main.body).isEmpty || lookedIntoSs (moduleNames p.main.body) p.main.body) = true) (h3 : namesResolve p = true)
    (h4 : p.boundNames.all (fun n => !worldNames.contains n) = true)
    (h5 : noRoadLSs { strict := !(importedModules p.main.body).all cThrough.contains, foot := none, bare := (["vars", "dir", "locals"] : List Str).filter (readsOut p p.main.body) } p.main.body = true)
    (h6 : namesMeet p p.main.body (fun _ n => attrL n) = true) : looksOpen p = true := by
  unfold looksOpen
  rw [h1, h2, h3, h4, h5, h6]; rfl
theorem said : rw0.wellSaid = true := said_of (looksOpen_of (p := pw) look1 look2 look3 look4 look5 look6)
theorem hok1 : chainsOk q = true := by kernel_rfl
theorem hok2 : opensWell pw = true := by kernel_rfl
theorem hok3 : (frees rw0.row.toRowW && rw0.row.within.isEmpty) = true := by kernel_rfl
theorem hok : (chainsOk q && opensWell rw0.row.prog && (frees rw0.row.toRowW && rw0.row.within.isEmpty)) = true := by
  rw [hok1, hok3, show opensWell rw0.row.prog = true from hok2]; rfl
noncomputable def bearsF (sc : Scope) (n : Str) : Bool := @List.rec (Str × NameKind) (fun _ => Bool) false (fun p _ ih => @Bool.rec (fun _ => Bool) ih true (Fast.sEq n p.1)) sc.names
theorem bears_eq (sc : Scope) (n : Str) : sc.bears n = bearsF sc n := by
  unfold Scope.bears bearsF
  generalize sc.names = l
  induction l with
  | nil => rfl
  | cons p l ih =>
    obtain ⟨x, k⟩ := p
    rw [List.lookup_cons]
    show _ = @Bool.rec (fun _ => Bool) _ true (Fast.sEq n x)
    rw [← ih]
    cases e : Fast.sEq n x with
    | true => rw [Fast.sEq_iff.mp e, beq_self_eq_true]; rfl
    | false =>
      have : (n == x) = false := beq_false_of_ne fun q => by rw [Fast.sEq_iff.mpr q] at e; cases e
      rw [this]
noncomputable def holdsF : TablesWhole.Alg Bool := ⟨fun sc n _ => bearsF sc n, fun _ _ _ ok => ok, fun _ => true, true, false, fun a b => a && b⟩
theorem holds_eq : TablesWhole.holds = holdsF := by
  unfold TablesWhole.holds holdsF
  have : (fun (sc : Scope) (n : Str) (_ : Option Pos) => sc.bears n) = fun sc n _ => bearsF sc n := funext fun sc => funext fun n => funext fun _ => bears_eq sc n
  rw [this]
theorem hb1 : pw.tablesWhole = true := by
  unfold Program.tablesWhole TablesWhole.wProgram
  rw [PySem.W.Fast.te6116379765354995101, holds_eq]
  kernel_rfl
theorem hb : rw0.row.prog.bare := ⟨rfl, rfl, rfl, rfl, rfl, hb1⟩
theorem hw : rw0.row.toRowW.promised := ⟨[.list []], by decide +kernel, by decide +kernel⟩
end MineH
-- M3
namespace Mine
open PySem
/-! small steps of their own: they keep the terms of the proofs short -/
theorem qN {α : Type} {P : Prop} {x : α} (e : none = some x) : P := nomatch e
theorem qS {α : Type} {P : Prop} {x : α} (e : some x = none) : P := nomatch e
theorem qTF {P : Prop} (e : true = false) : P := nomatch e
theorem qFT {P : Prop} (e : false = true) : P := nomatch e
theorem qIf {α : Type} {b : Bool} {x : Option α} {z : α} (e : (match b with | true => x | false => none) = some z) : b = true ∧ x = some z := by
  cases b with
  | true => exact ⟨rfl, e⟩
  | false => exact qN e
theorem qIfN {α : Type} {b : Bool} {x : Option α} {z : α} (e : (match b with | true => none | false => x) = some z) : b = false ∧ x = some z := by
  cases b with
  | false => exact ⟨rfl, e⟩
  | true => exact qN e
theorem qIfC {α : Type} {b : Bool} {x : Option α} {z : α} {P : Prop} (e : (match b with | true => x | false => none) = some z) (k : b = true → x = some z → P) : P := k (qIf e).1 (qIf e).2
theorem qIfNC {α : Type} {b : Bool} {x : Option α} {z : α} {P : Prop} (e : (match b with | true => none | false => x) = some z) (k : b = false → x = some z → P) : P := k (qIfN e).1 (qIfN e).2
theorem memC {α : Type} {x a : α} {l : List α} {P : Prop} (h : x ∈ a :: l) (k1 : x = a → P) (k2 : x ∈ l → P) : P := (List.mem_cons.mp h).elim k1 k2
theorem x0a2 {p0 p1 : Prop} {P : Prop} (h : p0 ∧ p1) (k : p0 → p1 → P) : P := k h.1 h.2
theorem x0a3 {p0 p1 p2 : Prop} {P : Prop} (h : p0 ∧ p1 ∧ p2) (k : p0 → p1 → p2 → P) : P := k h.1 h.2.1 h.2.2
theorem x0a4 {p0 p1 p2 p3 : Prop} {P : Prop} (h : p0 ∧ p1 ∧ p2 ∧ p3) (k : p0 → p1 → p2 → p3 → P) : P := k h.1 h.2.1 h.2.2.1 h.2.2.2
theorem x0a5 {p0 p1 p2 p3 p4 : Prop} {P : Prop} (h : p0 ∧ p1 ∧ p2 ∧ p3 ∧ p4) (k : p0 → p1 → p2 → p3 → p4 → P) : P := k h.1 h.2.1 h.2.2.1 h.2.2.2.1 h.2.2.2.2
theorem x1a1 {α0 : Type} {p0 : α0 → Prop} {P : Prop} (h : ∃ a, p0 a) (k : ∀ a, p0 a → P) : P := h.elim fun a q => k a q
theorem x1a2 {α0 : Type} {p0 p1 : α0 → Prop} {P : Prop} (h : ∃ a, p0 a ∧ p1 a) (k : ∀ a, p0 a → p1 a → P) : P := h.elim fun a q => k a q.1 q.2
theorem x1a3 {α0 : Type} {p0 p1 p2 : α0 → Prop} {P : Prop} (h : ∃ a, p0 a ∧ p1 a ∧ p2 a) (k : ∀ a, p0 a → p1 a → p2 a → P) : P := h.elim fun a q => k a q.1 q.2.1 q.2.2
theorem x1a4 {α0 : Type} {p0 p1 p2 p3 : α0 → Prop} {P : Prop} (h : ∃ a, p0 a ∧ p1 a ∧ p2 a ∧ p3 a) (k : ∀ a, p0 a → p1 a → p2 a → p3 a → P) : P := h.elim fun a q => k a q.1 q.2.1 q.2.2.1 q.2.2.2
theorem x1a5 {α0 : Type} {p0 p1 p2 p3 p4 : α0 → Prop} {P : Prop} (h : ∃ a, p0 a ∧ p1 a ∧ p2 a ∧ p3 a ∧ p4 a) (k : ∀ a, p0 a → p1 a → p2 a → p3 a → p4 a → P) : P := h.elim fun a q => k a q.1 q.2.1 q.2.2.1 q.2.2.2.1 q.2.2.2.2
theorem x2a1 {α0 α1 : Type} {p0 : α0 → α1 → Prop} {P : Prop} (h : ∃ a b, p0 a b) (k : ∀ a b, p0 a b → P) : P := h.elim fun a q => q.elim fun b q => k a b q
theorem x2a2 {α0 α1 : Type} {p0 p1 : α0 → α1 → Prop} {P : Prop} (h : ∃ a b, p0 a b ∧ p1 a b) (k : ∀ a b, p0 a b → p1 a b → P) : P := h.elim fun a q => q.elim fun b q => k a b q.1 q.2
theorem x2a3 {α0 α1 : Type} {p0 p1 p2 : α0 → α1 → Prop} {P : Prop} (h : ∃ a b, p0 a b ∧ p1 a b ∧ p2 a b) (k : ∀ a b, p0 a b → p1 a b → p2 a b → P) : P := h.elim fun a q => q.elim fun b q => k a b q.1 q.2.1 q.2.2
theorem x2a4 {α0 α1 : Type} {p0 p1 p2 p3 : α0 → α1 → Prop} {P : Prop} (h : ∃ a b, p0 a b ∧ p1 a b ∧ p2 a b ∧ p3 a b) (k : ∀ a b, p0 a b → p1 a b → p2 a b → p3 a b → P) : P := h.elim fun a q => q.elim fun b q => k a b q.1 q.2.1 q.2.2.1 q.2.2.2
theorem x2a5 {α0 α1 : Type} {p0 p1 p2 p3 p4 : α0 → α1 → Prop} {P : Prop} (h : ∃ a b, p0 a b ∧ p1 a b ∧ p2 a b ∧ p3 a b ∧ p4 a b) (k : ∀ a b, p0 a b → p1 a b → p2 a b → p3 a b → p4 a b → P) : P := h.elim fun a q => q.elim fun b q => k a b q.1 q.2.1 q.2.2.1 q.2.2.2.1 q.2.2.2.2
theorem x3a1 {α0 α1 α2 : Type} {p0 : α0 → α1 → α2 → Prop} {P : Prop} (h : ∃ a b c, p0 a b c) (k : ∀ a b c, p0 a b c → P) : P := h.elim fun a q => q.elim fun b q => q.elim fun c q => k a b c q
theorem x3a2 {α0 α1 α2 : Type} {p0 p1 : α0 → α1 → α2 → Prop} {P : Prop} (h : ∃ a b c, p0 a b c ∧ p1 a b c) (k : ∀ a b c, p0 a b c → p1 a b c → P) : P := h.elim fun a q => q.elim fun b q => q.elim fun c q => k a b c q.1 q.2
theorem x3a3 {α0 α1 α2 : Type} {p0 p1 p2 : α0 → α1 → α2 → Prop} {P : Prop} (h : ∃ a b c, p0 a b c ∧ p1 a b c ∧ p2 a b c) (k : ∀ a b c, p0 a b c → p1 a b c → p2 a b c → P) : P := h.elim fun a q => q.elim fun b q => q.elim fun c q => k a b c q.1 q.2.1 q.2.2
theorem x3a4 {α0 α1 α2 : Type} {p0 p1 p2 p3 : α0 → α1 → α2 → Prop} {P : Prop} (h : ∃ a b c, p0 a b c ∧ p1 a b c ∧ p2 a b c ∧ p3 a b c) (k : ∀ a b c, p0 a b c → p1 a b c → p2 a b c → p3 a b c → P) : P := h.elim fun a q => q.elim fun b q => q.elim fun c q => k a b c q.1 q.2.1 q.2.2.1 q.2.2.2
theorem x3a6 {α0 α1 α2 : Type} {p0 p1 p2 p3 p4 p5 : α0 → α1 → α2 → Prop} {P : Prop} (h : ∃ a b c, p0 a b c ∧ p1 a b c ∧ p2 a b c ∧ p3 a b c ∧ p4 a b c ∧ p5 a b c) (k : ∀ a b c, p0 a b c → p1 a b c → p2 a b c → p3 a b c → p4 a b c → p5 a b c → P) : P := h.elim fun a q => q.elim fun b q => q.elim fun c q => k a b c q.1 q.2.1 q.2.2.1 q.2.2.2.1 q.2.2.2.2.1 q.2.2.2.2.2
theorem x4a1 {α0 α1 α2 α3 : Type} {p0 : α0 → α1 → α2 → α3 → Prop} {P : Prop} (h : ∃ a b c d, p0 a b c d) (k : ∀ a b c d, p0 a b c d → P) : P := h.elim fun a q => q.elim fun b q => q.elim fun c q => q.elim fun d q => k a b c d q
theorem x4a2 {α0 α1 α2 α3 : Type} {p0 p1 : α0 → α1 → α2 → α3 → Prop} {P : Prop} (h : ∃ a b c d, p0 a b c d ∧ p1 a b c d) (k : ∀ a b c d, p0 a b c d → p1 a b c d → P) : P := h.elim fun a q => q.elim fun b q => q.elim fun c q => q.elim fun d q => k a b c d q.1 q.2
theorem x4a4 {α0 α1 α2 α3 : Type} {p0 p1 p2 p3 : α0 → α1 → α2 → α3 → Prop} {P : Prop} (h : ∃ a b c d, p0 a b c d ∧ p1 a b c d ∧ p2 a b c d ∧ p3 a b c d) (k : ∀ a b c d, p0 a b c d → p1 a b c d → p2 a b c d → p3 a b c d → P) : P := h.elim fun a q => q.elim fun b q => q.elim fun c q => q.elim fun d q => k a b c d q.1 q.2.1 q.2.2.1 q.2.2.2
theorem x4a5 {α0 α1 α2 α3 : Type} {p0 p1 p2 p3 p4 : α0 → α1 → α2 → α3 → Prop} {P : Prop} (h : ∃ a b c d, p0 a b c d ∧ p1 a b c d ∧ p2 a b c d ∧ p3 a b c d ∧ p4 a b c d) (k : ∀ a b c d, p0 a b c d → p1 a b c d → p2 a b c d → p3 a b c d → p4 a b c d → P) : P := h.elim fun a q => q.elim fun b q => q.elim fun c q => q.elim fun d q => k a b c d q.1 q.2.1 q.2.2.1 q.2.2.2.1 q.2.2.2.2
theorem q1 {α : Type} {a c : α} {P : α → Prop} (e : some a = some c) (h : P a) : P c := by cases e; exact h
theorem q2 {α β : Type} {a c : α} {b d : β} {P : α → β → Prop} (e : some (a, b) = some (c, d)) (h : P a b) : P c d := by cases e; exact h
theorem q3 {α β γ : Type} {a c : α} {b d : β} {x y : γ} {P : α → β → γ → Prop} (e : some (a, b, x) = some (c, d, y)) (h : P a b x) : P c d y := by cases e; exact h

/-! one step of the run at a time -/
theorem thenC {α β : Type} {o : Option α} {f : α → Option β} {z : β} {P : Prop} (e : bindO o f = some z) (k : ∀ a, o = some a → f a = some z → P) : P := by
  cases o with
  | some a => exact k a rfl e
  | none => exact qN e
theorem whenC {α : Type} {b : Bool} {x : Option α} {z : α} {P : Prop} (e : whenO b x = some z) (k : b = true → x = some z → P) : P := by
  cases b with
  | true => exact k rfl e
  | false => exact qN e
theorem orC {α : Type} {a b : Option α} {z : α} {P : Prop} (e : orO a b = some z) (k1 : a = some z → P) (k2 : b = some z → P) : P := by
  cases a with
  | some a => exact k1 e
  | none => exact k2 e
theorem strC {a b : String} {P : String → Prop} (e : strIs a b = true) (k : P b) : P a := (of_decide_eq_true e : a = b) ▸ k
theorem nilC {α : Type} {l : List α} {u : Unit} {P : List α → Prop} (e : nil? l = some u) (k : P []) : P l := by
  cases l with
  | nil => exact k
  | cons => exact qN e
theorem oneC {α : Type} {l : List α} {a : α} {P : List α → Prop} (e : one? l = some a) (k : P [a]) : P l := by
  cases l with
  | nil => exact qN e
  | cons b r =>
    cases r with
    | nil => cases e; exact k
    | cons => exact qN e
theorem twoC {α : Type} {l : List α} {p : α × α} {P : List α → Prop} (e : two? l = some p) (k : P [p.1, p.2]) : P l := by
  cases l with
  | nil => exact qN e
  | cons a r => exact thenC e fun b e1 e2 => by cases e2; exact oneC (P := fun r => P (a :: r)) e1 k
theorem threeC {α : Type} {l : List α} {p : α × α × α} {P : List α → Prop} (e : three? l = some p) (k : P [p.1, p.2.1, p.2.2]) : P l := by
  cases l with
  | nil => exact qN e
  | cons a r => exact thenC e fun b e1 e2 => by cases e2; exact twoC (P := fun r => P (a :: r)) e1 k
theorem isNo_eq {α : Type} {o : Option α} {u : Unit} (e : isNo o = some u) : o = none := by
  cases o with
  | none => rfl
  | some => exact qN e
theorem sLitC {x : SI} {n : Int} {P : SI → Prop} (e : sLit x = some n) (k : P (.lit n)) : P x := by
  cases x with
  | lit m => cases e; exact k
  | _ => exact qN e
theorem iNat_eq {n : Int} {k : Nat} (e : iNat n = some k) : n = (k : Int) := by
  cases n with
  | ofNat m => cases e; rfl
  | negSucc => exact qN e
theorem at_of {α : Type} {p : AO → Option α} {σ : AS} {i : Nat} {x : α} {o' : AO} (e : atA p σ i = some x) (h : ∀ o, p o = some x → o = o') : at? σ i = some o' := thenC e fun o e1 e2 => h o e2 ▸ e1
section
variable {σ : AS} {i : Nat}
theorem atList {xs : List AV} (e : atA aList σ i = some xs) : at? σ i = some (.list xs) := at_of e fun o q => by cases o <;> first | exact qN q | (cases q; rfl)
theorem atTup {xs : List AV} (e : atA aTup σ i = some xs) : at? σ i = some (.tup xs) := at_of e fun o q => by cases o <;> first | exact qN q | (cases q; rfl)
theorem atIdict {kv : List (Int × AV)} (e : atA aIdict σ i = some kv) : at? σ i = some (.idict kv) := at_of e fun o q => by cases o <;> first | exact qN q | (cases q; rfl)
theorem atPdict {kv : List (List (List Int) × Nat × AV)} (e : atA aPdict σ i = some kv) : at? σ i = some (.pdict kv) := at_of e fun o q => by cases o <;> first | exact qN q | (cases q; rfl)
theorem atSdict {kv : List (List Str × Nat × AV)} (e : atA aSdict σ i = some kv) : at? σ i = some (.sdict kv) := at_of e fun o q => by cases o <;> first | exact qN q | (cases q; rfl)
theorem atBarr {u : Unit} (e : atA aBarr σ i = some u) : at? σ i = some .barr := at_of e fun o q => by cases o <;> first | exact qN q | (cases q; rfl)
theorem atFlist {x : List AV × List Value × Nat} (e : atA aFlist σ i = some x) : at? σ i = some (.flist x.1 x.2.1 x.2.2) := at_of e fun o q => by cases o <;> first | exact qN q | (cases q; rfl)
theorem atSrc {tp : List (Nat × Nat)} (e : atA aSrc σ i = some tp) : at? σ i = some (.src tp) := at_of e fun o q => by cases o <;> first | exact qN q | (cases q; rfl)
end
theorem isLC_is {o : Option NameKind} (h : isLC o = true) : o = some .local ∨ o = some .cell := by
  cases o with
  | none => exact qFT h
  | some k =>
    cases k with
    | «local» => exact .inl rfl
    | cell => exact .inr rfl
    | _ => exact qFT h
theorem setName_is {ns : List (Str × NameKind)} {x : Str} {v : AV} {l l1 : Loc} (e : setName ns x v l = some l1) : (lk ns x = some .local ∨ lk ns x = some .cell) ∧ putL l x v = l1 := whenC e fun k e => ⟨isLC_is k, Option.some.inj e⟩
theorem isNameC {e : Expr} {x : Str} {P : Expr → Prop} (h : isName e = some x) (k : ∀ p, P (.Name x p)) : P e := by
  cases e with
  | Name y p => exact Option.some.inj h ▸ k p
  | _ => exact qN h
theorem tupOfC {e : Expr} {ts : List Expr} {P : Expr → Prop} (h : tupOf e = some ts) (k : ∀ c p, P (.Tuple ts c p)) : P e := by
  cases e with
  | Tuple y c p => exact Option.some.inj h ▸ k c p
  | _ => exact qN h
theorem attrOfC {e : Expr} {q : Expr × Str} {P : Expr → Prop} (h : attrOf e = some q) (k : ∀ p, P (.Attribute q.1 q.2 p)) : P e := by
  cases e with
  | Attribute o n p => cases h; exact k p
  | _ => exact qN h
theorem subOfC {e : Expr} {q : Expr × Expr} {P : Expr → Prop} (h : subOf e = some q) (k : ∀ p, P (.Subscript q.1 q.2 p)) : P e := by
  cases e with
  | Subscript o n p => cases h; exact k p
  | _ => exact qN h
structure Nu where
  ring : Int
  seed : Int
  many : Int
structure Nu.Ok (ν : Nu) (T : Tab) : Prop where
  r1 : 256 ≤ ν.ring
  r2 : ν.ring ≤ 4294967296
  m1 : T.lo ≤ ν.many
  m2 : ν.many ≤ T.hi

theorem eqB_iff (a b : Int) : eqB a b = true ↔ a = b := by
  cases a <;> cases b <;> simp [eqB] <;> omega
theorem eqB_false {a b : Int} (h : eqB a b = false) : a ≠ b := fun e => by
  have := (eqB_iff a b).mpr e
  rw [h] at this; cases this
theorem blt_iff (m n : Nat) : Nat.blt m n = true ↔ m < n := by
  constructor
  · exact fun h => Nat.le_of_ble_eq_true h
  · exact fun h => Nat.ble_eq_true_of_le h
theorem ltB_iff (a b : Int) : ltB a b = true ↔ a < b := by
  cases a with
  | ofNat m => cases b with
    | ofNat n => simp only [ltB, blt_iff, Int.ofNat_eq_natCast]; omega
    | negSucc n => simp only [ltB, Int.ofNat_eq_natCast]; constructor <;> intro h <;> first | cases h | omega
  | negSucc m => cases b with
    | ofNat n => exact ⟨fun _ => by rw [Int.negSucc_eq, Int.ofNat_eq_natCast]; omega, fun _ => rfl⟩
    | negSucc n => show Nat.blt n m = true ↔ _; rw [blt_iff, Int.negSucc_eq, Int.negSucc_eq]; omega
theorem ltB_false {a b : Int} (h : ltB a b = false) : b ≤ a := by
  have : ¬ a < b := fun e => by rw [(ltB_iff a b).mpr e] at h; cases h
  omega
theorem leB_iff (a b : Int) : leB a b = true ↔ a ≤ b := by
  unfold leB
  cases h : ltB b a with
  | true => have := (ltB_iff b a).mp h; simp; omega
  | false => have := ltB_false h; simp; omega

noncomputable def L4.ev (ν : Nu) (x : L4) : Int := x.c + x.r * ν.ring + x.s * ν.seed + x.m * ν.many
noncomputable def SI.rel (ν : Nu) : SI → Int → Prop
  | .lit n, k => k = n
  | .lin c r s m, k => k = c + r * ν.ring + s * ν.seed + m * ν.many
  | .md c s m, k => k = Int.fmod (c + s * ν.seed + m * ν.many) ν.ring
  | .pend c s m, k => ∃ q, k = c + s * ν.seed + m * ν.many + q * ν.ring

variable {ν : Nu} {T : Tab}

theorem toL_rel {a : SI} {x : L4} {k : Int} (e : toL a = some x) (h : a.rel ν k) : k = x.ev ν := by
  cases a with
  | lit n => cases e; simp [SI.rel] at h; simp [L4.ev, h]
  | lin c r s m => cases e; simpa [SI.rel, L4.ev] using h
  | md => cases e
  | pend => cases e
theorem fmod_form (a b : Int) : ∃ q, Int.fmod a b = a + q * b := ⟨-(Int.fdiv a b), by
  have := Int.fmod_add_mul_fdiv a b
  rw [Int.neg_mul, Int.mul_comm]
  omega⟩
theorem toP_rel {a : SI} {k : Int} (h : a.rel ν k) : ∃ q, k = (toP a).c + (toP a).s * ν.seed + (toP a).m * ν.many + q * ν.ring := by
  cases a with
  | lit n => exact ⟨0, by simp [SI.rel] at h; simp [toP, h]⟩
  | lin c r s m => exact ⟨r, by simp only [SI.rel] at h; simp only [toP]; omega⟩
  | md c s m =>
    simp only [SI.rel] at h
    obtain ⟨q, e⟩ := fmod_form (c + s * ν.seed + m * ν.many) ν.ring
    exact ⟨q, by simp only [toP]; omega⟩
  | pend c s m => exact h
theorem mkLin_rel (c r s m : Int) : (mkLin c r s m).rel ν (c + r * ν.ring + s * ν.seed + m * ν.many) := by
  unfold mkLin
  split
  · rename_i h
    simp only [Bool.and_eq_true, eqB_iff] at h
    obtain ⟨rfl, rfl, rfl⟩ := h
    simp [SI.rel]
  · simp [SI.rel]
theorem rel_eq {a : SI} {x y : Int} (h : a.rel ν x) (e : x = y) : a.rel ν y := e ▸ h

theorem addS_rel {a b : SI} {x y : Int} (ha : a.rel ν x) (hb : b.rel ν y) : (addS a b).rel ν (x + y) := by
  unfold addS
  split
  · simp only [SI.rel] at ha hb ⊢; omega
  · split
    · rename_i u v eu ev
      have := toL_rel eu ha
      have := toL_rel ev hb
      refine rel_eq (mkLin_rel _ _ _ _) ?_
      simp only [L4.ev] at *
      simp only [Int.add_mul]
      omega
    · obtain ⟨p, hp⟩ := toP_rel ha
      obtain ⟨q, hq⟩ := toP_rel hb
      exact ⟨p + q, by simp only [Int.add_mul]; omega⟩
theorem subS_rel {a b : SI} {x y : Int} (ha : a.rel ν x) (hb : b.rel ν y) : (subS a b).rel ν (x - y) := by
  unfold subS
  split
  · simp only [SI.rel] at ha hb ⊢; omega
  · split
    · rename_i u v eu ev
      have := toL_rel eu ha
      have := toL_rel ev hb
      refine rel_eq (mkLin_rel _ _ _ _) ?_
      simp only [L4.ev] at *
      simp only [Int.sub_mul]
      omega
    · obtain ⟨p, hp⟩ := toP_rel ha
      obtain ⟨q, hq⟩ := toP_rel hb
      exact ⟨p - q, by simp only [Int.sub_mul]; omega⟩

theorem mulLo_le {k lo hi x : Int} (h1 : lo ≤ x) (h2 : x ≤ hi) : mulLo k lo hi ≤ k * x := by
  unfold mulLo
  split
  · rename_i h
    have := (ltB_iff _ _).mp h
    exact Int.mul_le_mul_of_nonpos_left (by omega) h2
  · rename_i h
    have := ltB_false h
    exact Int.mul_le_mul_of_nonneg_left h1 this
theorem mulHi_le {k lo hi x : Int} (h1 : lo ≤ x) (h2 : x ≤ hi) : k * x ≤ mulHi k lo hi := by
  unfold mulHi
  split
  · rename_i h
    have := (ltB_iff _ _).mp h
    exact Int.mul_le_mul_of_nonpos_left (by omega) h1
  · rename_i h
    have := ltB_false h
    exact Int.mul_le_mul_of_nonneg_left h2 this
theorem loOf_le (O : ν.Ok T) {x : L4} (hs : x.s = 0) : loOf T x ≤ x.ev ν := by
  have a := mulLo_le (k := x.r) O.r1 O.r2
  have b := mulLo_le (k := x.m) O.m1 O.m2
  simp only [loOf, L4.ev, hs, Int.zero_mul]
  omega
theorem le_hiOf (O : ν.Ok T) {x : L4} (hs : x.s = 0) : x.ev ν ≤ hiOf T x := by
  have a := mulHi_le (k := x.r) O.r1 O.r2
  have b := mulHi_le (k := x.m) O.m1 O.m2
  simp only [hiOf, L4.ev, hs, Int.zero_mul]
  omega
theorem ev_sub {x y : L4} (e : x.s = y.s) : y.ev ν - x.ev ν = (L4.mk (y.c - x.c) (y.r - x.r) 0 (y.m - x.m)).ev ν := by
  simp only [L4.ev, Int.sub_mul, e, Int.zero_mul]
  omega
theorem less_rel (O : ν.Ok T) {x y : L4} {b : Bool} (e : less T x y = some b) : (x.ev ν < y.ev ν) ↔ b = true := by
  unfold less at e
  have qq := qIf e
  · have hs := qq.1; have e := qq.2; clear qq
    have hs := (eqB_iff _ _).mp hs
    have d := ev_sub (ν := ν) hs
    have lo := loOf_le O (x := ⟨y.c - x.c, y.r - x.r, 0, y.m - x.m⟩) rfl
    have hi := le_hiOf O (x := ⟨y.c - x.c, y.r - x.r, 0, y.m - x.m⟩) rfl
    split at e
    · rename_i h
      have := (ltB_iff _ _).mp h
      (revert h; apply q1 e; intro h)
      simp only [iff_true]; omega
    · have qq := qIf e
      · have h := qq.1; have e := qq.2; clear qq
        have := (leB_iff _ _).mp h
        (revert h; apply q1 e; intro h)
        simp only [Bool.false_eq_true, iff_false]; omega


theorem ltS_rel (O : ν.Ok T) {a b : SI} {x y : Int} {c : Bool} (e : ltS T a b = some c) (ha : a.rel ν x) (hb : b.rel ν y) : decide (x < y) = c := by
  have fin : ((x < y) ↔ c = true) → decide (x < y) = c := fun h => by
    cases c with
    | true => exact decide_eq_true (h.mpr rfl)
    | false => exact decide_eq_false fun q => by have := h.mp q; cases this
  apply fin
  unfold ltS at e
  split at e
  · first | exact qN e | exact qFT e | exact qTF e | exact qS e | cases e
    simp only [SI.rel] at ha hb
    subst ha hb
    exact (ltB_iff _ _).symm
  · split at e
    · rename_i u v eu ev
      rw [toL_rel eu ha, toL_rel ev hb]
      exact less_rel O e
    · cases e
theorem fmod_ne {a b r : Int} (hr : 0 < r) (h1 : a ≠ b) (h2 : -r < a - b) (h3 : a - b < r) : Int.fmod a r ≠ Int.fmod b r := fun e => by
  obtain ⟨p, hp⟩ := fmod_form a r
  obtain ⟨q, hq⟩ := fmod_form b r
  have d : a - b = (q - p) * r := by rw [Int.sub_mul]; omega
  have : q - p = 0 := by
    rcases Int.lt_trichotomy (q - p) 0 with h | h | h
    · have := Int.mul_le_mul_of_nonneg_right (show q - p ≤ -1 by omega) (Int.le_of_lt hr)
      omega
    · exact h
    · have := Int.mul_le_mul_of_nonneg_right (show 1 ≤ q - p by omega) (Int.le_of_lt hr)
      omega
  rw [this, Int.zero_mul] at d
  omega
theorem eqS_rel (O : ν.Ok T) {a b : SI} {x y : Int} {c : Bool} (e : eqS T a b = some c) (ha : a.rel ν x) (hb : b.rel ν y) : decide (x = y) = c := by
  have fin : ((x = y) ↔ c = true) → decide (x = y) = c := fun h => by
    cases c with
    | true => exact decide_eq_true (h.mpr rfl)
    | false => exact decide_eq_false fun q => by have := h.mp q; cases this
  apply fin
  have hr := O.r1
  unfold eqS at e
  split at e
  · first | exact qN e | exact qFT e | exact qTF e | exact qS e | cases e
    simp only [SI.rel] at ha hb
    subst ha hb
    exact (eqB_iff _ _).symm
  · rename_i c1 s1 m1 c2 s2 m2
    simp only [SI.rel] at ha hb
    subst ha hb
    split at e
    · rename_i h
      simp only [Bool.and_eq_true, eqB_iff] at h
      obtain ⟨rfl, rfl⟩ := h
      split at e
      · rename_i h
        have := (eqB_iff _ _).mp h
        subst this
        (revert h; apply q1 e; intro h)
        simp
      · rename_i hne
        have hne := eqB_false hne
        have qq := qIf e
        · have h := qq.1; have e := qq.2; clear qq
          simp only [Bool.and_eq_true, ltB_iff] at h
          (revert h; apply q1 e; intro h)
          simp only [Bool.false_eq_true, iff_false]
          exact fmod_ne (by omega) (by omega) (by omega) (by omega)

    · split at e
      · rename_i h0
        have hs := (eqB_iff _ _).mp h0
        subst hs
        split at e
        · rename_i h
          have lo := loOf_le O (x := ⟨c1 - c2, 0, 0, m1 - m2⟩) rfl
          have hi := le_hiOf O (x := ⟨c1 - c2, 0, 0, m1 - m2⟩) rfl
          have d : (L4.mk (c1 - c2) 0 0 (m1 - m2)).ev ν = (c1 + s1 * ν.seed + m1 * ν.many) - (c2 + s1 * ν.seed + m2 * ν.many) := by
            simp only [L4.ev, Int.sub_mul, Int.zero_mul]; omega
          simp only [Bool.or_eq_true, Bool.and_eq_true, ltB_iff] at h
          (revert h; apply q1 e; intro h)
          simp only [Bool.false_eq_true, iff_false]
          exact fmod_ne (by omega) (by omega) (by omega) (by omega)
        · cases e
      · cases e
  · split at e
    · rename_i u v eu ev
      have hx := toL_rel eu ha
      have hy := toL_rel ev hb
      split at e
      · rename_i h1 h2
        have := less_rel O h1
        have := less_rel O h2
        cases e
        simp only [Bool.false_eq_true, iff_false, iff_true] at *
        omega
      · rename_i h1
        have := less_rel O h1
        cases e
        simp only [Bool.false_eq_true, iff_false, iff_true] at *
        omega
      · rename_i h1 _
        have := less_rel O h1
        cases e
        simp only [Bool.false_eq_true, iff_false, iff_true] at *
        omega
      · exact qN e
    · cases e
theorem fmod_add_mul (x q r : Int) : Int.fmod (x + q * r) r = Int.fmod x r := Int.add_mul_fmod_self_right ..
theorem reduce_rel (O : ν.Ok T) (x : L4) (q : Int) : (reduce T x).rel ν (Int.fmod (x.c + x.s * ν.seed + x.m * ν.many + q * ν.ring) ν.ring) := by
  rw [fmod_add_mul]
  have hr := O.r1
  unfold reduce
  split
  · rename_i hs
    have hs := (eqB_iff _ _).mp hs
    have lo := loOf_le O (x := ⟨x.c, 0, 0, x.m⟩) rfl
    have hi := le_hiOf O (x := ⟨x.c, 0, 0, x.m⟩) rfl
    have d : (L4.mk x.c 0 0 x.m).ev ν = x.c + x.s * ν.seed + x.m * ν.many := by
      simp only [L4.ev, hs, Int.zero_mul]; omega
    split
    · rename_i h
      simp only [Bool.and_eq_true, ltB_iff, leB_iff] at h
      refine rel_eq (mkLin_rel _ _ _ _) ?_
      rw [Int.fmod_eq_emod_of_nonneg _ (by omega), Int.emod_eq_of_lt (by omega) (by omega), hs]
      simp only [Int.zero_mul]; omega
    · split
      · rename_i h
        simp only [Bool.and_eq_true, ltB_iff, leB_iff] at h
        simp only [SI.rel]
        rw [← fmod_add_mul _ 1, Int.fmod_eq_emod_of_nonneg _ (by omega), Int.emod_eq_of_lt (by omega) (by omega), hs]
        simp only [Int.zero_mul]; omega
      · simp [SI.rel, hs]
  · simp [SI.rel]
theorem modS_rel (O : ν.Ok T) {a b z : SI} {x y : Int} (e : modS T a b = some z) (ha : a.rel ν x) (hb : b.rel ν y) : y ≠ 0 ∧ z.rel ν (Int.fmod x y) := by
  have hr := O.r1
  unfold modS at e
  split at e
  · have qq := qIfN e

    · have h := qq.1; have e := qq.2; clear qq
      (revert h; apply q1 e; intro h)
      simp only [SI.rel] at ha hb ⊢
      subst ha hb
      exact ⟨eqB_false h, rfl⟩
  · have qq := qIf e
    · have h := qq.1; have e := qq.2; clear qq
      (revert h; apply q1 e; intro h)
      cases b with
      | lin c r s m =>
        simp only [isRing, Bool.and_eq_true, eqB_iff] at h
        obtain ⟨rfl, rfl, rfl, rfl⟩ := h
        simp only [SI.rel] at hb
        have : y = ν.ring := by omega
        subst this
        obtain ⟨q, hq⟩ := toP_rel ha
        rw [hq]
        exact ⟨by omega, reduce_rel O _ q⟩
      | _ => first | exact qN h | exact qFT h | exact qTF h | exact qS h | cases h

theorem divS_rel {a b z : SI} {x y : Int} (e : divS a b = some z) (ha : a.rel ν x) (hb : b.rel ν y) : (0 < y ∧ y < 1073741824) ∧ z.rel ν (Int.fdiv x y) := by
  unfold divS at e
  split at e
  · split at e
    · rename_i h
      simp only [Bool.and_eq_true, ltB_iff] at h
      (revert h; apply q1 e; intro h)
      simp only [SI.rel] at ha hb ⊢
      subst ha hb
      exact ⟨h, rfl⟩
    · exact qN e
  · cases e
theorem smallS_rel (O : ν.Ok T) {a : SI} {x : Int} (e : smallS T a = true) (ha : a.rel ν x) : -(2 ^ 60) < x ∧ x < 2 ^ 60 := by
  unfold smallS at e
  split at e
  · rename_i u eu
    simp only [Bool.and_eq_true, eqB_iff, ltB_iff] at e
    have lo := loOf_le O e.1
    have hi := le_hiOf O e.1
    have := toL_rel eu ha
    have hb : big = 2 ^ 60 := rfl
    rw [hb] at e
    omega
  · cases e
theorem mulS_rel (O : ν.Ok T) {a b z : SI} {x y : Int} (e : mulS T a b = some z) (ha : a.rel ν x) (hb : b.rel ν y) : (-(2 ^ 60) < x ∧ x < 2 ^ 60) ∧ (-(2 ^ 60) < y ∧ y < 2 ^ 60) ∧ z.rel ν (x * y) := by
  unfold mulS at e
  have qq := qIf e
  · have h := qq.1; have e := qq.2; clear qq
    simp only [Bool.and_eq_true] at h
    refine ⟨smallS_rel O h.1 ha, smallS_rel O h.2 hb, ?_⟩
    split at e
    · first | exact qN e | exact qFT e | exact qTF e | exact qS e | cases e
      simp only [SI.rel] at ha hb ⊢
      rw [ha, hb]
    · first | exact qN e | exact qFT e | exact qTF e | exact qS e | cases e
      simp only [SI.rel] at ha hb
      refine rel_eq (mkLin_rel _ _ _ _) ?_
      rw [ha, hb]
      simp only [Int.mul_add, Int.mul_assoc]
    · exact qN e

end Mine
-- M4
namespace Mine
open PySem PySem.W PySem.Calls PyProof.Rows

/-! own functions and the library's -/
theorem listEq_iff {α : Type} {f : α → α → Bool} (hf : ∀ a b, f a b = true ↔ a = b) : ∀ a b : List α, listEq f a b = true ↔ a = b := by
  intro a
  induction a with
  | nil =>
    intro b
    cases b with
    | nil => exact ⟨fun _ => rfl, fun _ => rfl⟩
    | cons => exact ⟨fun h => qFT h, fun h => nomatch h⟩
  | cons x a ih =>
    intro b
    cases b with
    | nil => exact ⟨fun h => qFT h, fun h => nomatch h⟩
    | cons y b =>
      show Bool.rec (motive := fun _ => Bool) false (listEq f a b) (f x y) = true ↔ _
      cases q : f x y with
      | true => exact (ih b).trans ⟨fun e => by rw [(hf _ _).mp q, e], fun e => (List.cons.inj e).2⟩
      | false => exact ⟨fun h => qFT h, fun e => qFT (q.symm.trans ((hf x y).mpr (List.cons.inj e).1))⟩
theorem natsEq_iff (a b : List Nat) : natsEq a b = true ↔ a = b := listEq_iff (fun _ _ => ⟨Nat.eq_of_beq_eq_true, fun e => e ▸ Nat.beq_refl _⟩) a b
theorem seq_iff (a b : Str) : seq a b = true ↔ a = b := by
  unfold seq
  rw [natsEq_iff]
  constructor
  · intro h
    obtain ⟨⟨l⟩⟩ := a
    obtain ⟨⟨r⟩⟩ := b
    simp at h
    rw [h]
  · intro h; rw [h]
theorem seq_false {a b : Str} (h : seq a b = false) : a ≠ b := fun e => by rw [(seq_iff a b).mpr e] at h; cases h

theorem lk_cons {α : Type} (k : Str) (w : α) (r : List (Str × α)) (y : Str) : lk ((k, w) :: r) y = if y = k then some w else lk r y := by
  show Bool.rec (motive := fun _ => Option α) (lk r y) (some w) (seq y k) = _
  by_cases e : y = k
  · rw [(seq_iff y k).mpr e, if_pos e]
  · cases q : seq y k with
    | true => exact absurd ((seq_iff _ _).mp q) e
    | false => rw [if_neg e]
theorem lk_eq {α : Type} : ∀ (l : List (Str × α)) (x : Str), lk l x = l.lookup x
  | [], _ => rfl
  | (k, v) :: r, x => by
    rw [lk_cons, List.lookup_cons]
    by_cases h : x = k
    · rw [if_pos h, beq_iff_eq.mpr h]
    · rw [if_neg h, beq_eq_false_iff_ne.mpr h]; exact lk_eq r x
theorem lk_nil {α : Type} (y : Str) : lk ([] : List (Str × α)) y = none := rfl
theorem putL_cons {α : Type} (k : Str) (w : α) (r : List (Str × α)) (x : Str) (v : α) : putL ((k, w) :: r) x v = if x = k then (k, v) :: r else (k, w) :: putL r x v := by
  show (match seq x k with | true => (k, v) :: r | false => (k, w) :: putL r x v) = _
  by_cases e : x = k
  · rw [(seq_iff x k).mpr e, if_pos e]
  · cases q : seq x k with
    | true => exact absurd ((seq_iff _ _).mp q) e
    | false => rw [if_neg e]
theorem lk_putL {α : Type} : ∀ (l : List (Str × α)) (x : Str) (v : α) (y : Str), lk (putL l x v) y = if y = x then some v else lk l y
  | [], x, v, y => by
    show lk [(x, v)] y = _
    rw [lk_cons]
  | (k, w) :: r, x, v, y => by
    rw [putL_cons]
    by_cases h : x = k
    · subst h
      rw [if_pos rfl, lk_cons, lk_cons]
      by_cases e : y = x <;> simp [e]
    · rw [if_neg h, lk_cons, lk_cons, lk_putL r x v y]
      by_cases e : y = k
      · subst e
        have : ¬ y = x := fun z => h z.symm
        simp [this]
      · simp [e]
theorem dropR_eq {α : Type} (l : List α) : ∀ n, dropR l n = l.drop n
  | 0 => rfl
  | n + 1 => by
    show tailL (dropR l n) = _
    rw [dropR_eq l n, ← List.tail_drop]
    cases l.drop n <;> rfl
theorem at_eq {α : Type} (l : List α) (i : Nat) : at? l i = l[i]? := by
  show List.rec (motive := fun _ => Option α) none (fun a _ _ => some a) (dropR l i) = _
  rw [dropR_eq, ← List.head?_drop]
  cases l.drop i <;> rfl
theorem at_succ {α : Type} (a : α) (l : List α) (i : Nat) : at? (a :: l) (i + 1) = at? l i := by rw [at_eq, at_eq]; rfl
theorem at_nil {α : Type} (i : Nat) : at? ([] : List α) i = none := by rw [at_eq]; rfl
theorem at_set {α : Type} : ∀ (l : List α) (i : Nat) (x : α) (j : Nat), at? (set? l i x) j = if j = i then (at? l j).map (fun _ => x) else at? l j
  | [], i, x, j => by
    show at? [] j = _
    rw [at_nil]
    by_cases h : j = i
    · rw [if_pos h]; rfl
    · rw [if_neg h]
  | a :: l, 0, x, 0 => rfl
  | a :: l, 0, x, j + 1 => by
    show at? (x :: l) (j + 1) = _
    rw [at_succ, at_succ]; rfl
  | a :: l, i + 1, x, 0 => rfl
  | a :: l, i + 1, x, j + 1 => by
    show at? (a :: set? l i x) (j + 1) = _
    rw [at_succ, at_succ, at_set l i x j]
    by_cases h : j = i
    · rw [if_pos h, if_pos (congrArg Nat.succ h)]
    · rw [if_neg h, if_neg fun q => h (Nat.succ.inj q)]
theorem len_set {α : Type} : ∀ (l : List α) (i : Nat) (x : α), (set? l i x).length = l.length
  | [], _, _ => rfl
  | _ :: _, 0, _ => rfl
  | _ :: l, i + 1, x => congrArg Nat.succ (len_set l i x)
theorem lenL_eq : ∀ l : AS, lenL l = l.length
  | [] => rfl
  | _ :: l => congrArg Nat.succ (lenL_eq l)
theorem appL_eq : ∀ l r : AS, appL l r = l ++ r
  | [], _ => rfl
  | a :: l, r => congrArg (a :: ·) (appL_eq l r)
theorem alloc_eq (σ : AS) (o : AO) : alloc σ o = (.own σ.length, σ ++ [o]) := by
  unfold alloc
  rw [lenL_eq, appL_eq]
theorem at_push {α : Type} (l : List α) (x : α) (i : Nat) : at? (l ++ [x]) i = if i = l.length then some x else at? l i := by
  rw [at_eq, at_eq]
  by_cases h : i = l.length
  · subst h; simp
  · simp only [h, if_false]
    by_cases q : i < l.length
    · rw [List.getElem?_append_left q]
    · rw [List.getElem?_eq_none (by simp; omega), List.getElem?_eq_none (by omega)]
theorem at_lt {α : Type} {l : List α} {i : Nat} {x : α} (h : at? l i = some x) : i < l.length := by
  rw [at_eq] at h
  exact (List.getElem?_eq_some_iff.mp h).1
theorem at_some {α : Type} {l : List α} {i : Nat} (h : i < l.length) : ∃ x, at? l i = some x := ⟨l[i], by rw [at_eq]; exact List.getElem?_eq_getElem h⟩

/-! the context, the relations -/
structure Cx where
  prog : Program
  w : World
  ν : Nu
  T : Tab
  B : Tabs
  K : Frag
  h₁ : Heap
noncomputable abbrev Cx.M (C : Cx) : Model := model C.prog C.w

noncomputable def bIn (lo hi : Option Int) (n : Int) : Prop := (∀ a, lo = some a → a ≤ n) ∧ (∀ b, hi = some b → n ≤ b)
inductive VRel (C : Cx) (ρ : List Addr) : AV → Value → Prop
  | none : VRel C ρ .none .none
  | bool (b : Bool) : VRel C ρ (.bool b) (.bool b)
  | int {e : SI} {n : Int} (t : Tok) : e.rel C.ν n → VRel C ρ (.int e) (.int n t)
  | str (s : Str) (t : Tok) : VRel C ρ (.str s) (.str s t)
  | bytes {e : SI} {a : Array UInt8} (t : Tok) : e.rel C.ν a.size → VRel C ρ (.bytes e) (.bytes a t)
  | glob (a : Addr) : VRel C ρ (.glob a) (.ref a)
  | own {i : Nat} {a : Addr} : at? ρ i = some a → VRel C ρ (.own i) (.ref a)
  | blt (id : String) : VRel C ρ (.blt id) (.builtin id)
  | typ (n : String) : VRel C ρ (.typ n) (.type n)
  | bnd {lo hi : Option Int} {n : Int} (t : Tok) : bIn lo hi n → VRel C ρ (.bnd lo hi n) (.int n t)
inductive VsRel (C : Cx) (ρ : List Addr) : List AV → List Value → Prop
  | nil : VsRel C ρ [] []
  | cons {a : AV} {v : Value} {l : List AV} {vs : List Value} : VRel C ρ a v → VsRel C ρ l vs → VsRel C ρ (a :: l) (v :: vs)

section
variable {C : Cx} {ρ : List Addr} {v : Value}
theorem VRel.cNone {P : Value → Prop} (h : VRel C ρ .none v) (k : P .none) : P v := by cases h; exact k
theorem VRel.cBool {b : Bool} {P : Value → Prop} (h : VRel C ρ (.bool b) v) (k : P (.bool b)) : P v := by cases h; exact k
theorem VRel.cInt {e : SI} {P : Value → Prop} (h : VRel C ρ (.int e) v) (k : ∀ n t, e.rel C.ν n → P (.int n t)) : P v := by
  cases h with
  | int t h => exact k _ t h
theorem VRel.cStr {x : Str} {P : Value → Prop} (h : VRel C ρ (.str x) v) (k : ∀ t, P (.str x t)) : P v := by
  cases h with
  | str _ t => exact k t
theorem VRel.cBytes {e : SI} {P : Value → Prop} (h : VRel C ρ (.bytes e) v) (k : ∀ a t, e.rel C.ν a.size → P (.bytes a t)) : P v := by
  cases h with
  | bytes t h => exact k _ t h
theorem VRel.cGlob {a : Nat} {P : Value → Prop} (h : VRel C ρ (.glob a) v) (k : P (.ref a)) : P v := by cases h; exact k
theorem VRel.cOwn {i : Nat} {P : Value → Prop} (h : VRel C ρ (.own i) v) (k : ∀ a, at? ρ i = some a → P (.ref a)) : P v := by
  cases h with
  | own h => exact k _ h
theorem VRel.cBlt {i : String} {P : Value → Prop} (h : VRel C ρ (.blt i) v) (k : P (.builtin i)) : P v := by cases h; exact k
theorem VRel.cTyp {i : String} {P : Value → Prop} (h : VRel C ρ (.typ i) v) (k : P (.type i)) : P v := by cases h; exact k
theorem VRel.cBnd {lo hi : Option Int} {n : Int} {P : Value → Prop} (h : VRel C ρ (.bnd lo hi n) v) (k : ∀ t, bIn lo hi n → P (.int n t)) : P v := by
  cases h with
  | bnd t h => exact k t h
theorem VsRel.cNil {vs : List Value} {P : List Value → Prop} (h : VsRel C ρ [] vs) (k : P []) : P vs := by cases h; exact k
theorem VsRel.cCons {a : AV} {l : List AV} {vs : List Value} {P : List Value → Prop} (h : VsRel C ρ (a :: l) vs) (k : ∀ v vs, VRel C ρ a v → VsRel C ρ l vs → P (v :: vs)) : P vs := by
  cases h with
  | cons h1 h2 => exact k _ _ h1 h2
theorem VRel.iInt {e : SI} (h : VRel C ρ (.int e) v) : ∃ n t, v = .int n t ∧ e.rel C.ν n := by apply h.cInt; exact fun n t h => ⟨n, t, rfl, h⟩
theorem VRel.iStr {x : Str} (h : VRel C ρ (.str x) v) : ∃ t, v = .str x t := by apply h.cStr; exact fun t => ⟨t, rfl⟩
theorem VRel.iBytes {e : SI} (h : VRel C ρ (.bytes e) v) : ∃ a t, v = .bytes a t ∧ e.rel C.ν a.size := by apply h.cBytes; exact fun n t h => ⟨n, t, rfl, h⟩
theorem VRel.iOwn {i : Nat} (h : VRel C ρ (.own i) v) : ∃ a, v = .ref a ∧ at? ρ i = some a := by apply h.cOwn; exact fun a h => ⟨a, rfl, h⟩
theorem VRel.iBnd {lo hi : Option Int} {n : Int} (h : VRel C ρ (.bnd lo hi n) v) : ∃ t, v = .int n t ∧ bIn lo hi n := by apply h.cBnd; exact fun t h => ⟨t, rfl, h⟩
theorem VsRel.iCons {a : AV} {l : List AV} {vs : List Value} (h : VsRel C ρ (a :: l) vs) : ∃ v r, vs = v :: r ∧ VRel C ρ a v ∧ VsRel C ρ l r := by apply h.cCons; exact fun v r h1 h2 => ⟨v, r, rfl, h1, h2⟩
end
section
variable {C : Cx} {ρ : List Addr} {x : AV} {v : Value} {P : Value → Prop}
theorem VRel.rNone {u : Unit} (e : vNone x = some u) (h : VRel C ρ x v) (k : P .none) : P v := by
  cases h with
  | none => exact k
  | _ => exact qN e
theorem VRel.rBool {b : Bool} (e : vBool x = some b) (h : VRel C ρ x v) (k : P (.bool b)) : P v := by
  cases h with
  | bool c => exact q1 (P := fun b => P (.bool b)) e.symm k
  | _ => exact qN e
theorem VRel.rInt {a : SI} (e : vInt x = some a) (h : VRel C ρ x v) (k : ∀ n t, a.rel C.ν n → P (.int n t)) : P v := by
  cases h with
  | int t h => cases e; exact k _ t h
  | _ => exact qN e
theorem VRel.rStr {a : Str} (e : vStr x = some a) (h : VRel C ρ x v) (k : ∀ t, P (.str a t)) : P v := by
  cases h with
  | str a t => cases e; exact k t
  | _ => exact qN e
theorem VRel.rBytes {a : SI} (e : vBytes x = some a) (h : VRel C ρ x v) (k : ∀ b t, a.rel C.ν b.size → P (.bytes b t)) : P v := by
  cases h with
  | bytes t h => cases e; exact k _ t h
  | _ => exact qN e
theorem VRel.rOwn {i : Nat} (e : vOwn x = some i) (h : VRel C ρ x v) (k : ∀ a, at? ρ i = some a → P (.ref a)) : P v := by
  cases h with
  | own h => cases e; exact k _ h
  | _ => exact qN e
theorem VRel.rBlt {i : String} (e : vBlt x = some i) (h : VRel C ρ x v) (k : P (.builtin i)) : P v := by
  cases h with
  | blt i => cases e; exact k
  | _ => exact qN e
theorem VRel.rTyp {i : String} (e : vTyp x = some i) (h : VRel C ρ x v) (k : P (.type i)) : P v := by
  cases h with
  | typ i => cases e; exact k
  | _ => exact qN e
theorem VRel.rBnd {b : Option Int × Option Int × Int} (e : vBnd x = some b) (h : VRel C ρ x v) (k : ∀ t, bIn b.1 b.2.1 b.2.2 → P (.int b.2.2 t)) : P v := by
  cases h with
  | bnd t h => cases e; exact k t h
  | _ => exact qN e
theorem VRel.rLit {n : Int} (e : vLit x = some n) (h : VRel C ρ x v) (k : ∀ t, P (.int n t)) : P v :=
  thenC e fun a e1 e2 => h.rInt e1 fun m t q => by
    revert q
    exact sLitC (P := fun a => a.rel C.ν m → _) e2 fun q => by
      have q : m = n := q
      exact q ▸ k t
theorem VRel.rNat {n : Nat} (e : vNat x = some n) (h : VRel C ρ x v) (k : ∀ t, P (.int (n : Int) t)) : P v :=
  thenC e fun m e1 e2 => h.rLit e1 fun t => by rw [iNat_eq e2]; exact k t
theorem VsRel.rNil {l : List AV} {u : Unit} {vs : List Value} {P : List Value → Prop} (e : nil? l = some u) (h : VsRel C ρ l vs) (k : P []) : P vs := by
  cases h with
  | nil => exact k
  | cons => exact qN e
theorem VsRel.rOne {l : List AV} {a : AV} {vs : List Value} {P : List Value → Prop} (e : one? l = some a) (h : VsRel C ρ l vs) (k : ∀ v, VRel C ρ a v → P [v]) : P vs := by
  revert h
  exact oneC (P := fun l => VsRel C ρ l vs → P vs) e fun h => h.cCons fun v r h1 h2 => by cases h2; exact k v h1
theorem VsRel.rTwo {l : List AV} {p : AV × AV} {vs : List Value} {P : List Value → Prop} (e : two? l = some p) (h : VsRel C ρ l vs) (k : ∀ v w, VRel C ρ p.1 v → VRel C ρ p.2 w → P [v, w]) : P vs := by
  revert h
  exact twoC (P := fun l => VsRel C ρ l vs → P vs) e fun h => h.cCons fun v r h1 h => h.cCons (P := fun r => P (v :: r)) fun w r h2 h3 => by cases h3; exact k v w h1 h2
theorem VsRel.rThree {l : List AV} {p : AV × AV × AV} {vs : List Value} {P : List Value → Prop} (e : three? l = some p) (h : VsRel C ρ l vs) (k : ∀ v w u, VRel C ρ p.1 v → VRel C ρ p.2.1 w → VRel C ρ p.2.2 u → P [v, w, u]) : P vs := by
  revert h
  exact threeC (P := fun l => VsRel C ρ l vs → P vs) e fun h => h.cCons fun v r h1 h => h.cCons (P := fun r => P (v :: r)) fun w r h2 h => h.cCons (P := fun r => P (v :: w :: r)) fun u r h3 h4 => by cases h4; exact k v w u h1 h2 h3
end
theorem at_app {α : Type} {l r : List α} {i : Nat} {x : α} (h : at? l i = some x) : at? (l ++ r) i = some x := by
  have := at_lt h
  rw [at_eq] at h ⊢
  rw [List.getElem?_append_left this]; exact h
theorem VRel.app {C : Cx} {ρ r : List Addr} {a : AV} {v : Value} (h : VRel C ρ a v) : VRel C (ρ ++ r) a v := by
  cases h with
  | own e => exact .own (at_app e)
  | int t e => exact .int t e
  | bytes t e => exact .bytes t e
  | bnd t e => exact .bnd t e
  | _ => constructor
theorem VsRel.app {C : Cx} {ρ r : List Addr} {l : List AV} {vs : List Value} (h : VsRel C ρ l vs) : VsRel C (ρ ++ r) l vs := by
  induction h with
  | nil => exact .nil
  | cons a _ ih => exact .cons a.app ih
theorem VsRel.length {C : Cx} {ρ : List Addr} {l : List AV} {vs : List Value} (h : VsRel C ρ l vs) : l.length = vs.length := by
  induction h with
  | nil => rfl
  | cons _ _ ih => simp [ih]
theorem VsRel.at {C : Cx} {ρ : List Addr} {l : List AV} {vs : List Value} (h : VsRel C ρ l vs) : ∀ {i : Nat} {a : AV}, at? l i = some a → ∃ v, vs[i]? = some v ∧ VRel C ρ a v := by
  induction h with
  | nil => intro i a e; rw [at_nil] at e; exact qN e
  | cons hv _ ih =>
    intro i a e
    cases i with
    | zero => cases e; exact ⟨_, rfl, hv⟩
    | succ i => exact ih (by rw [at_succ] at e; exact e)
theorem VsRel.push {C : Cx} {ρ : List Addr} {l : List AV} {vs : List Value} (h : VsRel C ρ l vs) {a : AV} {v : Value} (hv : VRel C ρ a v) : VsRel C ρ (l ++ [a]) (vs ++ [v]) := by
  induction h with
  | nil => exact .cons hv .nil
  | cons q _ ih => exact .cons q ih
theorem VsRel.append {C : Cx} {ρ : List Addr} {l l' : List AV} {vs vs' : List Value} (h : VsRel C ρ l vs) (h' : VsRel C ρ l' vs') : VsRel C ρ (l ++ l') (vs ++ vs') := by
  induction h with
  | nil => exact h'
  | cons q _ ih => exact .cons q ih
theorem VsRel.drop {C : Cx} {ρ : List Addr} {l : List AV} {vs : List Value} (h : VsRel C ρ l vs) : ∀ n, VsRel C ρ (l.drop n) (vs.drop n) := by
  induction h with
  | nil => intro n; simp; exact .nil
  | cons q r ih =>
    intro n
    cases n with
    | zero => exact .cons q r
    | succ n => exact ih n
theorem VsRel.set {C : Cx} {ρ : List Addr} {l : List AV} {vs : List Value} (h : VsRel C ρ l vs) {a : AV} {v : Value} (hv : VRel C ρ a v) : ∀ n, VsRel C ρ (set? l n a) (vs.set n v) := by
  induction h with
  | nil => intro n; exact .nil
  | cons q r ih =>
    intro n
    cases n with
    | zero => exact .cons hv r
    | succ n => exact .cons q (ih n)

/-- the entries of the dict of an object -/
noncomputable def FieldsRel (C : Cx) (ρ : List Addr) (kv : List (Str × AV)) (es : Array DictEntry) : Prop :=
  StrKeys es ∧ es.size ≤ kv.length ∧ ∀ x, match lk kv x with
    | none => nsFind es x = none
    | some v => ∃ val, nsFind es x = some val ∧ VRel C ρ v val
noncomputable def DictAt (h : Heap) (a : Addr) (es : Array DictEntry) : Prop := ∃ n, h.get? a = some { cls := .type "dict", data := .dict es n }
inductive ERel (C : Cx) (ρ : List Addr) {κ : Type} (P : κ → Int → Value → Prop) : List (κ × AV) → List DictEntry → Prop
  | nil : ERel C ρ P [] []
  | cons {k : κ} {v : AV} {e : DictEntry} {l : List (κ × AV)} {es : List DictEntry} : P k e.hash e.key → VRel C ρ v e.val → ERel C ρ P l es → ERel C ρ P ((k, v) :: l) (e :: es)
noncomputable def PlainTup (h : Heap) (a : Addr) (vs : List Value) : Prop := ∃ n, h.get? a = some { cls := .type "tuple", data := .seq vs.toArray n }
end Mine
-- M5
namespace Mine
open PySem PySem.W PySem.Calls PyProof.Rows

/-- a dict whose keys stand on the heap, the keys' objects left out -/
noncomputable def RawH (C : Cx) {κ : Type} [DecidableEq κ] (knd : HeapKind C.prog C.w κ) (h : Heap) (d : Addr) (xs : List (κ × Addr × Value)) : Prop :=
  ∃ es ep, h.get? d = some { cls := .type "dict", data := .dict es ep } ∧ es.toList = xs.map (entryOfKey knd) ∧ (xs.map (·.1)).Nodup
inductive KRel (C : Cx) (ρ : List Addr) {κ : Type} (key : Nat → Option κ) : List (κ × Nat × AV) → List (κ × Addr × Value) → Prop
  | nil : KRel C ρ key [] []
  | cons {k : κ} {i : Nat} {a : Addr} {v : AV} {x : Value} {l r} : key i = some k → at? ρ i = some a → VRel C ρ v x → KRel C ρ key l r → KRel C ρ key ((k, i, v) :: l) ((k, a, x) :: r)
inductive IRel (C : Cx) (ρ : List Addr) : List (Int × AV) → List (Int × Value) → Prop
  | nil : IRel C ρ [] []
  | cons {k : Int} {v : AV} {x : Value} {l r} : VRel C ρ v x → IRel C ρ l r → IRel C ρ ((k, v) :: l) ((k, x) :: r)

/-- tuples of things that stand on the heap, as keys -/
inductive AddrsAre {prog : Program} {w : World} {κ : Type} [DecidableEq κ] (knd : HeapKind prog w κ) (h : Heap) : List κ → List Value → Prop
  | nil : AddrsAre knd h [] []
  | cons {k : κ} {a : Addr} {ks : List κ} {vs : List Value} : knd.is h k a → AddrsAre knd h ks vs → AddrsAre knd h (k :: ks) (.ref a :: vs)
section
variable {prog : Program} {w : World} {κ : Type} [DecidableEq κ] {knd : HeapKind prog w κ} {h h' : Heap}
theorem AddrsAre.inj {x y : List κ} {vs : List Value} (hx : AddrsAre knd h x vs) (hy : AddrsAre knd h y vs) : x = y := by
  induction hx generalizing y with
  | nil => cases hy; rfl
  | cons h1 _ ih =>
    cases hy with
    | cons h2 t2 => rw [knd.inj h1 h2, ih t2]
theorem AddrsAre.length {x : List κ} {vs : List Value} (hx : AddrsAre knd h x vs) : x.length = vs.length := by
  induction hx with
  | nil => rfl
  | cons _ _ ih => simp [ih]
noncomputable def IsTupOf (knd : HeapKind prog w κ) (h : Heap) (ks : List κ) (a : Addr) : Prop := ∃ o items n, h.get? a = some o ∧ o.cls = .type "tuple" ∧ o.data = .seq items n ∧ AddrsAre knd h ks items.toList
theorem IsTupOf.typeIs {s : Shared} {ks : List κ} {a : Addr} (x : IsTupOf knd s.heap ks a) : s.TypeIs (.ref a) "tuple" := let ⟨o, _, _, ho, hc, _⟩ := x; ⟨o, ho, hc⟩
theorem IsTupOf.inj {a : Addr} {x y : List κ} (hx : IsTupOf knd h x a) (hy : IsTupOf knd h y a) : x = y := by
  ((refine x3a4 (hx) (fun o items n ho _ hd hi => ?_)))
  ((refine x3a4 (hy) (fun o' items' n' ho' _ hd' hi' => ?_)))
  obtain rfl : o = o' := Option.some.inj (ho.symm.trans ho')
  rw [hd] at hd'
  injection hd' with h1 _
  subst h1
  exact hi.inj hi'
theorem AddrsAre.keeps {d : Addr} {o : Obj} {es ep} (ho : h.get? d = some o) (hd : o.data = .dict es ep) (hs : Heap.SameBut d h h') {x : List κ} {vs : List Value} (hx : AddrsAre knd h x vs) : AddrsAre knd h' x vs := by
  induction hx with
  | nil => exact .nil
  | cons h1 _ ih => exact .cons (knd.keeps h1 ho hd hs) ih
theorem IsTupOf.keeps {ks : List κ} {a d : Addr} {o : Obj} {es ep} (x : IsTupOf knd h ks a) (ho : h.get? d = some o) (hd : o.data = .dict es ep) (hs : Heap.SameBut d h h') : IsTupOf knd h' ks a := by
  ((refine x3a4 (x) (fun o' items n ho' hc hd' hi => ?_)))
  have hne : a ≠ d := by
    rintro rfl
    obtain rfl : o' = o := Option.some.inj (ho'.symm.trans ho)
    rw [hd] at hd'; exact nomatch hd'
  exact ⟨o', items, n, (hs.2 a hne).trans ho', hc, hd', hi.keeps ho hd hs⟩
noncomputable def tupOfHash (knd : HeapKind prog w κ) (ks : List κ) : Int := reduceHash (Builtin.Tuple.tupleHashOf (ks.map knd.hash))
noncomputable def tupOfDraws (knd : HeapKind prog w κ) : List κ → Nat
  | [] => 0
  | k :: r => knd.draws k + tupOfDraws knd r

variable {A : Around} {E : Value → Shared → Prop} {s : Shared}

theorem pyHash_tupOf {ks : List κ} {a : Addr} {Q : Int → Shared → Prop} (hu : A.units < cLine) (hu2 : knd.room A.in1) (hk : IsTupOf knd s.heap ks a) (h : Q (tupOfHash knd ks) { s with toks := s.toks + (tupOfDraws knd ks + 1) }) :
    wpAny (model prog w) A (pyHash (.ref a)) Q E s := by
  have hT := hk.typeIs
  ((refine x3a4 (hk) (fun o items n ho _ hd hi => ?_)))
  unfold pyHash
  first | unfold pyHashByItsType | skip
  first | refine wpAny_bind (wpAny_cRoomFor_or (.inr hu) ?_) | skip
  refine wpAny_bind (wpAny_specialOf hT F.slot_tuple_hash.lookup ?_)
  show wpAny _ _ (if (some (Value.builtin "tuple.__hash__") == some Value.none) = true then _ else _) Q E s
  rw [if_neg (by rw [beq_builtin_none]; exact Bool.false_ne_true)]
  refine wpAny_bind (wpAny_specialOf hT F.slot_tuple_hash.lookup ?_)
  show wpAny _ _ (callSpecialIfBoundUnlessNone? (.ref a) "__hash__" _ >>= _) Q E s
  refine wpAny_bind (wpAny_callSpecialIfBoundUnlessNone?_slot hT F.slot_tuple_hash (wpAny_call_entry F.slot_tuple_hash hT F.entry_tuple_hash ?_ (F.args_tuple_hash_1 _)))
  show wpAny _ _ (Builtin.Tuple.tupleItemsOf (.ref a) >>= _) _ _ s
  refine wpAny_bind (wpAny_tupleItemsOf ho hd ?_)
  refine wpAny_bind ?_
  rw [← Array.forIn_toList]
  refine wpAny_forIn_list _
    (fun rest (b : Array Int) s' => ∃ done left, ks = done ++ left ∧ AddrsAre knd s.heap left rest ∧ b.toList = done.map knd.hash ∧ s' = { s with toks := s.toks + tupOfDraws knd done })
    _ ?_ ?_ _ _ ⟨[], ks, rfl, hi, rfl, rfl⟩
  · rintro x rest b s' ⟨done, left, rfl, hl, hb, rfl⟩
    cases hl with
    | @cons k a' ks' _ h1 hl' =>
      have e : ∀ d : List κ, tupOfDraws knd (d ++ [k]) = tupOfDraws knd d + knd.draws k := fun d => by
        induction d with
        | nil => simp [tupOfDraws]
        | cons y r ih => simp [tupOfDraws, ih, Nat.add_assoc]
      refine wpAny_bind (knd.pyHash (s := { s with toks := s.toks + tupOfDraws knd done }) hu2 h1 ?_)
      first
        | exact wpAny_pure ⟨done ++ [k], ks', by simp, hl', by simp [hb], by rw [e, Nat.add_assoc]⟩
        | exact wpAny_bind (wpAny_pure (wpAny_pure ⟨done ++ [k], ks', by simp, hl', by simp [hb], by rw [e, Nat.add_assoc]⟩))
  · rintro b s' ⟨done, left, rfl, hl, hb, rfl⟩
    cases hl
    rw [List.append_nil] at h
    show wpAny _ _ (retInt (Builtin.Tuple.tupleHashOf b.toList)) _ _ _
    rw [hb]
    refine wpAny_ret_mkInt ?_
    show wpAny _ _ (if (decide (-(2 : Int) ^ 63 ≤ Builtin.Tuple.tupleHashOf (done.map knd.hash)) && decide (Builtin.Tuple.tupleHashOf (done.map knd.hash) < 2 ^ 63)) = true then _ else _) Q E _
    unfold tupOfHash reduceHash at h
    by_cases hr : (decide (-(2 : Int) ^ 63 ≤ Builtin.Tuple.tupleHashOf (done.map knd.hash)) && decide (Builtin.Tuple.tupleHashOf (done.map knd.hash) < 2 ^ 63)) = true
    · rw [if_pos hr]
      rw [if_pos hr] at h
      exact wpAny_pure (by simpa [Nat.add_assoc] using h)
    · rw [if_neg hr]
      rw [if_neg hr] at h
      exact wpAny_bind (wpAny_rule (wpAny_pure (by simpa [Nat.add_assoc] using h)))

/-- what is left to be looked at, and what the whole answers -/
inductive EqInv (knd : HeapKind prog w κ) (h : Heap) (B L : Bool) : List (Value × Value) → Prop
  | mk {x y : List κ} {xs ys : List Value} : AddrsAre knd h x xs → AddrsAre knd h y ys → decide (x = y) = B → (xs.length == ys.length) = L → EqInv knd h B L (List.zip xs ys)
theorem EqInv.step {B L : Bool} {u v : Value} {rest : List (Value × Value)} (I : EqInv knd h B L ((u, v) :: rest)) : ∃ k1 k2 a1 a2, u = .ref a1 ∧ v = .ref a2 ∧ knd.is h k1 a1 ∧ knd.is h k2 a2 ∧ (k1 = k2 → EqInv knd h B L rest) ∧ (k1 ≠ k2 → B = false) := by
  generalize hz : (u, v) :: rest = l at I
  cases I with
  | mk hx hy hd hl =>
    cases hx with
    | nil => cases hz
    | @cons k1 a1 x xs h1 hx =>
      cases hy with
      | nil => cases hz
      | @cons k2 a2 y ys h2 hy =>
        have z := List.cons.inj hz
        have z1 := Prod.mk.inj z.1
        refine ⟨k1, k2, a1, a2, z1.1, z1.2, h1, h2, fun e => ?_, fun e => ?_⟩
        · rw [z.2]
          refine .mk hx hy ?_ (by simpa using hl)
          rw [← hd]
          exact decide_eq_decide.mpr ⟨fun q => by rw [e, q], fun q => (List.cons.inj q).2⟩
        · rw [← hd]; exact decide_eq_false fun q => e (List.cons.inj q).1
theorem EqInv.last {B L : Bool} (I : EqInv knd h B L []) : L = B := by
  generalize hz : ([] : List (Value × Value)) = l at I
  cases I with
  | mk hx hy hd hl =>
    cases hx with
    | nil =>
      cases hy with
      | nil => exact hl.symm.trans hd
      | cons => exact hl.symm.trans hd
    | cons =>
      cases hy with
      | nil => exact hl.symm.trans hd
      | cons => cases hz
theorem eq_tupOf {x y : List κ} {a b : Addr} {P : Fin → Shared → Prop} (hu : knd.room A) (hx : IsTupOf knd s.heap x a) (hy : IsTupOf knd s.heap y b) (h : P (.done (.ret (.bool (decide (x = y))))) s) :
    wpAny (model prog w) A (Builtin.«tuple.__eq__» ⟨[.ref a, .ref b], []⟩) P E s := by
  have hTb := hy.typeIs
  obtain ⟨oa, xs, na, hoa, _, hda, hia⟩ := hx
  obtain ⟨ob, ys, nb, hob, _, hdb, hib⟩ := hy
  generalize hB : decide (x = y) = B at h
  show wpAny _ _ (isInstance (.ref b) (.type "tuple") >>= _) _ _ s
  refine wpAny_bind (wpAny_isInstance hTb isSubtype_tuple_tuple ?_)
  show wpAny _ _ (if (!true) = true then _ else _) _ _ _
  rw [if_neg (by decide)]
  refine wpAny_bind (wpAny_tupleItemsOf hoa hda (wpAny_bind (wpAny_tupleItemsOf hob hdb (wpAny_bind ?_))))
  refine wpAny_forIn_list _ (fun rest r s' => r.1 = none ∧ s' = s ∧ EqInv knd s.heap B (xs.size == ys.size) rest) _ ?_ ?_ _ _ ⟨rfl, rfl, .mk hia hib hB (by simp)⟩
  · rintro ⟨u, v⟩ rest r s' ⟨hr, rfl, I⟩
    obtain ⟨k1, k2, a1, a2, e1, e2, h1, h2, q1, q2⟩ := I.step
    subst e1 e2
    refine wpAny_bind (knd.eqBool hu h1 h2 ?_)
    by_cases hk : k1 = k2
    · rw [decide_eq_true hk]
      exact wpAny_pure ⟨rfl, rfl, q1 hk⟩
    · rw [decide_eq_false hk]
      exact wpAny_bind (wpAny_pure (wpAny_pure (wpAny_pure (q2 hk ▸ h))))
  · rintro ⟨r1, r2⟩ s' ⟨hr, rfl, I⟩
    have hr : r1 = none := hr
    subst hr
    exact wpAny_pure (show P (.done (.ret (.bool (xs.size == ys.size)))) s' from I.last ▸ h)

theorem eqBool_tupOf {x y : List κ} {a b : Addr} {Q : Bool → Shared → Prop} (hu : A.units < cLine) (hr : knd.room A.in1) (hx : IsTupOf knd s.heap x a) (hy : IsTupOf knd s.heap y b) (h : Q (decide (x = y)) s) :
    wpAny (model prog w) A (eqBool (.ref a) (.ref b)) Q E s := by
  unfold eqBool
  try with_reducible refine wpAny_holding ?_
  show wpAny _ _ (if (Value.ref a == Value.ref b) = true then _ else _) Q E s
  by_cases hab : (Value.ref a == Value.ref b) = true
  · rw [if_pos hab]
    have e : a = b := by have := eq_of_beq hab; injection this
    subst e
    obtain rfl := hx.inj hy
    exact wpAny_bind (wpAny_rule (wpAny_pure (by simpa using h)))
  · rw [if_neg hab]
    exact wpAny_bind (wpAny_richCompare_same_room (op := .Eq) hx.typeIs hy.typeIs F.slot_tuple_eq
      (wpAny_call_entry F.slot_tuple_eq hx.typeIs F.entry_tuple_eq (eq_tupOf hr hx hy ⟨_, rfl, (fun e => nomatch e), wpAny_truthy_bool h⟩) (F.args_tuple_eq_2 _ _)) hu)

/-- what asks nothing of the program's own to be compared, n deep -/
noncomputable def QuietAt (knd : HeapKind prog w κ) (n : Nat) : Prop := ∀ {A : Around} {E : Value → Shared → Prop} {s : Shared} {k : κ} {a : Addr} {Q : Bool → Shared → Prop}, knd.is s.heap k a → Q true s → wpAny (model prog w) A (eqIsQuiet n (.ref a)) Q E s
theorem quiet_tupOf {n : Nat} (hq : QuietAt knd n) {ks : List κ} {a : Addr} {Q : Bool → Shared → Prop} (hk : IsTupOf knd s.heap ks a) (h : Q true s) : wpAny (model prog w) A (eqIsQuiet (n + 1) (.ref a)) Q E s := by
  have hT := hk.typeIs
  ((refine x3a4 (hk) (fun o items m ho _ hd hi => ?_)))
  unfold eqIsQuiet
  refine wpAny_bind (wpAny_specialOf hT F.slot_tuple_eq.lookup ?_)
  show wpAny _ _ (isInstance (.ref a) (.type "tuple") >>= _) _ _ s
  refine wpAny_bind (wpAny_isInstance hT isSubtype_tuple_tuple ?_)
  simp only [Bool.not_true, Bool.false_eq_true, if_false]
  refine wpAny_bind (wpAny_seqItems ho hd ?_)
  refine wpAny_bind ?_
  show wpAny _ _ (forIn items _ _) _ _ s
  rw [← Array.forIn_toList]
  refine wpAny_forIn_list _ (fun rest r s' => r.1 = none ∧ s' = s ∧ ∃ ks, AddrsAre knd s.heap ks rest) _ ?_ ?_ _ _ ⟨rfl, rfl, _, hi⟩
  · rintro v rest r s' ⟨hr, rfl, ks, hall⟩
    cases hall with
    | cons h1 h2 =>
      refine wpAny_bind (hq h1 ?_)
      simp only [Bool.not_true, Bool.false_eq_true, if_false]
      exact wpAny_pure ⟨rfl, rfl, _, h2⟩
  · rintro ⟨r1, r2⟩ s' ⟨hr, rfl, _⟩
    simp only at hr
    subst hr
    exact wpAny_pure h
end

section
variable {prog : Program} {w : World}
theorem quiet_tuple {κ : Type} [DecidableEq κ] (knd : KeyKind prog w κ) (n : Nat) : QuietAt (tupleKind knd) (n + 1) := by
  intro A E s ks a Q hk h
  have hk : IsTupleKey knd s.heap ks a := hk
  have hT := hk.typeIs
  ((refine x3a4 (hk) (fun o items m ho _ hd hi => ?_)))
  unfold eqIsQuiet
  refine wpAny_bind (wpAny_specialOf hT F.slot_tuple_eq.lookup ?_)
  show wpAny _ _ (isInstance (.ref a) (.type "tuple") >>= _) _ _ s
  refine wpAny_bind (wpAny_isInstance hT isSubtype_tuple_tuple ?_)
  simp only [Bool.not_true, Bool.false_eq_true, if_false]
  refine wpAny_bind (wpAny_seqItems ho hd ?_)
  refine wpAny_bind ?_
  show wpAny _ _ (forIn items _ _) _ _ s
  rw [← Array.forIn_toList]
  refine wpAny_forIn_list _ (fun rest r s' => r.1 = none ∧ s' = s ∧ ∀ v ∈ rest, carriedByValue v = true) _ ?_ ?_ _ _ ⟨rfl, rfl, hi.byValue⟩
  · rintro v rest r s' ⟨hr, rfl, hall⟩
    rw [eqIsQuiet_byValue _ (hall v List.mem_cons_self)]
    refine wpAny_bind (wpAny_pure ?_)
    simp only [Bool.not_true, Bool.false_eq_true, if_false]
    exact wpAny_pure ⟨rfl, rfl, fun u hu' => hall u (List.mem_cons_of_mem _ hu')⟩
  · rintro ⟨r1, r2⟩ s' ⟨hr, rfl, _⟩
    simp only at hr
    subst hr
    exact wpAny_pure h

/-- strs in a tuple; ints in tuples in a tuple -/
noncomputable abbrev sKnd (prog : Program) (w : World) : HeapKind prog w (List Str) := tupleKind (strKind prog w)
noncomputable abbrev iKnd (prog : Program) (w : World) : HeapKind prog w (List Int) := tupleKind (intKind prog w)
noncomputable def pKnd (prog : Program) (w : World) : HeapKind prog w (List (List Int)) where
  is := IsTupOf (iKnd prog w)
  hash := tupOfHash (iKnd prog w)
  draws := fun ks => tupOfDraws (iKnd prog w) ks + 1
  room := fun A => A.units + 1 < cLine
  inj := fun hx hy => hx.inj hy
  keeps := fun x ho hd hs => x.keeps ho hd hs
  pyHash := fun hu hk h => pyHash_tupOf (by omega) hu hk h
  eqBool := fun hu hx hy h => eqBool_tupOf (by omega) hu hx hy h
  quiet := fun hk h => quiet_tupOf (quiet_tuple _ 6) hk h
end
end Mine
-- M6
namespace Mine
open PySem PySem.W PySem.Calls PyProof.Rows

/-- what the law draws from two numbers -/
noncomputable def seedMod : Int := 2147483647
noncomputable def nextSeed (y : Int) : Int := Int.fmod (y * 39373 + 7) seedMod
noncomputable def Tape : Int → Int → List (Nat × Nat) → Prop
  | x, y, [] => 0 ≤ x ∧ 0 ≤ y ∧ y < seedMod
  | x, y, (t, r) :: tp => 0 ≤ x ∧ 0 ≤ y ∧ y < seedMod ∧ (t = 2 ∨ t = 3 ∨ t = 5 ∨ t = 91 ∨ t = 200) ∧ ((0 < x ∧ (r : Int) = Int.fmod x t ∧ Tape (Int.fdiv x t) y tp) ∨ (x = 0 ∧ (r : Int) = Int.fmod (Int.fdiv (Int.fmod (nextSeed y * nextSeed y) 2147483629) 32) t ∧ Tape x (nextSeed y) tp))
section
variable (C : Cx) (ρ : List Addr) (σ : AS)
noncomputable def ORel : AO → Addr → Heap → Prop
  | .inst c d, a, h => ∃ da, at? ρ d = some da ∧ h.get? a = some (instObj c da)
  | .fields kv, a, h => ∃ es, DictAt h a es ∧ FieldsRel C ρ kv es
  | .list xs, a, h => ∃ vs, h.PlainList a vs ∧ VsRel C ρ xs vs.toList
  | .tup xs, a, h => ∃ vs, PlainTup h a vs ∧ VsRel C ρ xs vs ∧ xs ≠ []
  | .idict kv, a, h => ∃ kvs, h.DictOf (intKind C.prog C.w) a kvs ∧ IRel C ρ kv kvs
  | .pdict kv, a, h => ∃ xs, RawH C (pKnd C.prog C.w) h a xs ∧ KRel C ρ (pkey σ) kv xs
  | .sdict kv, a, h => ∃ xs, RawH C (sKnd C.prog C.w) h a xs ∧ KRel C ρ (skey σ) kv xs
  | .barr, a, h => ∃ n, h.get? a = some { cls := .type "bytearray", data := .bytearray #[] n }
  | .rng n, a, h => ∃ t u v, IsRange h a 0 n 1 t u v
  | .flist xs vs n, a, h => h.get? a = some { cls := .type "list", data := .seq vs.toArray n } ∧ VsRel C ρ xs vs ∧ vs.length < 4096
  | .src tp, a, h => ∃ x y t u, h.PlainList a #[.int x t, .int y u] ∧ Tape x y tp
end

/-- what stands between an abstract state and a heap -/
structure Rel (C : Cx) (ρ : List Addr) (σ : AS) (h : Heap) : Prop where
  len : ρ.length = σ.length
  nodup : ρ.Nodup
  new : ∀ a ∈ ρ, C.h₁.objs.size ≤ a
  base : ∀ b o, C.h₁.get? b = some o → h.get? b = some o
  objs : ∀ i o a, at? σ i = some o → at? ρ i = some a → ORel C ρ σ o a h

structure Ext (X : Addr → Prop) (ρ : List Addr) (s : Shared) (ρ' : List Addr) (s' : Shared) : Prop where
  pre : ∃ r, ρ' = ρ ++ r
  new : ∀ a ∈ ρ', a ∈ ρ ∨ s.heap.get? a = none ∨ X a
  alive : ∀ b o, s.heap.get? b = some o → ¬ X b → ∃ o', s'.heap.get? b = some o'
  keep : ∀ b o, s.heap.get? b = some o → b ∉ ρ → ¬ X b → s'.heap.get? b = some o
  gens : s'.gens = s.gens
  drawn : s'.drawn = s.drawn
  os : s'.os = s.os
theorem Ext.refl {X : Addr → Prop} {ρ : List Addr} {s : Shared} : Ext X ρ s ρ s :=
  ⟨⟨[], by simp⟩, fun a h => .inl h, fun _ o e _ => ⟨o, e⟩, fun _ _ e _ _ => e, rfl, rfl, rfl⟩
theorem Ext.trans {X : Addr → Prop} {ρ ρ' ρ'' : List Addr} {s s' s'' : Shared} (a : Ext X ρ s ρ' s') (b : Ext X ρ' s' ρ'' s'') : Ext X ρ s ρ'' s'' := by
  ((refine x1a1 (a.pre) (fun r hr => ?_)))
  ((refine x1a1 (b.pre) (fun r' hr' => ?_)))
  refine ⟨⟨r ++ r', by rw [hr', hr, List.append_assoc]⟩, fun x hx => ?_, fun y o e hx => let ⟨_, e'⟩ := a.alive y o e hx; b.alive y _ e' hx, fun y o e h1 h2 => ?_, b.gens.trans a.gens, b.drawn.trans a.drawn, b.os.trans a.os⟩
  · rcases b.new x hx with h | h | h
    · exact a.new x h
    · by_cases q : X x
      · exact .inr (.inr q)
      · right; left
        cases e : s.heap.get? x with
        | none => rfl
        | some o => ((refine x1a1 (a.alive x o e q) (fun o' e' => ?_))); rw [h] at e'; cases e'
    · exact .inr (.inr h)
  · refine b.keep y o (a.keep y o e h1 h2) (fun hm => ?_) h2
    rcases a.new y hm with h | h | h
    · exact h1 h
    · rw [e] at h; cases h
    · exact h2 h
theorem Ext.weaken {X Y : Addr → Prop} {ρ ρ' : List Addr} {s s' : Shared} (a : Ext X ρ s ρ' s') (h : ∀ b, X b → Y b) : Ext Y ρ s ρ' s' :=
  ⟨a.pre, fun x hx => (a.new x hx).imp id (Or.imp id (h x)), fun b o e hb => a.alive b o e fun q => hb (h b q), fun b o e h1 h2 => a.keep b o e h1 fun q => h2 (h b q), a.gens, a.drawn, a.os⟩
/-- what is put aside was not there -/
theorem Ext.fresh {X Y : Addr → Prop} {ρ ρ' : List Addr} {s s' : Shared} (a : Ext X ρ s ρ' s') (h : ∀ b, X b → Y b ∨ s.heap.get? b = none) : Ext Y ρ s ρ' s' :=
  ⟨a.pre, fun x hx => by
    rcases a.new x hx with q | q | q
    · exact .inl q
    · exact .inr (.inl q)
    · rcases h x q with z | z
      · exact .inr (.inr z)
      · exact .inr (.inl z),
   fun b o e hb => a.alive b o e fun q => (h b q).elim hb fun z => (by rw [e] at z; cases z),
   fun b o e h1 h2 => a.keep b o e h1 fun q => (h b q).elim h2 fun z => (by rw [e] at z; cases z), a.gens, a.drawn, a.os⟩
noncomputable abbrev NoX : Addr → Prop := fun _ => False
theorem Ext.tok {X : Addr → Prop} {ρ : List Addr} {s : Shared} (t : Nat) : Ext X ρ s ρ { s with toks := t } :=
  ⟨⟨[], by simp⟩, fun a h => .inl h, fun _ o e _ => ⟨o, e⟩, fun _ _ e _ _ => e, rfl, rfl, rfl⟩
/-- what stood stands -/
theorem Ext.kept {X : Addr → Prop} {ρ : List Addr} {s : Shared} {h' : Heap} {t : Nat} (k : ∀ b o, s.heap.get? b = some o → h'.get? b = some o) : Ext X ρ s ρ { s with heap := h', toks := t } :=
  ⟨⟨[], by simp⟩, fun a h => .inl h, fun b o e _ => ⟨o, k b o e⟩, fun b o e _ _ => k b o e, rfl, rfl, rfl⟩
/-- what stood stands, but for what is put aside -/
theorem Ext.but {X : Addr → Prop} {ρ : List Addr} {s : Shared} {h' : Heap} {t : Nat} (k : ∀ b o, ¬ X b → s.heap.get? b = some o → h'.get? b = some o) : Ext X ρ s ρ { s with heap := h', toks := t } :=
  ⟨⟨[], by simp⟩, fun a h => .inl h, fun b o e hb => ⟨o, k b o hb e⟩, fun b o e _ hb => k b o hb e, rfl, rfl, rfl⟩

theorem KRel.app {C : Cx} {ρ r : List Addr} {κ : Type} {key key' : Nat → Option κ} (hk : ∀ i k, key i = some k → key' i = some k) {l : List (κ × Nat × AV)} {xs : List (κ × Addr × Value)} (h : KRel C ρ key l xs) : KRel C (ρ ++ r) key' l xs := by
  induction h with
  | nil => exact .nil
  | cons a b c _ ih => exact .cons (hk _ _ a) (at_app b) c.app ih
theorem IRel.app {C : Cx} {ρ r : List Addr} {l : List (Int × AV)} {xs : List (Int × Value)} (h : IRel C ρ l xs) : IRel C (ρ ++ r) l xs := by
  induction h with
  | nil => exact .nil
  | cons a _ ih => exact .cons a.app ih
theorem FieldsRel.app {C : Cx} {ρ r : List Addr} {kv : List (Str × AV)} {es : Array DictEntry} (h : FieldsRel C ρ kv es) : FieldsRel C (ρ ++ r) kv es := by
  refine ⟨h.1, h.2.1, fun x => ?_⟩
  have := h.2.2 x
  revert this
  cases lk kv x with
  | none => exact id
  | some v => exact fun ⟨val, a, b⟩ => ⟨val, a, b.app⟩

/-- a change that touches no tuple leaves the keys -/
noncomputable def TupsIn (σ σ' : AS) : Prop := ∀ i xs, at? σ i = some (.tup xs) → at? σ' i = some (.tup xs)
theorem tupLits_mono {σ σ' : AS} (t : TupsIn σ σ') : ∀ (l : List AV) (r : List (List Int)), tupLits σ l = some r → tupLits σ' l = some r
  | [], r, h => h
  | .own i :: l, r, h => by
    unfold tupLits at h ⊢
    split at h
    · rename_i xs e
      rw [t _ _ e]
      dsimp only
      split at h
      · rename_i a b e1 e2
        rw [e1, tupLits_mono t l _ e2]; exact h
      · cases h
    · cases h
  | .none :: _, _, h => by cases h
  | .bool _ :: _, _, h => by cases h
  | .int _ :: _, _, h => by cases h
  | .str _ :: _, _, h => by cases h
  | .bytes _ :: _, _, h => by cases h
  | .glob _ :: _, _, h => by cases h
  | .blt _ :: _, _, h => by cases h
  | .typ _ :: _, _, h => by cases h
theorem pkey_mono {σ σ' : AS} (t : TupsIn σ σ') (i : Nat) (k : List (List Int)) (h : pkey σ i = some k) : pkey σ' i = some k := by
  unfold pkey at h ⊢
  split at h
  · rename_i xs e
    rw [t _ _ e]
    dsimp only
    split at h
    · cases h
    · exact tupLits_mono t _ _ h
  · cases h
theorem skey_mono {σ σ' : AS} (t : TupsIn σ σ') (i : Nat) (k : List Str) (h : skey σ i = some k) : skey σ' i = some k := by
  unfold skey at h ⊢
  split at h
  · rename_i xs e
    rw [t _ _ e]
    exact h
  · cases h
theorem TupsIn.push (σ : AS) (l : List AO) : TupsIn σ (σ ++ l) := fun i xs h => at_app h
theorem TupsIn.set {σ : AS} {j : Nat} {o o' : AO} (h : at? σ j = some o) (hn : ∀ xs, o ≠ .tup xs) : TupsIn σ (set? σ j o') := fun i xs e => by
  rw [at_set]
  by_cases q : i = j
  · subst q
    rw [h] at e; cases e
    exact absurd rfl (hn _)
  · rw [if_neg q]; exact e

/-- an object's relation through a change of the heap that keeps it -/
theorem ORel.keep {C : Cx} {ρ r : List Addr} {σ σ' : AS} {o : AO} {a : Addr} {h h' : Heap} (R : ORel C ρ σ o a h) (t : TupsIn σ σ') (hk : ∀ x, h.get? a = some x → h'.get? a = some x) : ORel C (ρ ++ r) σ' o a h' := by
  cases o with
  | inst c d => ((refine x1a2 (R) (fun da e g => ?_))); exact ⟨da, at_app e, hk _ g⟩
  | fields kv => ((refine x1a2 (R) (fun es qt1 f => ?_)); (refine x1a1 (qt1) (fun n g => ?_))); exact ⟨es, ⟨n, hk _ g⟩, f.app⟩
  | list xs => ((refine x1a2 (R) (fun vs qt2 f => ?_)); (refine x1a1 (qt2) (fun n g => ?_))); exact ⟨vs, ⟨n, hk _ g⟩, f.app⟩
  | tup xs => ((refine x1a3 (R) (fun vs qt3 f z => ?_)); (refine x1a1 (qt3) (fun n g => ?_))); exact ⟨vs, ⟨n, hk _ g⟩, f.app, z⟩
  | idict kv => ((refine x1a2 (R) (fun kvs qt4 f => ?_)); (refine x3a2 (qt4) (fun o es ep g q => ?_))); exact ⟨kvs, ⟨o, es, ep, hk _ g, q⟩, f.app⟩
  | pdict kv => ((refine x1a2 (R) (fun xs qt5 f => ?_)); (refine x2a2 (qt5) (fun es ep g q => ?_))); exact ⟨xs, ⟨es, ep, hk _ g, q⟩, f.app (pkey_mono t)⟩
  | sdict kv => ((refine x1a2 (R) (fun xs qt6 f => ?_)); (refine x2a2 (qt6) (fun es ep g q => ?_))); exact ⟨xs, ⟨es, ep, hk _ g, q⟩, f.app (skey_mono t)⟩
  | barr => ((refine x1a1 (R) (fun n g => ?_))); exact ⟨n, hk _ g⟩
  | rng n => ((refine x3a1 (R) (fun t' u v g => ?_))); exact ⟨t', u, v, hk _ g⟩
  | flist xs vs n => ((refine x0a3 (R) (fun g f z => ?_))); exact ⟨hk _ g, f.app, z⟩
  | src tp => ((refine x4a2 (R) (fun x y t' u qt7 f => ?_)); (refine x1a1 (qt7) (fun n g => ?_))); exact ⟨x, y, t', u, ⟨n, hk _ g⟩, f⟩

theorem nodup_at {l : List Addr} (hn : l.Nodup) {i j : Nat} {a : Addr} (hi : at? l i = some a) (hj : at? l j = some a) : i = j := by
  rw [at_eq] at hi hj
  exact (List.getElem?_inj (List.getElem?_eq_some_iff.mp hi).1 hn).mp (hi.trans hj.symm)
theorem mem_at {l : List Addr} {i : Nat} {a : Addr} (hi : at? l i = some a) : a ∈ l := by
  rw [at_eq] at hi
  exact List.mem_of_getElem? hi
theorem at_mem {l : List Addr} {a : Addr} (h : a ∈ l) : ∃ i, at? l i = some a := by
  ((refine x1a1 (List.getElem?_of_mem h) (fun i hi => ?_)))
  exact ⟨i, by rw [at_eq]; exact hi⟩

namespace Rel
variable {C : Cx} {ρ : List Addr} {σ : AS} {h : Heap}
theorem addr (R : Rel C ρ σ h) {i : Nat} {o : AO} (e : at? σ i = some o) : ∃ a, at? ρ i = some a ∧ ORel C ρ σ o a h := by
  ((first | refine x1a1 (at_some (l := ρ) (i := i) (by rw [R.len]; exact at_lt e)) (fun a ha => ?_) | refine x0a2 (at_some (l := ρ) (i := i) (by rw [R.len]; exact at_lt e)) (fun a ha => ?_)))
  exact ⟨a, ha, R.objs i o a e ha⟩
/-- the heap changed outside of what is ours -/
theorem heap (R : Rel C ρ σ h) {h' : Heap} (k : ∀ a x, a ∈ ρ → h.get? a = some x → h'.get? a = some x) (b : ∀ b o, C.h₁.get? b = some o → h'.get? b = some o) : Rel C ρ σ h' :=
  ⟨R.len, R.nodup, R.new, b, fun i o a e ha => by
    have := (R.objs i o a e ha).keep (r := []) (fun _ _ e => e) (h' := h') fun x hx => k a x (mem_at ha) hx
    rwa [List.append_nil] at this⟩
theorem keeps (R : Rel C ρ σ h) {h' : Heap} (k : ∀ b o, h.get? b = some o → h'.get? b = some o) : Rel C ρ σ h' := R.heap (fun a x _ e => k a x e) fun b o e => k b o (R.base b o e)
theorem notBase (R : Rel C ρ σ h) {a : Addr} (ha : a ∈ ρ) {b : Addr} {o : Obj} (e : C.h₁.get? b = some o) : b ≠ a := fun q => by
  have := R.new a ha
  have := Heap.lt_size e
  rw [q] at this
  exact absurd this (Nat.not_lt.mpr ‹_›)
theorem at_heap (R : Rel C ρ σ h) {a : Addr} (ha : a ∈ ρ) : ∃ o, h.get? a = some o := by
  ((refine x1a1 (at_mem ha) (fun i hi => ?_)))
  ((first | refine x1a1 (at_some (l := σ) (i := i) (by rw [← R.len]; exact at_lt hi)) (fun o ho => ?_) | refine x0a2 (at_some (l := σ) (i := i) (by rw [← R.len]; exact at_lt hi)) (fun o ho => ?_)))
  have q := R.objs i o a ho hi
  cases o with
  | inst c d => ((refine x1a2 (q) (fun da e g => ?_))); exact ⟨_, g⟩
  | fields kv => ((refine x1a2 (q) (fun es qt8 f => ?_)); (refine x1a1 (qt8) (fun n g => ?_))); exact ⟨_, g⟩
  | list xs => ((refine x1a2 (q) (fun vs qt9 f => ?_)); (refine x1a1 (qt9) (fun n g => ?_))); exact ⟨_, g⟩
  | tup xs => ((refine x1a2 (q) (fun vs qt10 f => ?_)); (refine x1a1 (qt10) (fun n g => ?_))); exact ⟨_, g⟩
  | idict kv => ((refine x1a2 (q) (fun kvs qt11 f => ?_)); (refine x3a2 (qt11) (fun o es ep g _ => ?_))); exact ⟨_, g⟩
  | pdict kv => ((refine x1a2 (q) (fun xs qt12 f => ?_)); (refine x2a2 (qt12) (fun es ep g _ => ?_))); exact ⟨_, g⟩
  | sdict kv => ((refine x1a2 (q) (fun xs qt13 f => ?_)); (refine x2a2 (qt13) (fun es ep g _ => ?_))); exact ⟨_, g⟩
  | barr => ((refine x1a1 (q) (fun n g => ?_))); exact ⟨_, g⟩
  | rng n => ((refine x3a1 (q) (fun t u v g => ?_))); exact ⟨_, g⟩
  | flist xs vs n => ((refine x0a2 (q) (fun g _ => ?_))); exact ⟨_, g⟩
  | src tp => ((refine x4a2 (q) (fun x y t u qt14 _ => ?_)); (refine x1a1 (qt14) (fun n g => ?_))); exact ⟨_, g⟩
theorem lt (R : Rel C ρ σ h) {a : Addr} (ha : a ∈ ρ) : a < h.objs.size := let ⟨_, e⟩ := R.at_heap ha; Heap.lt_size e
/-- one more object of ours -/
theorem push (R : Rel C ρ σ h) {a : Addr} {o : AO} {h' : Heap} (hs : h.objs.size ≤ a) (hb : C.h₁.objs.size ≤ h.objs.size) (k : ∀ b o, h.get? b = some o → h'.get? b = some o)
    (ho : ORel C (ρ ++ [a]) (σ ++ [o]) o a h') : Rel C (ρ ++ [a]) (σ ++ [o]) h' := by
  have hna : a ∉ ρ := fun q => absurd (R.lt q) (Nat.not_lt.mpr hs)
  refine ⟨by simp [R.len], ?_, fun x hx => ?_, fun b o e => k b o (R.base b o e), fun i x b ei eb => ?_⟩
  · exact List.nodup_append.mpr ⟨R.nodup, by simp, fun x hx y hy e => by
      obtain rfl := List.mem_singleton.mp hy; exact hna (e ▸ hx)⟩
  · rcases List.mem_append.mp hx with q | q
    · exact R.new x q
    · obtain rfl := List.mem_singleton.mp q; exact Nat.le_trans hb hs
  · rw [at_push] at ei eb
    rw [R.len] at eb
    by_cases q : i = σ.length
    · rw [if_pos q] at ei eb; cases ei; cases eb; exact ho
    · rw [if_neg q] at ei eb
      exact (R.objs i x b ei eb).keep (TupsIn.push _ _) fun x hx => k b x hx
/-- one of ours is changed -/
theorem set (R : Rel C ρ σ h) {j : Nat} {a : Addr} {o o' : AO} {h' : Heap} (ej : at? σ j = some o) (ea : at? ρ j = some a) (hn : ∀ xs, o ≠ .tup xs) (hs : Heap.SameBut a h h')
    (ho : ORel C ρ (set? σ j o') o' a h') : Rel C ρ (set? σ j o') h' := by
  refine ⟨by rw [len_set, R.len], R.nodup, R.new, fun b x e => (hs.2 b (R.notBase (mem_at ea) e)).trans (R.base b x e), fun i x b ei eb => ?_⟩
  rw [at_set] at ei
  by_cases q : i = j
  · subst q
    rw [if_pos rfl, ej] at ei
    (apply q1 ei)
    rw [ea] at eb; cases eb; exact ho
  · rw [if_neg q] at ei
    have hne : b ≠ a := fun z => q (nodup_at R.nodup (z ▸ eb) ea)
    have := (R.objs i x b ei eb).keep (r := []) (TupsIn.set ej hn (o' := o')) (h' := h') fun x hx => (hs.2 b hne).trans hx
    rwa [List.append_nil] at this
end Rel
theorem Ext.set {C : Cx} {σ : AS} {X : Addr → Prop} {ρ : List Addr} {s : Shared} {a : Addr} {h' : Heap} {t : Nat} (R : Rel C ρ σ h') (ha : a ∈ ρ) (hs : Heap.SameBut a s.heap h') : Ext X ρ s ρ { s with heap := h', toks := t } :=
  ⟨⟨[], by simp⟩, fun a h => .inl h, fun b o e _ => by
    by_cases q : b = a
    · subst q; exact R.at_heap ha
    · exact ⟨o, (hs.2 b q).trans e⟩, fun b o e h1 _ => (hs.2 b fun q => h1 (q ▸ ha)).trans e, rfl, rfl, rfl⟩
theorem Ext.push {X : Addr → Prop} {ρ : List Addr} {s : Shared} {a : Addr} {h' : Heap} {t : Nat} (ha : s.heap.get? a = none) (k : ∀ b o, s.heap.get? b = some o → h'.get? b = some o) : Ext X ρ s (ρ ++ [a]) { s with heap := h', toks := t } :=
  ⟨⟨[a], rfl⟩, fun b h => by
    rcases List.mem_append.mp h with q | q
    · exact .inl q
    · obtain rfl := List.mem_singleton.mp q; exact .inr (.inl ha), fun b o e _ => ⟨o, k b o e⟩, fun b o e _ _ => k b o e, rfl, rfl, rfl⟩
end Mine
-- M7
namespace Mine
open PySem PySem.W PySem.Calls PyProof.Rows PyProof PyProof.V

structure Ok (C : Cx) : Prop where
  ν : C.ν.Ok C.T
  low : sysModules < C.h₁.objs.size
  last : ∃ b o, C.h₁.get? b = some o ∧ C.h₁.objs.size = b + 1
theorem Rel.low {C : Cx} {ρ : List Addr} {σ : AS} {h : Heap} (O : Ok C) (R : Rel C ρ σ h) : C.h₁.objs.size ≤ h.objs.size := by
  ((refine x2a2 (O.last) (fun b o e z => ?_)))
  have := Heap.lt_size (R.base b o e)
  rw [z]; exact this

/-- a free name of a comprehension is a cell's, seen from the frame around it -/
noncomputable def KindRel (a b : Option NameKind) : Prop := a = b ∨ (a = some .cell ∧ b = some .free)
/-- the frame at hand -/
structure FrameOk (C : Cx) (env : Env) (ns : List (Str × NameKind)) (ρ : List Addr) (l : Loc) (h : Heap) : Prop where
  kind : env.scope.kind = .function
  names : ∀ x, KindRel (lk env.scope.names x) (lk ns x)
  fine : ∀ x k, lk ns x = some k → (x == ("__debug__" : Str)) = false ∧ (x == ("__classdict__" : Str)) = false
  gl : env.globals = mainGlobals
  bl : env.builtins = builtinsNs
  loc : ∃ m, h.Ns env.locals m ∧ ∀ x v, lk l x = some v → lk ns x = some .local → ∃ val, m x = some val ∧ VRel C ρ v val
  cell : ∀ x, lk ns x = some .cell ∨ lk ns x = some .free → ∃ c v₀, env.cells.lookup x = some c ∧ h.IsCell c v₀ ∧ ∀ v, lk l x = some v → ∃ val, v₀ = some val ∧ VRel C ρ v val
  apart : ∀ x y c, env.cells.lookup x = some c → env.cells.lookup y = some c → x = y
  outL : env.locals ∉ ρ
  outC : ∀ x c, lk ns x = some .cell ∨ lk ns x = some .free → env.cells.lookup x = some c → c ∉ ρ ∧ c ≠ env.locals
  oldL : C.h₁.objs.size ≤ env.locals
  oldC : ∀ x c, lk ns x = some .cell ∨ lk ns x = some .free → env.cells.lookup x = some c → C.h₁.objs.size ≤ c
/-- what a statement of the frame may change beside what is ours -/
noncomputable def FX (env : Env) (ns : List (Str × NameKind)) : Addr → Prop := fun b => b = env.locals ∨ ∃ x, lk ns x = some .cell ∧ env.cells.lookup x = some b

noncomputable def Room (A : Around) (d : Nat) : Prop := A.depth + 4 * d + 40 ≤ 1000 ∧ A.units + 20 * d + 100 ≤ 9900 ∧ A.handled = none
theorem Room.less {A : Around} {d d' : Nat} (r : Room A d) (h : d' ≤ d) : Room A d' := ⟨by have := r.1; omega, by have := r.2.1; omega, r.2.2⟩
theorem Room.in1 {A : Around} {d : Nat} (r : Room A (d + 1)) : Room A.in1 d := ⟨by have := r.1; simp only [Around.in1_depth]; omega, by have := r.2.1; simp only [Around.in1_units]; omega, r.2.2⟩
theorem Room.units {A : Around} {d : Nat} (r : Room A d) : A.units + 70 < cLine := by have := r.2.1; unfold cLine; omega
theorem Room.depth {A : Around} {d : Nat} (r : Room A d) : A.depth + 20 < recursionLimit := by have := r.1; unfold recursionLimit; omega

section
variable {C : Cx} {env : Env} {ns : List (Str × NameKind)} {ρ ρ' : List Addr} {l : Loc} {s s' : Shared}
theorem notin_of_ext {X : Addr → Prop} (x : Ext X ρ s ρ' s') {b : Addr} {o : Obj} (h1 : b ∉ ρ) (h2 : s.heap.get? b = some o) (h3 : ¬ X b) : b ∉ ρ' := fun q => by
  rcases x.new b q with h | h | h
  · exact h1 h
  · rw [h2] at h; cases h
  · exact h3 h
theorem FrameOk.ext {X : Addr → Prop} (F : FrameOk C env ns ρ l s.heap) (x : Ext X ρ s ρ' s') (hX : ∀ b, X b → b ≠ env.locals ∧ ∀ y, lk ns y = some .cell ∨ lk ns y = some .free → env.cells.lookup y ≠ some b) : FrameOk C env ns ρ' l s'.heap := by
  ((refine x1a1 (x.pre) (fun r hr => ?_)))
  ((refine x1a2 (F.loc) (fun m hm hl => ?_)))
  have hL : ∀ o, s.heap.get? env.locals = some o → s'.heap.get? env.locals = some o := fun o e => x.keep _ _ e F.outL fun q => (hX _ q).1 rfl
  have hc : ∀ y c, lk ns y = some .cell ∨ lk ns y = some .free → env.cells.lookup y = some c → ∀ o, s.heap.get? c = some o → s'.heap.get? c = some o := fun y c hy e o g => x.keep _ _ g (F.outC y c hy e).1 fun q => (hX _ q).2 y hy e
  refine ⟨F.kind, F.names, F.fine, F.gl, F.bl, ⟨m, ?_, fun y v e k => ?_⟩, fun y hy => ?_, F.apart, (let ⟨_, _, _, e, _⟩ := hm; notin_of_ext x F.outL e fun q => (hX _ q).1 rfl), fun y c hy e => ⟨?_, (F.outC y c hy e).2⟩, F.oldL, F.oldC⟩
  · ((refine x3a2 (hm) (fun o es ep g q => ?_)))
    exact ⟨o, es, ep, hL o g, q⟩
  · ((refine x1a2 (hl y v e k) (fun val a b => ?_)))
    exact ⟨val, a, by rw [hr]; exact b.app⟩
  · ((refine x2a3 (F.cell y hy) (fun c v₀ e qt1 q => ?_)); (refine x1a2 (qt1) (fun o g d => ?_)))
    exact ⟨c, v₀, e, ⟨o, hc y c hy e o g, d⟩, fun v hv => by obtain ⟨val, a, b⟩ := q v hv; exact ⟨val, a, by rw [hr]; exact b.app⟩⟩
  · ((refine x2a3 (F.cell y hy) (fun c' v₀ e' g q => ?_)))
    rw [e] at e'; cases e'
    ((refine x1a2 (g) (fun _ g' _ => ?_)))
    exact notin_of_ext x (F.outC y c hy e).1 g' fun q => (hX _ q).2 y hy e
theorem FrameOk.extE (F : FrameOk C env ns ρ l s.heap) (x : Ext NoX ρ s ρ' s') : FrameOk C env ns ρ' l s'.heap := F.ext x fun _ q => q.elim
end

/-! arithmetic -/
section
variable {C : Cx} {A : Around} {E : Value → Shared → Prop} {s : Shared} {ρ : List Addr}

theorem intMulOk {x y : Int} (h : -(2 ^ 60) < x ∧ x < 2 ^ 60) : IntMulOk x y := IntMulOk.of_left (intBits_le_64 (by omega) (by omega))
theorem intO_some {o : Option SI} {v : AV} (e : intO o = some v) : ∃ z, o = some z ∧ v = .int z := by
  cases o with
  | none => exact qN e
  | some z => cases e; exact ⟨z, rfl, rfl⟩
theorem leOf (O : Ok C) {a b : SI} {x y : Int} (e : yes (notO (ltS C.T a b)) = true) (hx : a.rel C.ν x) (hy : b.rel C.ν y) : y ≤ x := by
  cases hc : ltS C.T a b with
  | none => rw [hc] at e; cases e
  | some c =>
    have h1 := ltS_rel O.ν hc hx hy
    rw [hc] at e
    cases c with
    | true => first | exact qN e | exact qFT e | exact qTF e | exact qS e | cases e
    | false => have := of_decide_eq_false h1; omega
theorem leOf' (O : Ok C) {a b : SI} {x y : Int} (e : leS C.T a b = true) (hx : a.rel C.ν x) (hy : b.rel C.ν y) : x ≤ y := by
  unfold leS at e
  cases hc : ltS C.T b a with
  | none => rw [hc] at e; cases e
  | some c =>
    have h1 := ltS_rel O.ν hc hy hx
    rw [hc] at e
    cases c with
    | true => first | exact qN e | exact qFT e | exact qTF e | exact qS e | cases e
    | false => have := of_decide_eq_false h1; omega
theorem toBC {x : AV} {a : Value} {b : Option Int × Option Int × Int} {P : Value → Prop} (e : toB x = some b) (h : VRel C ρ x a) (k : ∀ t, bIn b.1 b.2.1 b.2.2 → P (.int b.2.2 t)) : P a :=
  orC e (fun e => thenC e fun n e1 e2 => by
    cases e2
    exact h.rLit (P := P) e1 fun t => k t ⟨fun _ q => by cases q; exact Int.le_refl _, fun _ q => by cases q; exact Int.le_refl _⟩) fun e => h.rBnd (P := P) e k
theorem toB_rel {x : AV} {a : Value} {b : Option Int × Option Int × Int} (e : toB x = some b) (h : VRel C ρ x a) : ∃ t, a = .int b.2.2 t ∧ bIn b.1 b.2.1 b.2.2 :=
  toBC (P := fun a => ∃ t, a = .int b.2.2 t ∧ bIn b.1 b.2.1 b.2.2) e h fun t h => ⟨t, rfl, h⟩
theorem addOC {a b : Option Int} {c : Int} {P : Prop} (e : addO a b = some c) (k : ∀ x y, a = some x → b = some y → x + y = c → P) : P :=
  thenC e fun x e1 e => thenC e fun y e2 e => k x y e1 e2 (Option.some.inj e)
theorem subOC {a b : Option Int} {c : Int} {P : Prop} (e : subO a b = some c) (k : ∀ x y, a = some x → b = some y → x - y = c → P) : P :=
  thenC e fun x e1 e => thenC e fun y e2 e => k x y e1 e2 (Option.some.inj e)
theorem mulOC {a b : Option Int} {c : Int} {P : Prop} (e : mulO a b = some c) (k : ∀ x y, a = some x → b = some y → x * y = c → P) : P :=
  thenC e fun x e1 e => thenC e fun y e2 e => k x y e1 e2 (Option.some.inj e)
theorem bIn_add {l1 g1 l2 g2 : Option Int} {n1 n2 : Int} (h1 : bIn l1 g1 n1) (h2 : bIn l2 g2 n2) : bIn (addO l1 l2) (addO g1 g2) (n1 + n2) :=
  ⟨fun a q => addOC q fun x y e1 e2 e3 => e3 ▸ Int.add_le_add (h1.1 _ e1) (h2.1 _ e2), fun a q => addOC q fun x y e1 e2 e3 => e3 ▸ Int.add_le_add (h1.2 _ e1) (h2.2 _ e2)⟩
theorem bIn_sub {l1 g1 l2 g2 : Option Int} {n1 n2 : Int} (h1 : bIn l1 g1 n1) (h2 : bIn l2 g2 n2) : bIn (subO l1 g2) (subO g1 l2) (n1 - n2) :=
  ⟨fun a q => subOC q fun x y e1 e2 e3 => e3 ▸ Int.sub_le_sub (h1.1 _ e1) (h2.2 _ e2), fun a q => subOC q fun x y e1 e2 e3 => e3 ▸ Int.sub_le_sub (h1.2 _ e1) (h2.1 _ e2)⟩
theorem bIn_mul {l1 g1 l2 g2 : Option Int} {n1 n2 : Int} (h1 : bIn l1 g1 n1) (h2 : bIn l2 g2 n2) (p1 : 0 ≤ n1) (p2 : 0 ≤ n2) : bIn (some 0) (mulO g1 g2) (n1 * n2) :=
  ⟨fun a q => by cases q; exact Int.mul_nonneg p1 p2, fun a q => mulOC q fun x y e1 e2 e3 => e3 ▸ Int.mul_le_mul (h1.2 _ e1) (h2.2 _ e2) p2 (Int.le_trans p1 (h1.2 _ e1))⟩
theorem leB_of {a b : Int} (h : leB a b = true) : a ≤ b := by
  unfold leB at h
  cases q : ltB b a with
  | true => rw [q] at h; cases h
  | false =>
    have := ltB_iff b a
    rw [q] at this
    have : ¬ b < a := fun z => by have := this.mpr z; cases this
    omega
theorem litB_of {lo hi : Option Int} {m n : Int} (h : litB lo hi = some m) (hb : bIn lo hi n) : n = m :=
  thenC h fun a e1 e => thenC e fun b e2 e => whenC e fun q e => by
    cases e
    exact Int.le_antisymm ((eqB_iff _ _).mp q ▸ hb.2 _ e2) (hb.1 _ e1)
theorem geO_of {lo hi : Option Int} {k n : Int} (h : geO k lo = true) (hb : bIn lo hi n) : k ≤ n := by
  cases lo with
  | some a => exact Int.le_trans (leB_of h) (hb.1 _ rfl)
  | none => exact qFT h
theorem leO_of {lo hi : Option Int} {k n : Int} (h : leO k hi = true) (hb : bIn lo hi n) : n ≤ k := by
  cases hi with
  | some a => exact Int.le_trans (hb.2 _ rfl) (leB_of h)
  | none => exact qFT h
theorem and2 {a b : Bool} {P : Prop} (h : a.and b = true) (k : a = true → b = true → P) : P := k (Bool.and_eq_true_iff.mp h).1 (Bool.and_eq_true_iff.mp h).2
theorem and3 {a b c : Bool} {P : Prop} (h : a.and (b.and c) = true) (k : a = true → b = true → c = true → P) : P := and2 h fun h1 h => and2 h (k h1)
theorem bnd_int {op : Operator} {bx by_ : Option Int × Option Int × Int} {v : AV} {t u : Tok} {Q : Value → Shared → Prop} (h1 : bIn bx.1 bx.2.1 bx.2.2) (h2 : bIn by_.1 by_.2.1 by_.2.2) (e : bndBin op bx by_ = some v)
    (h : ∀ val t, VRel C ρ v val → Q val { s with toks := t }) : wpAny C.M A (binaryOp op (.int bx.2.2 t) (.int by_.2.2 u)) Q E s := by
  cases op with
  | Add => revert h; apply Mine.q1 e; intro h; exact add_int (h _ _ (.bnd _ (bIn_add h1 h2)))
  | Sub => revert h; apply Mine.q1 e; intro h; exact sub_int (h _ _ (.bnd _ (bIn_sub h1 h2)))
  | Mult =>
    exact whenC (b := (geO 0 bx.1).and ((geO 0 by_.1).and ((leO 576460752303423488 bx.2.1).or (leO 576460752303423488 by_.2.1)))) e fun q e => and3 q fun q1 q2 q3 => by
      (revert h; apply Mine.q1 e; intro h)
      have p1 := geO_of q1 h1
      have p2 := geO_of q2 h2
      exact mul_int (h _ _ (.bnd _ (bIn_mul h1 h2 p1 p2))) ((Bool.or_eq_true_iff.mp q3).elim
        (fun z => IntMulOk.of_left (intBits_le_64 (by omega) (by have := leO_of z h1; omega))) fun z => IntMulOk.of_right (intBits_le_64 (by omega) (by have := leO_of z h2; omega)))
  | Mod =>
    exact thenC e fun m hm e => whenC e fun hq e => by
      (revert h; apply Mine.q1 e; intro h)
      have hp := (ltB_iff _ _).mp hq
      have z := litB_of hm h2
      rw [z]
      exact mod_int' (by omega) (h _ _ (by rw [z]; exact .bnd _ ⟨fun a q => by cases q; exact Int.fmod_nonneg_of_pos _ hp, fun b q => by cases q; exact Int.le_sub_one_of_lt (Int.fmod_lt_of_pos _ hp)⟩))
  | FloorDiv =>
    exact thenC e fun m hm e => whenC e fun hq e => and3 hq fun q1 q2 q3 => by
      (revert h; apply Mine.q1 e; intro h)
      have hp := (ltB_iff _ _).mp q1
      have hp2 := (ltB_iff _ _).mp q2
      have z := litB_of hm h2
      rw [z]
      exact floordiv_int (by omega) (h _ _ (by rw [z]; exact .bnd _ ⟨fun a q => by cases q; exact Int.fdiv_nonneg (geO_of q3 h1) (by omega), fun b q => by cases q⟩)) (.inl (noPylong_small (by omega)))
  | _ => exact qN e
theorem bnd_sound {op : Operator} {x y v : AV} {a b : Value} {bx by_ : Option Int × Option Int × Int} {Q : Value → Shared → Prop} (ex : toB x = some bx) (ey : toB y = some by_) (hx : VRel C ρ x a) (hy : VRel C ρ y b) (e : bndBin op bx by_ = some v)
    (h : ∀ val t, VRel C ρ v val → Q val { s with toks := t }) : wpAny C.M A (binaryOp op a b) Q E s :=
  toBC (P := fun a => wpAny C.M A (binaryOp op a b) Q E s) ex hx fun t h1 => toBC (P := fun b => wpAny C.M A (binaryOp op _ b) Q E s) ey hy fun u h2 => bnd_int h1 h2 e h
theorem binI_sound (O : Ok C) {op : Operator} {x y : SI} {v : AV} {n m : Int} {t u : Tok} {Q : Value → Shared → Prop} (e : binI C.T op x y = some v) (hx : x.rel C.ν n) (hy : y.rel C.ν m)
    (h : ∀ val t, VRel C ρ v val → Q val { s with toks := t }) : wpAny C.M A (binaryOp op (.int n t) (.int m u)) Q E s := by
  have two : ∀ {P : Int → Int → Prop} {k l : Int}, sLit x = some k → sLit y = some l → P k l → P n m := fun {P k l} e1 e2 p => by
    have a : n = k := sLitC (P := fun x => x.rel C.ν n → n = k) e1 (fun h => h) hx
    have b : m = l := sLitC (P := fun x => x.rel C.ν m → m = l) e2 (fun h => h) hy
    exact a ▸ b ▸ p
  have lit : ∀ {k : Int} (t : Tok), VRel C ρ (.int (.lit k)) (.int k t) := fun t => .int t (show SI.rel C.ν (.lit _) _ by simp [SI.rel])
  cases op with
  | Add => revert h; apply Mine.q1 e; intro h; exact add_int (h _ _ (.int _ (addS_rel hx hy)))
  | Sub => revert h; apply Mine.q1 e; intro h; exact sub_int (h _ _ (.int _ (subS_rel hx hy)))
  | Mult =>
    exact x1a2 (intO_some e) fun z hz q => by
      have k := mulS_rel O.ν hz hx hy
      exact mul_int (h _ _ (q ▸ .int _ k.2.2)) (intMulOk k.1)
  | Mod =>
    exact x1a2 (intO_some e) fun z hz q => by
      have k := modS_rel O.ν hz hx hy
      exact mod_int' k.1 (h _ _ (q ▸ .int _ k.2))
  | FloorDiv =>
    exact x1a2 (intO_some e) fun z hz q => by
      have k := divS_rel hz hx hy
      exact floordiv_int (by have := k.1; omega) (h _ _ (q ▸ .int _ k.2)) (.inl (noPylong_small (by have := k.1; omega)))
  | BitAnd =>
    exact thenC e fun k e1 e => thenC e fun l e2 e => by
      (revert h; apply Mine.q1 e; intro h)
      exact two (P := fun n m => wpAny C.M A (binaryOp .BitAnd (.int n t) (.int m u)) Q E s) e1 e2 (and_int (h _ _ (lit _)))
  | BitOr =>
    exact thenC e fun k e1 e => thenC e fun l e2 e => by
      (revert h; apply Mine.q1 e; intro h)
      exact two (P := fun n m => wpAny C.M A (binaryOp .BitOr (.int n t) (.int m u)) Q E s) e1 e2 (or_int (h _ _ (lit _)))
  | RShift =>
    exact thenC e fun k e1 e => thenC e fun l e2 e => whenC e fun q e => thenC e2 fun l' e2 e3 => by
      (revert h; apply Mine.q1 e; intro h)
      have e3 := iNat_eq e3
      subst e3
      exact two (P := fun n m => wpAny C.M A (binaryOp .RShift (.int n t) (.int m u)) Q E s) e1 e2 (rshift_int (Int.natCast_nonneg _) (h _ _ (lit _)))
  | Pow =>
    exact thenC e fun k e1 e => thenC e fun l e2 e => whenC e fun q e => thenC e2 fun l' e2 e3 => and3 q fun q1 q2 q3 => by
      (revert h; apply Mine.q1 e; intro h)
      have e3 := iNat_eq e3
      subst e3
      have p1 := Nat.le_of_ble_eq_true q1
      have p2 := (ltB_iff _ _).mp q2
      have p3 := (ltB_iff _ _).mp q3
      exact two (P := fun n m => wpAny C.M A (binaryOp .Pow (.int n t) (.int m u)) Q E s) e1 e2
        (pow_int_small (Int.natCast_nonneg _) (Int.ofNat_le.mpr (Nat.le_trans (Nat.le_of_succ_le p1) (by decide))) (by omega) (h _ _ (lit _)))
  | _ => exact qN e
theorem bin_sound (O : Ok C) {op : Operator} {x y v : AV} {a b : Value} {Q : Value → Shared → Prop} (e : bin C.T op x y = some v) (hx : VRel C ρ x a) (hy : VRel C ρ y b)
    (h : ∀ val t, VRel C ρ v val → Q val { s with toks := t }) : wpAny C.M A (binaryOp op a b) Q E s :=
  orC e (fun e => thenC e fun z e1 e => thenC e fun w e2 e => hx.rInt (P := fun a => wpAny C.M A (binaryOp op a b) Q E s) e1 fun n t h1 => hy.rInt (P := fun b => wpAny C.M A (binaryOp op _ b) Q E s) e2 fun m u h2 => binI_sound O e h1 h2 h)
    fun e => orC e (fun e => thenC e fun z e1 e => thenC e fun w e2 e => hx.rBytes (P := fun a => wpAny C.M A (binaryOp op a b) Q E s) e1 fun n t h1 => hy.rBytes (P := fun b => wpAny C.M A (binaryOp op _ b) Q E s) e2 fun m u h2 => by
      cases op with
      | Add =>
        exact whenC e fun hq e => by
          (revert h; apply Mine.q1 e; intro h)
          have hs := addS_rel h1 h2
          have k1 := leOf O hq (show SI.rel C.ν (.lit 65536) 65536 by simp [SI.rel]) hs
          exact KBy.add_bytes (by omega) fun t' k => h _ _ (.bytes _ (by rw [Array.size_append]; exact (Int.natCast_add _ _) ▸ hs))
      | _ => exact qN e)
    fun e => thenC e fun z e1 e => thenC e fun w e2 e => bnd_sound e1 e2 hx hy e h
end
end Mine
-- M8
namespace Mine
open PySem PySem.W PySem.Calls PyProof.Rows PyProof PyProof.V PySem.SeqAt

/-! what lists of literals say of values -/
section
variable {C : Cx} {ρ : List Addr}
theorem litsOf_rel : ∀ {xs : List AV} {l : List Int} {vs : List Value}, litsOf xs = some l → VsRel C ρ xs vs → ItemsAre (intKind C.prog C.w) l vs
  | [], l, vs, e, r => by cases e; cases r; exact .nil
  | a :: xs, l, vs, e, r => by
    unfold litsOf at e
    split at e
    · rename_i z; cases z
    · rename_i n xs' q
      cases q
      split at e
      · rename_i l' e'
        cases e
        (revert r; intro hvv; apply VsRel.cCons hvv; clear hvv; intro _ _ hv r)
        ·
          (apply VRel.cInt hv; intro _ t h; clear hv)
          ·
            simp only [SI.rel] at h
            subst h
            exact .cons (isInt_self _ t) (litsOf_rel e' r)
      · cases e
    · exact qN e
theorem strsOf_rel : ∀ {xs : List AV} {l : List Str} {vs : List Value}, strsOf xs = some l → VsRel C ρ xs vs → ItemsAre (strKind C.prog C.w) l vs
  | [], l, vs, e, r => by cases e; cases r; exact .nil
  | a :: xs, l, vs, e, r => by
    unfold strsOf at e
    split at e
    · rename_i z; cases z
    · rename_i n xs' q
      cases q
      split at e
      · rename_i l' e'
        cases e
        (revert r; intro hvv; apply VsRel.cCons hvv; clear hvv; intro _ _ hv r)
        ·
          (apply VRel.cStr hv; intro t; clear hv)
          · exact .cons (isStrOf_self _ t) (strsOf_rel e' r)
      · cases e
    · exact qN e
noncomputable def isS (s : Str) : Value → Bool
  | .str x _ => x == s
  | _ => false
noncomputable def isI (n : Int) : Value → Bool
  | .int x _ => x == n
  | _ => false
theorem strs_any (s : Str) : ∀ {l : List Str} {vs : List Value}, ItemsAre (strKind C.prog C.w) l vs →
    (∀ y ∈ vs, ∃ x t, y = .str x t) ∧ vs.any (isS s) = memS s l := by
  intro l vs h
  induction h with
  | nil => exact ⟨fun y hy => (nomatch hy), rfl⟩
  | @cons k v ks vs h1 _ ih =>
    ((refine x1a1 (Value.isStrOf_shape h1) (fun t qr1 => ?_)); subst qr1)
    refine ⟨fun y hy => ?_, ?_⟩
    · rcases List.mem_cons.mp hy with rfl | q
      · exact ⟨k, t, rfl⟩
      · exact ih.1 y q
    · rw [List.any_cons, ih.2]
      show (k == s || memS s ks) = (match seq s k with | true => true | false => memS s ks)
      cases q : seq s k with
      | true => rw [(seq_iff _ _).mp q]; simp
      | false => have := seq_false q; simp [Ne.symm this]
theorem ints_any (n : Int) : ∀ {l : List Int} {vs : List Value}, ItemsAre (intKind C.prog C.w) l vs →
    (∀ y ∈ vs, ∃ x t, y = .int x t) ∧ vs.any (isI n) = memI n l := by
  intro l vs h
  induction h with
  | nil => exact ⟨fun y hy => (nomatch hy), rfl⟩
  | @cons k v ks vs h1 _ ih =>
    ((refine x1a1 (Value.isInt_shape h1) (fun t qr2 => ?_)); subst qr2)
    refine ⟨fun y hy => ?_, ?_⟩
    · rcases List.mem_cons.mp hy with rfl | q
      · exact ⟨k, t, rfl⟩
      · exact ih.1 y q
    · rw [List.any_cons, ih.2]
      show (k == n || memI n ks) = (match eqB n k with | true => true | false => memI n ks)
      by_cases q : n = k
      · rw [(eqB_iff _ _).mpr q]; simp [q]
      · cases z : eqB n k with
        | true => exact absurd ((eqB_iff _ _).mp z) q
        | false => simp [Ne.symm q]

variable {σ : AS} {h : Heap}
theorem addrs_of (R : Rel C ρ σ h) : ∀ {xs : List AV} {l : List (List Int)} {vs : List Value}, tupLits σ xs = some l → VsRel C ρ xs vs → AddrsAre (iKnd C.prog C.w) h l vs
  | [], l, vs, e, r => by cases e; cases r; exact .nil
  | a :: xs, l, vs, e, r => by
    unfold tupLits at e
    split at e
    · rename_i z; cases z
    · rename_i i xs' q
      cases q
      split at e
      · rename_i ys ey
        split at e
        · rename_i k l' e1 e2
          (apply q1 e)
          cases r with
          | cons hv r =>
            cases hv with
            | own ha =>
              refine .cons ?_ (addrs_of R e2 r)
              ((refine x1a3 (R.objs _ _ _ ey ha) (fun ws qt3 f _ => ?_)); (refine x1a1 (qt3) (fun n g => ?_)))
              exact ⟨_, _, n, g, rfl, rfl, litsOf_rel e1 f⟩
        · cases e
      · cases e
    · exact qN e
theorem pkey_is (R : Rel C ρ σ h) {i : Nat} {k : List (List Int)} {a : Addr} (e : pkey σ i = some k) (ha : at? ρ i = some a) : (pKnd C.prog C.w).is h k a := by
  unfold pkey at e
  split at e
  · rename_i xs ex
    split at e
    · cases e
    · obtain ⟨ws, ⟨n, g⟩, f, _⟩ := R.objs _ _ _ ex ha
      exact ⟨_, _, n, g, rfl, rfl, addrs_of R e f⟩
  · cases e
theorem skey_is (R : Rel C ρ σ h) {i : Nat} {k : List Str} {a : Addr} (e : skey σ i = some k) (ha : at? ρ i = some a) : (sKnd C.prog C.w).is h k a := by
  unfold skey at e
  split at e
  · rename_i xs ex
    split at e
    · cases e
    · obtain ⟨ws, ⟨n, g⟩, f, _⟩ := R.objs _ _ _ ex ha
      exact ⟨_, _, n, g, rfl, rfl, strsOf_rel e f⟩
  · cases e
theorem KRel.keys {κ : Type} {key : Nat → Option κ} {l : List (κ × Nat × AV)} {xs : List (κ × Addr × Value)} (r : KRel C ρ key l xs) : ∀ x ∈ xs, ∃ i, key i = some x.1 ∧ at? ρ i = some x.2.1 := by
  induction r with
  | nil => intro x hx; cases hx
  | cons a b _ _ ih =>
    intro x hx
    rcases List.mem_cons.mp hx with rfl | q
    · exact ⟨_, a, b⟩
    · exact ih x q
theorem RawH.pdict (R : Rel C ρ σ h) {kv : List (List (List Int) × Nat × AV)} {d : Addr} {xs : List (List (List Int) × Addr × Value)} (q : RawH C (pKnd C.prog C.w) h d xs) (r : KRel C ρ (pkey σ) kv xs) : h.DictOfH (pKnd C.prog C.w) d xs := by
  ((refine x2a3 (q) (fun es ep g e n => ?_)))
  exact ⟨_, es, ep, g, ⟨rfl, rfl, rfl⟩, rfl, e, fun x hx => let ⟨i, e1, e2⟩ := r.keys x hx; pkey_is R e1 e2, n⟩
theorem RawH.sdict (R : Rel C ρ σ h) {kv : List (List Str × Nat × AV)} {d : Addr} {xs : List (List Str × Addr × Value)} (q : RawH C (sKnd C.prog C.w) h d xs) (r : KRel C ρ (skey σ) kv xs) : h.DictOfH (sKnd C.prog C.w) d xs := by
  ((refine x2a3 (q) (fun es ep g e n => ?_)))
  exact ⟨_, es, ep, g, ⟨rfl, rfl, rfl⟩, rfl, e, fun x hx => let ⟨i, e1, e2⟩ := r.keys x hx; skey_is R e1 e2, n⟩
end
end Mine
-- M9
namespace Mine
open PySem PySem.W PySem.Calls PyProof.Rows PyProof PyProof.V PySem.SeqAt

theorem pEq_iff (a b : List (List Int)) : pEq a b = true ↔ a = b := listEq_iff (listEq_iff eqB_iff) a b
theorem sEq_iff (a b : List Str) : sEq a b = true ↔ a = b := listEq_iff seq_iff a b

section
variable {C : Cx} {ρ : List Addr}
theorem IRel.lk {kv : List (Int × AV)} {kvs : List (Int × Value)} (r : IRel C ρ kv kvs) (n : Int) : match look eqB kv n with
    | none => valueAt kvs n = none
    | some v => ∃ val, valueAt kvs n = some val ∧ VRel C ρ v val := by
  induction r with
  | nil => exact rfl
  | @cons k v x l kvs hv _ ih =>
    show match (match eqB k n with | true => some v | false => look eqB l n) with | none => _ | some v => _
    have e : valueAt ((k, x) :: kvs) n = if k = n then some x else valueAt kvs n := by
      unfold valueAt
      rw [List.find?_cons]
      by_cases q : k = n <;> simp [q]
    rw [e]
    cases q : eqB k n with
    | true => rw [if_pos ((eqB_iff _ _).mp q)]; exact ⟨x, rfl, hv⟩
    | false => rw [if_neg (eqB_false q)]; exact ih
theorem KRel.lk {κ : Type} [DecidableEq κ] {eq : κ → κ → Bool} (he : ∀ a b, eq a b = true ↔ a = b) {key : Nat → Option κ} {kv : List (κ × Nat × AV)} {xs : List (κ × Addr × Value)} (r : KRel C ρ key kv xs) (k : κ) : match look eq kv k with
    | none => atKey xs k = none
    | some p => ∃ a val, atKey xs k = some (a, val) ∧ VRel C ρ p.2 val ∧ at? ρ p.1 = some a := by
  induction r with
  | nil => exact rfl
  | @cons k' i a v x l xs h1 h2 hv _ ih =>
    show match (match eq k' k with | true => some (i, v) | false => look eq l k) with | none => _ | some v => _
    have e : atKey ((k', a, x) :: xs) k = if k' = k then some (a, x) else atKey xs k := by
      unfold atKey
      rw [List.find?_cons]
      by_cases q : k' = k <;> simp [q]
    rw [e]
    cases q : eq k' k with
    | true => rw [if_pos ((he _ _).mp q)]; exact ⟨a, x, rfl, hv, h2⟩
    | false =>
      have : k' ≠ k := fun z => by rw [(he _ _).mpr z] at q; cases q
      rw [if_neg this]; exact ih
theorem KRel.isSome {κ : Type} [DecidableEq κ] {eq : κ → κ → Bool} (he : ∀ a b, eq a b = true ↔ a = b) {key : Nat → Option κ} {kv : List (κ × Nat × AV)} {xs : List (κ × Addr × Value)} (r : KRel C ρ key kv xs) (k : κ) : (atKey xs k).isSome = (Mine.look eq kv k).isSome := by
  have := r.lk he k
  revert this
  cases Mine.look eq kv k with
  | none => intro e; rw [e]; rfl
  | some p => rintro ⟨a, val, e, _⟩; rw [e]; rfl
theorem IRel.isSome {kv : List (Int × AV)} {kvs : List (Int × Value)} (r : IRel C ρ kv kvs) (n : Int) : (valueAt kvs n).isSome = (Mine.look eqB kv n).isSome := by
  have := r.lk n
  revert this
  cases Mine.look eqB kv n with
  | none => intro e; rw [e]; rfl
  | some p => rintro ⟨val, e, _⟩; rw [e]; rfl
theorem allInt_rel {xs : List AV} {vs : List Value} (h : allInt xs = true) (r : VsRel C ρ xs vs) : ∃ ns : List Int, CarriedAll vs (ns.map PyData.int) ∧ ns.length = xs.length := by
  induction r with
  | nil => exact ⟨[], .nil, rfl⟩
  | cons hv r ih =>
    cases hv with
    | int t _ => exact x1a2 (ih h) fun ns a b => ⟨_ :: ns, .cons (.int _ t) a, by rw [List.length_cons, List.length_cons, b]⟩
    | _ => exact qFT h
theorem head_int {n m : Int} {t : Tok} {vs : List Value} {ns : List Int} {P : Prop} (c : CarriedAll (.int n t :: vs) ((m :: ns).map PyData.int)) (k : n = m → CarriedAll vs (ns.map PyData.int) → P) : P := by
  cases c with
  | cons c1 c => cases c1; exact k rfl c
theorem veqs_rel (O : Ok C) {xs : List AV} {vs : List Value} (r : VsRel C ρ xs vs) : ∀ {ys : List AV} {us : List Value} {ns ms : List Int} {b : Bool}, veqs C.T xs ys = some b → VsRel C ρ ys us → CarriedAll vs (ns.map PyData.int) → CarriedAll us (ms.map PyData.int) → decide (ns = ms) = b := by
  induction r with
  | nil =>
    intro ys us ns ms b e q c d
    refine thenC e fun u e1 e => ?_
    have z : us = [] := q.rNil (P := fun us => us = []) e1 rfl
    subst z
    cases e
    cases ns with
    | nil => cases ms with
      | nil => rfl
      | cons => cases d
    | cons => cases c
  | cons hv r ih =>
    intro ys us ns ms b e q c d
    cases q with
    | nil => exact qN e
    | cons hu q =>
      refine thenC e fun x e1 e => thenC e fun y e2 e => thenC e fun z ez e => ?_
      revert c d
      refine hv.rInt (P := fun v => CarriedAll (v :: _) _ → CarriedAll _ _ → decide (ns = ms) = b) e1 fun n t hx => ?_
      refine hu.rInt (P := fun u => CarriedAll _ _ → CarriedAll (u :: _) _ → decide (ns = ms) = b) e2 fun m u hy => ?_
      intro c d
      cases ns with
      | nil => cases c
      | cons n' ns =>
        cases ms with
        | nil => cases d
        | cons m' ms =>
          refine head_int c fun en c2 => head_int d fun em d2 => ?_
          subst en em
          cases z with
          | true =>
            have h1 := of_decide_eq_true (eqS_rel O.ν ez hx hy)
            rw [← ih e q c2 d2, h1]
            exact decide_eq_decide.mpr ⟨fun z => (List.cons.inj z).2, fun z => by rw [z]⟩
          | false =>
            cases e
            have h1 := of_decide_eq_false (eqS_rel O.ν ez hx hy)
            exact decide_eq_false fun z => h1 (List.cons.inj z).1
end
end Mine
-- M10
namespace Mine
open PySem PySem.W PySem.Calls PyProof.Rows PyProof PyProof.V PySem.SeqAt
section
variable {C : Cx} {A : Around} {E : Value → Shared → Prop} {s : Shared} {ρ : List Addr} {σ : AS}
theorem notO_some {o : Option Bool} {b : Bool} (e : notO o = some b) : o = some (!b) := by
  cases o with
  | none => exact qN e
  | some c => cases c <;> cases e <;> rfl
theorem notSys (O : Ok C) (R : Rel C ρ σ s.heap) {i : Nat} {a : Addr} (ha : at? ρ i = some a) : (a == sysModules) = false :=
  beq_eq_false_iff_ne.mpr fun e => absurd O.low (Nat.not_lt.mpr (e ▸ R.new a (mem_at ha)))
theorem uLt {A : Around} (hu : A.units + 70 < cLine) : A.units + 1 + 1 < cLine := Nat.lt_of_le_of_lt (Nat.add_le_add_left (by decide : 2 ≤ 70) A.units) hu
theorem emptyH {h : Heap} {d : Addr} (g : h.DictOf (intKind C.prog C.w) d []) : h.DictOfH (pKnd C.prog C.w) d [] := by
  obtain ⟨o, es, ep, g, hX, hd, _, hp, _⟩ := g
  exact ⟨o, es, ep, g, hX, hd, by simpa using List.length_eq_zero_iff.mp hp.length, fun x hx => (nomatch hx), List.nodup_nil⟩
theorem memStr_sound (R : Rel C ρ σ s.heap) {j : Nat} {d : Addr} {z : Str} {t : Tok} {r : Bool} (ej : at? ρ j = some d) (e : memStr σ j z = some r) {P : Prop}
    (k : ∀ items : Array Value, s.heap.IsTuple d items → (∀ y, y ∈ items → EqAt A.in1 s y (.str z t) (isS z y)) → items.any (isS z) = r → P) : P :=
  thenC e fun xs ex e => thenC e fun l el e => x1a3 (R.objs _ _ _ (atTup ex) ej) fun vs ⟨n, g⟩ f _ => by
    have q := strs_any z (strsOf_rel el f)
    refine k vs.toArray ⟨_, g, rfl, n, rfl⟩ (fun y hy => ?_) (by rw [← Array.any_toList]; exact q.2.trans (Option.some.inj e))
    obtain ⟨w, u, rfl⟩ := q.1 y (by simpa using hy)
    exact EqAt.str_str _ _ _ _
theorem memLit_sound (R : Rel C ρ σ s.heap) {j : Nat} {d : Addr} {n : Int} {r : Bool} (ej : at? ρ j = some d) (e : memLit σ j n = some r) {P : Prop}
    (k : ∀ kvs, s.heap.MapOf (intKind C.prog C.w) d (valueAt kvs) → (valueAt kvs n).isSome = r → P) : P :=
  thenC e fun kv ex e => x1a2 (R.objs _ _ _ (atIdict ex) ej) fun kvs g f => k kvs g.mapOf ((f.isSome n).trans (Option.some.inj e))
theorem mem_sound (O : Ok C) (R : Rel C ρ σ s.heap) (hu : A.units + 70 < cLine) {x y : AV} {a b : Value} {r : Bool} {Q : Value → Shared → Prop} (e : mem σ x y = some r) (hx : VRel C ρ x a) (hy : VRel C ρ y b)
    (h : ∀ t, Q (.bool r) { s with toks := t }) : wpAny C.M A (compareOp .In a b) Q E s := by
  refine thenC e fun j e1 e => hy.rOwn (P := fun b => wpAny C.M A (compareOp .In a b) Q E s) e1 fun d ej => ?_
  refine orC e (fun e => thenC e fun z e2 e => hx.rStr (P := fun a => wpAny C.M A (compareOp .In a _) Q E s) e2 fun t => ?_) fun e => orC e
    (fun e => thenC e fun n e2 e => hx.rLit (P := fun a => wpAny C.M A (compareOp .In a _) Q E s) e2 fun t => orC e (fun e => ?_) fun e => ?_) fun e => thenC e fun i e2 e => hx.rOwn (P := fun a => wpAny C.M A (compareOp .In a _) Q E s) e2 fun a' ei => ?_
  · exact memStr_sound (t := t) R ej e fun items g he q => in_tupleAt (isS z) g he (q ▸ h s.toks)
  · refine thenC e fun xs ex e => thenC e fun l el e => x1a2 (R.objs _ _ _ (atList ex) ej) fun vs g f => ?_
    have q := ints_any n (litsOf_rel el f)
    refine in_listAt (items := vs) (isI n) g.isList (fun y hy => ?_) (by rw [← Array.any_toList, q.2.trans (Option.some.inj e)]; exact h s.toks)
    obtain ⟨w, u, rfl⟩ := q.1 y (by simpa using hy)
    exact EqAt.int_int _ _ _ _
  · exact memLit_sound R ej e fun kvs g q => wpAny_in_of (knd := intKind C.prog C.w) (isInt_self _ t) (notSys O R ej) g (q ▸ h _)
  · refine orC e (fun e => thenC e fun kv ex e => thenC e fun u1 e3 e => thenC e fun k ek e => x1a2 (R.objs _ _ _ (atIdict ex) ej) fun kvs g f => ?_) fun e => thenC e fun kv ex e => thenC e fun k ek e => x1a2 (R.objs _ _ _ (atPdict ex) ej) fun xs g f => ?_
    · have z : kvs = [] := nilC (P := fun kv => IRel C ρ kv kvs → kvs = []) e3 (fun f => by cases f; rfl) f
      subst z
      exact wpAny_in_heap (knd := pKnd C.prog C.w) (uLt hu) (pkey_is R ek ei) (notSys O R ej) (emptyH g) (by cases e; exact h _)
    · exact wpAny_in_heap (knd := pKnd C.prog C.w) (uLt hu) (pkey_is R ek ei) (notSys O R ej) (g.pdict R f) (((f.isSome pEq_iff k).trans (Option.some.inj e)) ▸ h _)
theorem memN_sound (O : Ok C) (R : Rel C ρ σ s.heap) (hu : A.units + 70 < cLine) {x y : AV} {a b : Value} {r : Bool} {Q : Value → Shared → Prop} (e : memN σ x y = some r) (hx : VRel C ρ x a) (hy : VRel C ρ y b)
    (h : ∀ t, Q (.bool !r) { s with toks := t }) : wpAny C.M A (compareOp .NotIn a b) Q E s := by
  refine thenC e fun j e1 e => hy.rOwn (P := fun b => wpAny C.M A (compareOp .NotIn a b) Q E s) e1 fun d ej => ?_
  refine orC e (fun e => thenC e fun z e2 e => hx.rStr (P := fun a => wpAny C.M A (compareOp .NotIn a _) Q E s) e2 fun t => ?_) fun e =>
    thenC e fun n e2 e => hx.rLit (P := fun a => wpAny C.M A (compareOp .NotIn a _) Q E s) e2 fun t => ?_
  · exact memStr_sound (t := t) R ej e fun items g he q => notIn_tupleAt (isS z) g he (q ▸ h s.toks)
  · exact memLit_sound R ej e fun kvs g q => wpAny_notIn_of (knd := intKind C.prog C.w) (isInt_self _ t) (notSys O R ej) g (q ▸ h _)
theorem veqT_sound (O : Ok C) (R : Rel C ρ σ s.heap) (hu : A.units + 70 < cLine) {i j : Nat} {a b : Addr} {r : Bool} {Q : Value → Shared → Prop} (e : veqT C.T σ i j = some r) (ha : at? ρ i = some a) (hb : at? ρ j = some b)
    (h : ∀ t, Q (.bool !r) { s with toks := t }) : wpAny C.M A (compareOp .NotEq (.ref a) (.ref b)) Q E s := by
  refine thenC e fun xs ex e => thenC e fun ys ey e => whenC e fun hall e => and3 hall fun k1 k2 _ => ?_
  refine x1a3 (R.objs _ _ _ (atTup ex) ha) fun vs ⟨n, g⟩ f _ => x1a3 (R.objs _ _ _ (atTup ey) hb) fun us ⟨m, g'⟩ f' _ => ?_
  refine x1a2 (allInt_rel k1 f) fun ns c _ => x1a2 (allInt_rel k2 f') fun ms c' _ => ?_
  have sh : ∀ l : List Int, SeqAt.shaped (.tuple (l.map PyData.int)) = true := fun l => by simp [SeqAt.shaped, PyData.canLay0, PyData.depth, ke_canLayAll0, ke_depthAll]
  refine ne_dataH_same (reads_tuple_at g rfl rfl (c.reads s.heap)) (reads_tuple_at g' rfl rfl (c'.reads s.heap)) (sh _) (sh _) (by omega)
    (SeqAt.noMix_of_shape (.tuples .int) rfl _ _ (tuples_map_has fun _ => rfl) (tuples_map_has fun _ => rfl)) ?_
  have : PySem.Spec.same (.tuple (ns.map PyData.int)) (.tuple (ms.map PyData.int)) = r := by
    simp only [PySem.Spec.same]
    rw [ke_sameAll]; exact veqs_rel O f e f' c c'
  rw [this]; exact h s.toks
theorem isN_rel {x y : AV} {a b : Value} {r : Bool} (e : isN x y = some r) (hx : VRel C ρ x a) (hy : VRel C ρ y b) : b = .none ∧ (a == .none) = r :=
  thenC e fun u e1 e => hy.rNone (P := fun b => b = .none ∧ (a == .none) = r) e1 ⟨rfl, (show (a == .none) = isNone x by cases hx <;> rfl).trans (Option.some.inj e)⟩
theorem bndLow_of {g1 l2 : Option Int} {n1 n2 : Int} {r : Bool} (h1 : ∀ b, g1 = some b → n1 ≤ b) (h2 : ∀ b, l2 = some b → b ≤ n2) (e : bndLow g1 l2 = some r) : decide (n1 > n2) = r :=
  thenC e fun c e1 e => thenC e fun d e2 e => whenC e fun q e => by
    cases e
    exact decide_eq_false (Int.not_lt.mpr (Int.le_trans (h1 _ e1) (Int.le_trans (leB_of q) (h2 _ e2))))
theorem bndGt_of {x y : Option Int × Option Int × Int} {r : Bool} (e : bndGt x y = some r) (h1 : bIn x.1 x.2.1 x.2.2) (h2 : bIn y.1 y.2.1 y.2.2) : decide (x.2.2 > y.2.2) = r :=
  orC e (fun e => thenC e fun a e1 e => thenC e fun b e2 e => whenC e fun q e => by
    cases e
    exact decide_eq_true (Int.lt_of_le_of_lt (h2.2 _ e2) (Int.lt_of_lt_of_le ((ltB_iff _ _).mp q) (h1.1 _ e1)))) fun e => bndLow_of h1.2 h2.1 e
theorem gt_bnd {x y : AV} {a b : Value} {r : Bool} {P : Value → Value → Prop} (e : bndO bndGt x y = some r) (hx : VRel C ρ x a) (hy : VRel C ρ y b) (k : ∀ n t m u, decide (n > m) = r → P (.int n t) (.int m u)) : P a b :=
  thenC e fun bx e1 e => thenC e fun by_ e2 e => toBC (P := fun a => P a b) e1 hx fun t h1 => toBC (P := fun b => P _ b) e2 hy fun u h2 => k _ t _ u (bndGt_of e h1 h2)
theorem int2C {α : Type} {f : SI → SI → Option α} {x y : AV} {a b : Value} {z : α} {P : Value → Value → Prop} (e : int2 x y f = some z) (hx : VRel C ρ x a) (hy : VRel C ρ y b) (k : ∀ m l n t n' t', f m l = some z → m.rel C.ν n → l.rel C.ν n' → P (.int n t) (.int n' t')) : P a b :=
  thenC e fun m e1 e => thenC e fun l e2 e => hx.rInt (P := fun a => P a b) e1 fun n t h1 => hy.rInt (P := fun b => P _ b) e2 fun n' t' h2 => k m l n t n' t' e h1 h2
theorem decLe {n m : Int} {r : Bool} (h : decide (n < m) = !r) : decide (m ≤ n) = r := by
  cases r with
  | true => exact decide_eq_true (Int.not_lt.mp (of_decide_eq_false h))
  | false => exact decide_eq_false (Int.not_le.mpr (of_decide_eq_true h))
theorem cmp_sound (O : Ok C) (R : Rel C ρ σ s.heap) (hu : A.units + 70 < cLine) {op : CmpOp} {x y : AV} {a b : Value} {r : Bool} {Q : Value → Shared → Prop} (e : cmp C.T σ op x y = some r) (hx : VRel C ρ x a) (hy : VRel C ρ y b)
    (h : ∀ t, Q (.bool r) { s with toks := t }) : wpAny C.M A (compareOp op a b) Q E s := by
  cases op with
  | In => exact mem_sound O R hu e hx hy h
  | NotIn => exact memN_sound O R hu (notO_some e) hx hy (by simpa using h)
  | Is =>
    have q := isN_rel e hx hy
    rw [q.1]
    exact is_none_gen (q.2 ▸ h s.toks)
  | IsNot =>
    have q := isN_rel (notO_some e) hx hy
    rw [q.1]
    exact isnot_none_gen (by rw [q.2, Bool.not_not]; exact h s.toks)
  | Eq =>
    refine orC e (fun e => int2C (P := fun a b => wpAny C.M A (compareOp .Eq a b) Q E s) e hx hy fun m l n t n' t' e h1 h2 => ?_) fun e => orC e
      (fun e => thenC e fun z e1 e => thenC e fun z' e2 e => hx.rStr (P := fun a => wpAny C.M A (compareOp .Eq a b) Q E s) e1 fun t => hy.rStr (P := fun b => wpAny C.M A (compareOp .Eq _ b) Q E s) e2 fun t' => ?_)
      fun e => thenC e fun u e1 e => thenC e fun z' e2 e => hx.rNone (P := fun a => wpAny C.M A (compareOp .Eq a b) Q E s) e1 (hy.rStr (P := fun b => wpAny C.M A (compareOp .Eq _ b) Q E s) e2 fun t' => ?_)
    · refine P.eq_int ?_
      rw [show (_ == _) = r from eqS_rel O.ν e h1 h2]; exact h s.toks
    · refine PyProof.Rows.eq_str ?_
      have e := Option.some.inj e
      have q : (z == z') = r := by
        rw [← e]
        cases q : seq z z' with
        | true => exact beq_iff_eq.mpr ((seq_iff _ _).mp q)
        | false => exact beq_eq_false_iff_ne.mpr (seq_false q)
      rw [q]; exact h s.toks
    · exact EqNone.eq_none_str (Option.some.inj e ▸ h s.toks)
  | NotEq =>
    refine orC e (fun e => int2C (P := fun a b => wpAny C.M A (compareOp .NotEq a b) Q E s) e hx hy fun m l n t n' t' e h1 h2 => ?_) fun e =>
      thenC e fun i e1 e => thenC e fun j e2 e => hx.rOwn (P := fun a => wpAny C.M A (compareOp .NotEq a b) Q E s) e1 fun a' ha => hy.rOwn (P := fun b => wpAny C.M A (compareOp .NotEq _ b) Q E s) e2 fun b' hb => ?_
    · refine P.ne_int ?_
      have q := eqS_rel O.ν (notO_some e) h1 h2
      rw [show (n != n') = r by rw [bne, show (n == n') = !r from q, Bool.not_not]]; exact h s.toks
    · exact veqT_sound O R hu (notO_some e) ha hb (by simpa using h)
  | Lt => exact int2C (P := fun a b => wpAny C.M A (compareOp .Lt a b) Q E s) e hx hy fun m l n t n' t' e h1 h2 => P.lt_int (by rw [ltS_rel O.ν e h1 h2]; exact h s.toks)
  | Gt =>
    exact orC e (fun e => int2C (P := fun a b => wpAny C.M A (compareOp .Gt a b) Q E s) e hx hy fun m l n t n' t' e h1 h2 => P.gt_int (by rw [show decide (_ > _) = r from ltS_rel O.ν e h2 h1]; exact h s.toks))
      fun e => gt_bnd (P := fun a b => wpAny C.M A (compareOp .Gt a b) Q E s) e hx hy fun n t m u q => P.gt_int (by rw [q]; exact h s.toks)
  | LtE => exact int2C (P := fun a b => wpAny C.M A (compareOp .LtE a b) Q E s) e hx hy fun m l n t n' t' e h1 h2 => P.le_int (by rw [decLe (ltS_rel O.ν (notO_some e) h2 h1)]; exact h s.toks)
  | GtE =>
    exact orC e (fun e => int2C (P := fun a b => wpAny C.M A (compareOp .GtE a b) Q E s) e hx hy fun m l n t n' t' e h1 h2 => P.ge_int (by rw [show decide (_ ≥ _) = r from decLe (ltS_rel O.ν (notO_some e) h1 h2)]; exact h s.toks))
      fun e => gt_bnd (P := fun b a => wpAny C.M A (compareOp .GtE a b) Q E s) (notO_some e) hy hx fun n t m u q => P.ge_int (by rw [show decide (m ≥ n) = r from decLe q]; exact h s.toks)
end
end Mine
-- M11
namespace Mine
open PySem PySem.W PySem.Calls PyProof.Rows PyProof PyProof.V PySem.SeqAt
section
variable {C : Cx} {A : Around} {E : Value → Shared → Prop} {s : Shared} {ρ : List Addr} {σ : AS}
theorem base_eq {o : Expr} {name : Str} {env : Env} {whole : Sem Value} (h : baseOk o = true) : attributeBase o name env whole = whole := by
  cases o with
  | Call f a k p =>
    cases f with
    | Name id q =>
      cases a with
      | nil =>
        cases k with
        | nil =>
          have h : (seq id "super").not = true := h
          have hne : (id != ("super" : Str)) = true := by
            cases q : seq id "super" with
            | true => rw [q] at h; exact qFT h
            | false => exact bne_iff_ne.mpr (seq_false q)
          show (if (id != ("super" : Str) || _ || _ || _) = true then _ else _) = _
          rw [hne]; rfl
        | cons => rfl
      | cons => rfl
    | _ => rfl
  | _ => rfl
theorem sub_eq (slice : Expr) (o i : Value) : subscripted slice false o i = operate [i, o] (getItem o i) ∨ subscripted slice false o i = operate [o, i] (getItem o i) := by
  cases slice with
  | Slice a b c p =>
    cases c with
    | none => exact .inl rfl
    | some => exact .inr rfl
  | _ => exact .inr rfl
theorem sub_tail {value slice : Expr} {o i : Value} {T id : String} {Q : Value → Shared → Prop} (hT : s.TypeIs o T)
    (hl : typeLookup (.type T) "__getitem__" = pure (some (.builtin id))) (h : wpAny C.M A (getItem o i) Q E s) :
    wpAny C.M A (subscriptTail value slice o i) Q E s := by
  unfold subscriptTail
  refine wpAny_bind ?_
  rw [getitemInPython_of_ne hT.not_modules]
  refine wpAny_bind (wpAny_specialOf hT hl ?_)
  have fin : wpAny C.M A (subscripted slice false o i) (fun r s₃ => wpAny C.M A (letTemporaryGo value o r >>= fun _ => pure r) Q E s₃) E s := by
    rcases sub_eq slice o i with q | q <;> rw [q] <;> exact wpAny_operating (wpAny_mono h (fun r s₃ h₃ => wpAny_bind (wpAny_letTemporaryGo (wpAny_pure h₃))) fun _ _ x => x)
  first
    | exact wpAny_pure (wpAny_bind fin)
    | exact wpAny_bind (wpAny_pure (wpAny_bind fin))
    | exact wpAny_bind fin
theorem idx {s : Shared} {n : Nat} (h : Nat.blt n 4096 = true) : (0 : Int) ≤ n ∧ (n : Int) < 2 ^ 63 := ⟨Int.natCast_nonneg _, Int.ofNat_lt.mpr (Nat.lt_trans (Nat.le_of_ble_eq_true h) (by decide))⟩
theorem item_sound (O : Ok C) (R : Rel C ρ σ s.heap) (hu : A.units + 70 < cLine) {value slice : Expr} {x y v : AV} {a b : Value} {Q : Value → Shared → Prop} (e : item σ x y = some v) (hx : VRel C ρ x a) (hy : VRel C ρ y b)
    (h : ∀ val t, VRel C ρ v val → Q val { s with toks := t }) : wpAny C.M A (subscriptTail value slice a b) Q E s := by
  refine thenC e fun j e1 e => hx.rOwn (P := fun a => wpAny C.M A (subscriptTail value slice a b) Q E s) e1 fun d ej => ?_
  refine orC e (fun e => thenC e fun n e2 e => hy.rNat (P := fun b => wpAny C.M A (subscriptTail value slice _ b) Q E s) e2 fun t => whenC e fun hn e => ?_) fun e => orC e
    (fun e => thenC e fun n e2 e => hy.rLit (P := fun b => wpAny C.M A (subscriptTail value slice _ b) Q E s) e2 fun t => thenC e fun kv ex e => ?_)
    fun e => thenC e fun i e2 e => hy.rOwn (P := fun b => wpAny C.M A (subscriptTail value slice _ b) Q E s) e2 fun b' ei => thenC e fun kv ex e => thenC e fun k ek e => thenC e fun p ep e => ?_
  · have hn := idx (s := s) hn
    refine orC e (fun e => thenC e fun xs ex e => x1a2 (R.objs _ _ _ (atList ex) ej) fun vs g f => x1a2 (f.at e) fun val h1 h2 => ?_) fun e => orC e
      (fun e => thenC e fun xs ex e => x1a3 (R.objs _ _ _ (atTup ex) ej) fun vs ⟨k, g⟩ f _ => x1a2 (f.at e) fun val h1 h2 => ?_)
      fun e => thenC e fun x ex e => x0a3 (R.objs _ _ _ (atFlist ex) ej) fun g f _ => x1a2 (f.at e) fun val h1 h2 => ?_
    · exact sub_tail g.isList.typeIs slot_list_getitem.lookup (wpAny_getItem_list g.isList hn.1 hn.2 (by simpa using h1) (h _ _ h2))
    · have ht : IsTup s.heap d vs.toArray := ⟨_, g, rfl, k, rfl⟩
      have lt : n < vs.length := (List.getElem?_eq_some_iff.mp h1).1
      exact sub_tail ht.typeIs slot_tuple_getitem.lookup (PyProof.Rows.getItem_tuple ht (Int.le_trans (by decide) hn.1) hn.2 (j := n) (by simpa using seqIndex_of (k := (n : Int)) (n := vs.length) (by omega) (by omega)) (by simpa using h1) (h _ _ h2))
    · have g' : s.heap.PlainList d x.2.1.toArray := ⟨_, g⟩
      exact sub_tail g'.isList.typeIs slot_list_getitem.lookup (wpAny_getItem_list g'.isList hn.1 hn.2 (by simpa using h1) (h _ _ h2))
  · refine x1a2 (R.objs _ _ _ (atIdict ex) ej) fun kvs g f => ?_
    have q := f.lk n
    rw [e] at q
    exact x1a2 q fun val h1 h2 => sub_tail g.mapOf.typeIs slot_dict_getitem.lookup (wpAny_getItem_of (knd := intKind C.prog C.w) (isInt_self _ t) g.mapOf h1 (h _ _ h2))
  · refine x1a2 (R.objs _ _ _ (atPdict ex) ej) fun xs g f => ?_
    have q := f.lk pEq_iff k
    rw [ep] at q
    exact x2a3 q fun a' val h1 h2 h3 => sub_tail (g.pdict R f).typeIs slot_dict_getitem.lookup (wpAny_getItem_heap (knd := pKnd C.prog C.w) (uLt hu) (pkey_is R ek ei) (g.pdict R f) h1 (h _ _ (Option.some.inj e ▸ h2)))
end
end Mine
-- M12
namespace Mine
open PySem PySem.W PySem.Calls PyProof.Rows PyProof PyProof.V PySem.SeqAt
section
variable {C : Cx} {A : Around} {E : Value → Shared → Prop} {s : Shared} {ρ : List Addr} {σ : AS}
theorem stored_cons (k : Int) (x : Value) (kvs : List (Int × Value)) (n : Int) (v : Value) (hn : ((k, x) :: kvs).map (·.1) |>.Nodup) :
    stored ((k, x) :: kvs) n v = if k = n then (k, v) :: kvs else (k, x) :: stored kvs n v := by
  unfold stored
  by_cases q : k = n
  · subst q
    have hk : ∀ kv ∈ kvs, kv.1 ≠ k := fun kv hkv e => (List.nodup_cons.mp hn).1 (e ▸ List.mem_map.mpr ⟨kv, hkv, rfl⟩)
    rw [if_pos (by simp), if_pos rfl, List.map_cons, if_pos rfl]
    congr 1
    conv => rhs; rw [← List.map_id kvs]
    exact List.map_congr_left fun kv hkv => by rw [if_neg (hk kv hkv)]; rfl
  · rw [if_neg q]
    by_cases z : (kvs.any fun kv => decide (kv.1 = n)) = true
    · rw [if_pos (by simpa [q] using z), if_pos z, List.map_cons, if_neg q]
    · rw [if_neg (by simpa [q] using z), if_neg z]; rfl
theorem IRel.put {kv : List (Int × AV)} {kvs : List (Int × Value)} (r : IRel C ρ kv kvs) (hn : (kvs.map (·.1)).Nodup) (n : Int) {v : AV} {val : Value} (hv : VRel C ρ v val) : IRel C ρ (putI kv n v) (stored kvs n val) := by
  induction r with
  | nil => exact .cons hv .nil
  | @cons k w x l kvs hw r' ih =>
    rw [stored_cons _ _ _ _ _ hn]
    show IRel C ρ (match eqB k n with | true => (k, v) :: l | false => (k, w) :: putI l n v) _
    cases q : eqB k n with
    | true => rw [if_pos ((eqB_iff _ _).mp q)]; exact .cons hv r'
    | false => rw [if_neg (eqB_false q)]; exact .cons hw (ih (List.nodup_cons.mp hn).2)
theorem KRel.snoc {κ : Type} {key : Nat → Option κ} {l : List (κ × Nat × AV)} {xs : List (κ × Addr × Value)} (r : KRel C ρ key l xs) {k : κ} {i : Nat} {a : Addr} {v : AV} {x : Value} (hk : key i = some k) (ha : at? ρ i = some a) (hv : VRel C ρ v x) :
    KRel C ρ key (l ++ [(k, i, v)]) (xs ++ [(k, a, x)]) := by
  induction r with
  | nil => exact .cons hk ha hv .nil
  | cons a b c _ ih => exact .cons a b c ih
theorem KRel.key {κ : Type} {key key' : Nat → Option κ} (hk : ∀ i k, key i = some k → key' i = some k) {l : List (κ × Nat × AV)} {xs : List (κ × Addr × Value)} (h : KRel C ρ key l xs) : KRel C ρ key' l xs := by
  induction h with
  | nil => exact .nil
  | cons a b c _ ih => exact .cons (hk _ _ a) b c ih
theorem RawH.of {κ : Type} [DecidableEq κ] {knd : HeapKind C.prog C.w κ} {h : Heap} {d : Addr} {xs : List (κ × Addr × Value)} (m : h.DictOfH knd d xs) : RawH C knd h d xs := by
  obtain ⟨⟨cls, dd, data, sl⟩, es, ep, g, ⟨rfl, rfl, rfl⟩, rfl, e, _, n⟩ := m
  exact ⟨es, ep, g, e, n⟩
theorem KRel.length {κ : Type} {key : Nat → Option κ} {l : List (κ × Nat × AV)} {xs : List (κ × Addr × Value)} (r : KRel C ρ key l xs) : xs.length = l.length := by
  induction r with
  | nil => rfl
  | cons _ _ _ _ ih => simp [ih]
theorem IRel.length {l : List (Int × AV)} {xs : List (Int × Value)} (r : IRel C ρ l xs) : xs.length = l.length := by
  induction r with
  | nil => rfl
  | cons _ _ ih => simp [ih]
theorem fits_of {n : Nat} (h : Nat.blt n 4096 = true) : n ≤ sizeLine := by
  rw [sizeLine_eq]
  have : n < 4096 := Nat.le_of_ble_eq_true h
  omega

theorem setItem_plain {l : Addr} {items : Array Value} {k : Int} {t : Tok} {v : Value} {Q : Unit → Shared → Prop} (hl : s.heap.PlainList l items) (h0 : 0 ≤ k) (hfit : k < 2 ^ 63) (hn : k < items.size)
    (hQ : ∀ h', h'.PlainList l (items.setIfInBounds k.toNat v) → Heap.SameBut l s.heap h' → Q () { s with heap := h' }) :
    wpAny C.M A (setItem (.ref l) (.int k t) v) Q E s := by
  ((refine x1a1 (id hl) (fun n ho => ?_)))
  have hL := hl.isList
  unfold setItem
  try with_reducible refine wpAny_holding ?_
  first | refine wpAny_bind (wpAny_pure ?_) | skip
  refine wpAny_bind (wpAny_sequenceKey hL.typeIs (by decide) ?_)
  refine wpAny_bind (wpAny_callSpecial?_slot (name := Str.ofString "__setitem__") hL.typeIs slot_list_setitem
    (wpAny_call_entry slot_list_setitem hL.typeIs entry_list_setitem ?_ (args_list_setitem _ _ _)))
  show wpAny _ _ (Builtin.List.listSubscript? (.int k t) >>= _) _ _ s
  refine wpAny_bind (wpAny_listSubscript_int (fitsIndex_of h0 hfit) ?_)
  clear hfit
  ((refine x1a1 (Int.eq_ofNat_of_zero_le h0) (fun j qr7 => ?_)); subst qr7)
  have hj : j < items.size := by omega
  have hx' : items[j]? = some items[j] := Array.getElem?_eq_getElem hj
  show wpAny _ _ ((seqItemAt l j >>= fun r => pure (r.map (j, ·))) >>= _) _ _ s
  refine wpAny_bind (wpAny_bind (wpAny_seqItemAt ho rfl (wpAny_pure ?_)))
  rw [hx']
  show wpAny _ _ (setSeqItemAt l j v >>= _) _ _ s
  have hm : ∃ n', Obj.mapSeq (·.setIfInBounds j v) { cls := .type "list", data := .seq items n } = { cls := .type "list", data := .seq (items.setIfInBounds j v) n' } := by
    exact ⟨n, by simp [Obj.mapSeq]⟩
  ((refine x1a1 (hm) (fun n' hm => ?_)))
  have hfin : (s.heap.update l (Obj.mapSeq (·.setIfInBounds j v))).PlainList l (items.setIfInBounds j v) :=
    ⟨n', by rw [Heap.get?_update_self _ ho (by rw [hm]; rfl), hm]⟩
  refine wpAny_bind (wpAny_setSeqItemAt ho rfl ?_)
  first
    | exact wpAny_bind (wpAny_pure (wpAny_pure ⟨.none, rfl, wpAny_pure (hQ _ hfin (Heap.SameBut.update ..))⟩))
    | exact wpAny_pure ⟨.none, rfl, wpAny_pure (hQ _ hfin (Heap.SameBut.update ..))⟩
theorem store_sound (O : Ok C) (R : Rel C ρ σ s.heap) (hu : A.units + 70 < cLine) {x y z : AV} {a b c : Value} {σ' : AS} {Q : Unit → Shared → Prop} (e : store σ x y z = some σ') (hx : VRel C ρ x a) (hy : VRel C ρ y b) (hz : VRel C ρ z c)
    (h : ∀ s', Rel C ρ σ' s'.heap → Ext NoX ρ s ρ s' → Q () s') : wpAny C.M A (setItem a b c) Q E s := by
  refine thenC e fun j e1 e => hx.rOwn (P := fun a => wpAny C.M A (setItem a b c) Q E s) e1 fun d ej => ?_
  have done : ∀ {o o' : AO} {h' : Heap} {tk : Nat}, at? σ j = some o → (∀ xs, o ≠ .tup xs) → σ' = set? σ j o' → Heap.SameBut d s.heap h' → ORel C ρ (set? σ j o') o' d h' → Q () { s with heap := h', toks := tk } := fun {o o' h' tk} ex ht eσ hs ho => by
    subst eσ
    have R' := R.set ex ej ht hs ho
    exact h { s with heap := h', toks := tk } R' (Ext.set R' (mem_at ej) hs)
  refine orC e (fun e => thenC e fun kv ex e => whenC e fun hlen e => x1a2 (R.objs _ _ _ (atIdict ex) ej) fun kvs g f => ?_) fun e => orC e
    (fun e => thenC e fun kv ex e => whenC e fun hlen e => x1a2 (R.objs _ _ _ (atPdict ex) ej) fun xs g f => ?_) fun e => thenC e fun xs ex e => x1a2 (R.objs _ _ _ (atList ex) ej) fun vs g f => ?_
  · refine orC e (fun e => thenC e fun n e2 e => hy.rLit (P := fun b => wpAny C.M A (setItem _ b c) Q E s) e2 fun t => ?_) fun e =>
      thenC e fun i e2 e => hy.rOwn (P := fun b => wpAny C.M A (setItem _ b c) Q E s) e2 fun a' ei => thenC e fun u e3 e => thenC e fun k ek e => ?_
    · refine wpAny_setItem_pairs (knd := intKind C.prog C.w) (isInt_self _ t) g (fun h' m' hs => ?_) (by rw [f.length]; exact fits_of hlen)
      refine done (atIdict ex) (fun _ => nofun) (Option.some.inj e).symm hs ⟨_, m', f.put ?_ _ hz⟩
      obtain ⟨_, _, _, _, _, _, _, _, q⟩ := g
      exact q
    · have zk : kvs = [] := nilC (P := fun kv => IRel C ρ kv kvs → kvs = []) e3 (fun f => by cases f; rfl) f
      subst zk
      refine wpAny_setItem_heap (knd := pKnd C.prog C.w) (uLt hu) (pkey_is R ek ei) (emptyH g) (fun h' m' hs => ?_) (Nat.zero_le _)
      exact done (atIdict ex) (fun _ => nofun) (Option.some.inj e).symm hs ⟨[(k, a', c)], RawH.of m', .cons (pkey_mono (TupsIn.set (atIdict ex) (fun _ q => nomatch q)) _ _ ek) ei hz .nil⟩
  · refine thenC e fun i e2 e => hy.rOwn (P := fun b => wpAny C.M A (setItem _ b c) Q E s) e2 fun a' ei => thenC e fun k ek e => thenC e fun u hl e => ?_
    have q := f.lk pEq_iff k
    rw [isNo_eq hl] at q
    refine wpAny_setItem_heap (knd := pKnd C.prog C.w) (uLt hu) (pkey_is R ek ei) (g.pdict R f) (fun h' m' hs => ?_) (by rw [f.length]; exact fits_of hlen)
    refine done (atPdict ex) (fun _ => nofun) (Option.some.inj e).symm hs ⟨_, RawH.of m', ?_⟩
    rw [storedH_new q]
    exact (f.snoc ek ei hz).key (pkey_mono (TupsIn.set (o' := .pdict (kv ++ [(k, i, z)])) (atPdict ex) (fun _ q => nomatch q)))
  · refine thenC e fun n e2 e => hy.rNat (P := fun b => wpAny C.M A (setItem _ b c) Q E s) e2 fun t => whenC e fun hq e => and2 hq fun k1 k2 => ?_
    have k1 : n < xs.length := Nat.le_of_ble_eq_true k1
    have hn := idx (s := s) k2
    refine setItem_plain g hn.1 hn.2 (Int.ofNat_lt.mpr (by rw [← Array.length_toList, ← f.length]; exact k1)) fun h' g' hs => ?_
    exact done (atList ex) (fun _ => nofun) (Option.some.inj e).symm hs ⟨_, g', by simpa [Array.toList_setIfInBounds] using f.set hz n⟩
end
end Mine
-- M13
namespace Mine
open PySem PySem.W PySem.Calls PyProof.Rows PyProof PyProof.V PySem.SeqAt
section
variable {C : Cx} {A : Around} {E : Value → Shared → Prop} {s : Shared} {ρ : List Addr} {σ : AS}
noncomputable def PartRel (C : Cx) (ρ : List Addr) : Option AV → Value → Prop
  | none, v => v = .none
  | some a, v => VRel C ρ a v
theorem clip_int {n k : Nat} (h1 : (k : Int) ≤ n) : clipAt n k = k := by
  rw [clipAt_nat]; exact Nat.min_eq_left (Int.ofNat_le.mp h1)
theorem cut_tail {value slice : Expr} {b : Array UInt8} {t : Tok} {a : Addr} {l u : Value} {lo hi : Option Int} {Q : Value → Shared → Prop} (hl : IsPart l lo) (hu : IsPart u hi) (ha : s.heap.IsSliceOf a l u .none) (hsz : b.size ≤ 65536)
    (h : ∀ t' k, Q (.bytes (KBy.picked b lo hi) t') { s with toks := k }) : wpAny C.M A (subscriptTail value slice (.bytes b t) (.ref a)) Q E s :=
  sub_tail (typeIs_bytes _ _ _) FB.slot_bytes_getitem.lookup (getItem_meets (typeIs_bytes _ _ _) (by decide) FB.slot_bytes_getitem FB.entry_bytes_getitem (FB.args_bytes_getitem_2 _ _) (KBc.meets_slice2 b t _ hl hu)
    ⟨ha, Nat.le_trans (KBc.size_picked_le b lo hi) (by rw [sizeLine_eq]; omega), fun t' k => h t' k⟩)
theorem picked_size (b : Array UInt8) (lo hi : Option Int) : (KBy.picked b lo hi).size = min (hi.elim b.size (clipAt b.size) - lo.elim 0 (clipAt b.size)) (b.size - lo.elim 0 (clipAt b.size)) := by
  rw [KBc.picked_eq, List.size_toArray, List.length_take, List.length_drop, Array.length_toList]
theorem picked_lo {b : Array UInt8} {i : Nat} (h1 : (i : Int) ≤ b.size) : ((KBy.picked b (some (i : Int)) none).size : Int) = b.size - i := by
  rw [picked_size]
  simp only [Option.elim, clip_int h1]
  rw [Nat.min_self, Int.ofNat_sub (Int.ofNat_le.mp h1)]
theorem picked_both {b : Array UInt8} {i j : Nat} (h0 : (i : Int) ≤ j) (h1 : (j : Int) ≤ b.size) : ((KBy.picked b (some (i : Int)) (some (j : Int))).size : Int) = j - i := by
  rw [picked_size]
  simp only [Option.elim, clip_int (Int.le_trans h0 h1), clip_int h1]
  rw [Nat.min_eq_left (Nat.sub_le_sub_right (Int.ofNat_le.mp h1) i), Int.ofNat_sub (Int.ofNat_le.mp h0)]
theorem picked_hi {b : Array UInt8} {j : Nat} (h1 : (j : Int) ≤ b.size) : ((KBy.picked b none (some (j : Int))).size : Int) = j := by
  rw [picked_size]
  simp only [Option.elim, clip_int h1, Nat.sub_zero]
  rw [Nat.min_eq_left (Int.ofNat_le.mp h1)]
theorem cut_sound (O : Ok C) {value slice : Expr} {n : SI} {lo hi : Option AV} {v : AV} {b : Array UInt8} {t : Tok} {a : Addr} {l u : Value} {Q : Value → Shared → Prop} (e : cut C.T n lo hi = some v) (hb : n.rel C.ν b.size)
    (hl : PartRel C ρ lo l) (hu : PartRel C ρ hi u) (ha : s.heap.IsSliceOf a l u .none) (h : ∀ val k, VRel C ρ v val → Q val { s with toks := k }) : wpAny C.M A (subscriptTail value slice (.bytes b t) (.ref a)) Q E s := by
  have z0 : SI.rel C.ν (.lit 0) 0 := by simp [SI.rel]
  refine whenC e fun hbig e => ?_
  have hsz : b.size ≤ 65536 := Int.ofNat_le.mp (leOf' O hbig hb (show SI.rel C.ν (.lit 65536) (65536 : Nat) by simp [SI.rel]))
  have nat : ∀ {w : Value} {a : AV} {x : SI} {P : Prop}, vInt a = some x → VRel C ρ a w → leS C.T (.lit 0) x = true → (∀ (k : Nat) t, w = .int (k : Int) t → x.rel C.ν (k : Int) → P) → P := fun {w a x P} e h hx k =>
    h.rInt (P := fun w => (∀ (k : Nat) t, w = .int (k : Int) t → x.rel C.ν (k : Int) → P) → P) e (fun i t hi k => by
      obtain ⟨m, rfl⟩ := Int.eq_ofNat_of_zero_le (leOf' O hx z0 hi)
      exact k m t rfl hi) k
  cases lo with
  | none =>
    refine thenC e fun w eh e => thenC e fun x e1 e => whenC e fun q e5 => and2 q fun k1 k2 => ?_
    subst eh
    refine nat e1 hu k1 fun j t ej hj => ?_
    subst ej
    have z : l = .none := hl
    subst z
    exact cut_tail .none (.int j t) ha hsz fun t' k => h _ _ (Option.some.inj e5 ▸ .bytes _ (by rw [picked_hi (leOf' O k2 hj hb)]; exact hj))
  | some y =>
    refine thenC e fun x e1 e => ?_
    cases hi with
    | none =>
      refine whenC e fun q e => and2 q fun k1 k2 => nat e1 hl k1 fun i t ei hi' => ?_
      subst ei
      have z : u = .none := hu
      subst z
      exact cut_tail (.int i t) .none ha hsz fun t' k => h _ _ (Option.some.inj e ▸ .bytes _ (by rw [picked_lo (leOf' O k2 hi' hb)]; exact subS_rel hb hi'))
    | some w =>
      refine thenC e fun x2 e2 e => whenC e fun q e => and3 q fun k1 k2 k3 => nat e1 hl k1 fun i t ei hi' => ?_
      subst ei
      refine VRel.rInt (P := fun u => s.heap.IsSliceOf a _ u .none → wpAny C.M A (subscriptTail value slice (.bytes b _) (.ref a)) Q E s) e2 hu (fun m t2 hj ha => ?_) ha
      have h2 := leOf' O k2 hi' hj
      obtain ⟨j, rfl⟩ := Int.eq_ofNat_of_zero_le (Int.le_trans (Int.natCast_nonneg i) h2)
      exact cut_tail (.int i t) (.int j t2) ha hsz fun t' k => h _ _ (Option.some.inj e ▸ .bytes _ (by rw [picked_both h2 (leOf' O k3 hj hb)]; exact subS_rel hj hi'))
end
end Mine
-- M14
namespace Mine
open PySem PySem.W PySem.Calls PyProof.Rows PyProof PyProof.V PySem.SeqAt
section
variable {C : Cx} {A : Around} {E : Value → Shared → Prop} {s : Shared} {ρ : List Addr} {σ : AS}
theorem none_at (h : Heap) : h.get? h.objs.size = none := Heap.get?_none_of_le (Nat.le_refl _)
theorem push_keeps (h : Heap) (o : Obj) : ∀ b x, h.get? b = some x → (h.push o).get? b = some x := fun b x e => Heap.get?_push_of_some _ e
/-- a new object of ours -/
theorem push_rel (O : Ok C) (R : Rel C ρ σ s.heap) {o : Obj} {x : AO} (ho : ORel C (ρ ++ [s.heap.objs.size]) (σ ++ [x]) x s.heap.objs.size (s.heap.push o)) :
    Rel C (ρ ++ [s.heap.objs.size]) (σ ++ [x]) (s.heap.push o) := R.push (Nat.le_refl _) (R.low O) (push_keeps _ _) ho
theorem push_own (R : Rel C ρ σ s.heap) (a : Addr) : VRel C (ρ ++ [a]) (.own σ.length) (.ref a) := .own (by rw [at_push, R.len, if_pos rfl])
theorem push_ext {X : Addr → Prop} {o : Obj} {t : Nat} : Ext X ρ s (ρ ++ [s.heap.objs.size]) { s with heap := s.heap.push o, toks := t } := Ext.push (none_at _) (push_keeps _ _)

theorem int_sound {b : Bool} {Q : Value → Shared → Prop} (h : ∀ n t k, SI.rel C.ν (.lit (if b then 1 else 0)) n → Q (.int n t) { s with toks := k }) : wpAny C.M A (call (.type "int") [.bool b]) Q E s :=
  call_int_bool (h _ _ _ (by simp [SI.rel]))
theorem range_sound (O : Ok C) (R : Rel C ρ σ s.heap) {n : Nat} {t : Tok} {Q : Value → Shared → Prop}
    (h : ∀ ρ' s' val, Rel C ρ' (σ ++ [.rng n]) s'.heap → Ext NoX ρ s ρ' s' → VRel C ρ' (.own σ.length) val → Q val s') : wpAny C.M A (call (.type "range") [.int n t]) Q E s := by
  refine call_range_1 (h _ _ _ (push_rel O R ?_) push_ext (push_own R _))
  exact ⟨_, _, _, IsRange.new ..⟩
end
end Mine
-- M15
namespace Mine
open PySem PySem.W PySem.Calls PyProof.Rows PyProof PyProof.V PySem.SeqAt
section
variable {C : Cx} {A : Around} {E : Value → Shared → Prop} {s : Shared} {ρ : List Addr} {σ : AS}
theorem append_sound (O : Ok C) (R : Rel C ρ σ s.heap) {i : Nat} {a : Addr} {xs : List AV} {x : AV} {v : Value} {Q : Value → Shared → Prop} (ex : at? σ i = some (.list xs)) (ei : at? ρ i = some a) (hx : VRel C ρ x v) (hl : Nat.blt xs.length 4096 = true)
    (h : ∀ s', Rel C ρ (set? σ i (.list (xs ++ [x]))) s'.heap → Ext NoX ρ s ρ s' → Q .none s') : wpAny C.M A (call (.builtin "list.append") [.ref a, v]) Q E s := by
  ((refine x1a2 (R.objs _ _ _ ex ei) (fun vs g f => ?_)))
  refine wpAny_list_append_plain g (fun h' m' hs => ?_) (by rw [← Array.length_toList (xs := vs), ← f.length]; exact fits_of hl)
  refine (fun R' => h _ R' (Ext.set (t := s.toks) R' (mem_at ei) hs)) (R.set ex ei (fun _ q => by cases q) hs ⟨_, m', ?_⟩)
  rw [Array.toList_push]
  exact f.push hx
theorem get_sound_p (O : Ok C) (R : Rel C ρ σ s.heap) (hu : A.units + 70 < cLine) {i j : Nat} {a b : Addr} {kv : List (List (List Int) × Nat × AV)} {k : List (List Int)} {Q : Value → Shared → Prop} (ex : at? σ i = some (.pdict kv)) (ei : at? ρ i = some a) (ek : pkey σ j = some k) (ej : at? ρ j = some b)
    (h : ∀ val t, VRel C ρ (optAV ((look pEq kv k).map (·.2))) val → Q val { s with toks := t }) : wpAny C.M A (call (.builtin "dict.get") [.ref a, .ref b]) Q E s := by
  ((refine x1a2 (R.objs _ _ _ ex ei) (fun xs g f => ?_)))
  have q := f.lk pEq_iff k
  refine call_meetsIn PySem.F.slot_dict_get (g.pdict R f).typeIs PySem.F.entry_dict_get (PySem.F.args_dict_get_2 _ _) (meetsH_dict_get (pKnd C.prog C.w) a b (notSys O R ei)) ⟨show A.units + 1 + 1 < cLine by omega, k, xs, pkey_is R ek ej, g.pdict R f, ?_⟩
  revert q h
  cases look pEq kv k with
  | none => intro h q; rw [q]; exact h _ _ .none
  | some p => rintro h ⟨a', val, q1, q2, _⟩; rw [q1]; exact h _ _ q2
theorem get_sound_s (O : Ok C) (R : Rel C ρ σ s.heap) (hu : A.units + 70 < cLine) {i j : Nat} {a b : Addr} {kv : List (List Str × Nat × AV)} {k : List Str} {Q : Value → Shared → Prop} (ex : at? σ i = some (.sdict kv)) (ei : at? ρ i = some a) (ek : skey σ j = some k) (ej : at? ρ j = some b)
    (h : ∀ val t, VRel C ρ (optAV ((look sEq kv k).map (·.2))) val → Q val { s with toks := t }) : wpAny C.M A (call (.builtin "dict.get") [.ref a, .ref b]) Q E s := by
  ((refine x1a2 (R.objs _ _ _ ex ei) (fun xs g f => ?_)))
  have q := f.lk sEq_iff k
  refine call_meetsIn PySem.F.slot_dict_get (g.sdict R f).typeIs PySem.F.entry_dict_get (PySem.F.args_dict_get_2 _ _) (meetsH_dict_get (sKnd C.prog C.w) a b (notSys O R ei)) ⟨show A.units + 1 < cLine by omega, k, xs, skey_is R ek ej, g.sdict R f, ?_⟩
  revert q h
  cases look sEq kv k with
  | none => intro h q; rw [q]; exact h _ _ .none
  | some p => rintro h ⟨a', val, q1, q2, _⟩; rw [q1]; exact h _ _ q2
end
end Mine
-- M16
namespace Mine
open PySem PySem.W PySem.Calls PyProof.Rows PyProof PyProof.V PySem.SeqAt
theorem eraseIdx_map' {α β : Type} (f : α → β) : ∀ (l : List α) (j : Nat), (l.map f).eraseIdx j = (l.eraseIdx j).map f
  | [], _ => rfl
  | _ :: _, 0 => rfl
  | a :: l, j + 1 => by simp [eraseIdx_map' f l j]
section
variable {prog : Program} {w : World} {K : Type} [DecidableEq K] {knd : HeapKind prog w K} {A : Around} {E : Value → Shared → Prop} {s : Shared} {d a : Addr} {k : K} {xs : List (K × Addr × Value)}
theorem takeOut_heap {j : Nat} {p : Addr × Value} {Q : Option DictEntry → Shared → Prop} (hu : knd.room A) (hkey : knd.is s.heap k a) (hm : s.heap.DictOfH knd d xs) (hj : xs[j]? = some (k, p)) (hsz : xs.length ≤ sizeLine)
    (h : ∀ e h', e.val = p.2 → h'.DictOfH knd d (xs.eraseIdx j) → Heap.SameBut d s.heap h' → Q (some e) { s with heap := h', toks := s.toks + knd.draws k }) :
    wpAny (model prog w) A (Builtin.Dict.takeOut d (.ref a)) Q E s := by
  ((refine x3a6 (hm) (fun o es ep ho hc hd he his hn => ?_)))
  have hes : es.size ≤ sizeLine := by have := size_of_entries he; omega
  unfold Builtin.Dict.takeOut
  try with_reducible refine wpAny_holding ?_
  refine wpAny_bind (knd.pyHash hu hkey ?_)
  refine wpAny_bind (wpAny_dictFind_heap (s := { s with toks := s.toks + knd.draws k }) hu hkey ho hd he his hn (fun hno => absurd hj (hno _ _)) fun j' p' hj' => ?_)
  obtain rfl := idxH_unique hn hj hj'
  obtain rfl : p = p' := by rw [hj] at hj'; simpa using hj'
  refine wpAny_bind (wpAny_dictEntries (s := { s with toks := s.toks + knd.draws k }) ho hd ?_)
  rw [entry_at he j, hj]
  have hs : Heap.SameBut d s.heap (s.heap.update d (Obj.mapDictKeys fun x => x.eraseIdxIfInBounds j)) := Heap.SameBut.update ..
  refine wpAny_bind (wpAny_updateDictKeys (hz := hes) (s := { s with toks := s.toks + knd.draws k }) ho hd (wpAny_pure (h _ _ rfl ⟨_, _, ep + 1, Heap.get?_update_self _ ho (Obj.isFreed_of_dict (Obj.data_mapDictKeys hd _)),
    hc.mapDictKeys _, Obj.data_mapDictKeys hd _, ?_, ?_, ?_⟩ hs)))
  · obtain ⟨l⟩ := es
    simp only [List.eraseIdxIfInBounds_toArray]
    have he : l = xs.map (entryOfKey knd) := he
    rw [he, eraseIdx_map']
  · intro x hx
    exact knd.keeps (his x (List.mem_of_mem_eraseIdx hx)) ho hd hs
  · rw [← eraseIdx_map']
    exact List.Nodup.sublist (List.eraseIdx_sublist _ _) hn
theorem pop_heap {j : Nat} {p : Addr × Value} {Q : Value → Shared → Prop} (hu : knd.room A.in1) (hkey : knd.is s.heap k a) (hm : s.heap.DictOfH knd d xs) (hj : xs[j]? = some (k, p)) (hsz : xs.length ≤ sizeLine)
    (h : ∀ h', h'.DictOfH knd d (xs.eraseIdx j) → Heap.SameBut d s.heap h' → Q p.2 { s with heap := h', toks := s.toks + knd.draws k }) :
    wpAny (model prog w) A (call (.builtin "dict.pop") [.ref d, .ref a]) Q E s := by
  refine wpAny_call_entry PySem.F.slot_dict_pop hm.typeIs PySem.F.entry_dict_pop ?_ (PySem.F.args_dict_pop_2 _ _)
  have hne : xs ≠ [] := by rintro rfl; cases hj
  unfold Builtin.«dict.pop»
  refine wpAny_bind ?_
  unfold Builtin.Dict.keyAndDefault
  refine wpAny_bind (wpAny_notOrdered_dict hm.typeIs ?_)
  show wpAny _ _ (pure (d, Value.ref a, (none : Option Value))) _ _ s
  refine wpAny_pure ?_
  refine wpAny_bind ?_
  ((refine x3a6 (id hm) (fun o es ep ho hc hd he his hn => ?_)))
  refine wpAny_dictEntries ho hd (wpAny_bind (wpAny_pure ?_))
  have hemp : es.isEmpty = false := by
    have := size_of_entries he
    rw [Array.isEmpty_eq_false_iff]
    intro q
    rw [q] at this
    exact hne (List.length_eq_zero_iff.mp this.symm)
  rw [hemp]
  simp only [Bool.false_eq_true, if_false]
  refine wpAny_bind (takeOut_heap hu hkey hm hj hsz fun e h' hv hm' hs' => ?_)
  simp only [Option.isNone_some, Bool.false_eq_true, if_false]
  exact wpAny_bind (wpAny_letGo (wpAny_pure ⟨e.val, rfl, by rw [hv]; exact h h' hm' hs'⟩))
end
end Mine
-- M17
namespace Mine
open PySem PySem.W PySem.Calls PyProof.Rows PyProof PyProof.V PySem.SeqAt
section
variable {C : Cx} {A : Around} {E : Value → Shared → Prop} {s : Shared} {ρ : List Addr} {σ : AS}
theorem KRel.drop {κ : Type} {eq : κ → κ → Bool} (he : ∀ a b, eq a b = true ↔ a = b) {key : Nat → Option κ} {l : List (κ × Nat × AV)} {xs : List (κ × Addr × Value)} (r : KRel C ρ key l xs) {k : κ} {p : Nat × AV} (e : look eq l k = some p) :
    ∃ j a val, xs[j]? = some (k, a, val) ∧ VRel C ρ p.2 val ∧ KRel C ρ key (Mine.drop eq l k) (xs.eraseIdx j) := by
  induction r with
  | nil => exact qN e
  | @cons k' i a v x l xs h1 h2 hv r ih =>
    have e : (match eq k' k with | true => some (i, v) | false => look eq l k) = some p := e
    cases q : eq k' k with
    | true =>
      rw [q] at e
      cases e
      have := (he _ _).mp q
      subst this
      refine ⟨0, a, x, rfl, hv, ?_⟩
      show KRel C ρ key (match eq k' k' with | true => l | false => (k', i, v) :: Mine.drop eq l k') xs
      rw [q]; exact r
    | false =>
      rw [q] at e
      ((refine x3a3 (ih e) (fun j a' val z1 z2 z3 => ?_)))
      refine ⟨j + 1, a', val, z1, z2, ?_⟩
      show KRel C ρ key (match eq k' k with | true => l | false => (k', i, v) :: Mine.drop eq l k) ((k', a, x) :: xs.eraseIdx j)
      rw [q]; exact .cons h1 h2 hv z3
theorem IRel.drop {l : List (Int × AV)} {xs : List (Int × Value)} (r : IRel C ρ l xs) (hn : (xs.map (·.1)).Nodup) (n : Int) : IRel C ρ (Mine.drop eqB l n) (without xs n) := by
  have gone : ∀ (xs : List (Int × Value)), n ∉ xs.map (·.1) → without xs n = xs := fun xs h => by
    unfold without
    refine List.filter_eq_self.mpr fun kv hkv => ?_
    have : kv.1 ≠ n := fun e => h (e ▸ List.mem_map.mpr ⟨kv, hkv, rfl⟩)
    simpa using this
  induction r with
  | nil => exact .nil
  | @cons k w x l kvs hw r' ih =>
    show IRel C ρ (match eqB k n with | true => l | false => (k, w) :: Mine.drop eqB l n) _
    have qp := List.nodup_cons.mp hn; have h1 := qp.1; have h2 := qp.2; clear qp
    cases q : eqB k n with
    | true =>
      have := (eqB_iff _ _).mp q
      subst this
      have e : without ((k, x) :: kvs) k = kvs := by
        have := gone kvs h1
        unfold without at this ⊢
        simpa using this
      rw [e]; exact r'
    | false =>
      have e : without ((k, x) :: kvs) n = (k, x) :: without kvs n := by
        unfold without
        simp [eqB_false q]
      rw [e]; exact .cons hw (ih h2)
theorem pop_sound_i (O : Ok C) (R : Rel C ρ σ s.heap) {i : Nat} {a : Addr} {kv : List (Int × AV)} {n : Int} {t : Tok} {v : AV} {Q : Value → Shared → Prop} (ex : at? σ i = some (.idict kv)) (ei : at? ρ i = some a) (hl : Nat.blt kv.length 4096 = true) (ev : look eqB kv n = some v)
    (h : ∀ s' val, Rel C ρ (set? σ i (.idict (drop eqB kv n))) s'.heap → Ext NoX ρ s ρ s' → VRel C ρ v val → Q val s') : wpAny C.M A (call (.builtin "dict.pop") [.ref a, .int n t]) Q E s := by
  ((refine x1a2 (R.objs _ _ _ ex ei) (fun kvs g f => ?_)))
  have q := f.lk n
  rw [ev] at q
  ((refine x1a2 (q) (fun val q1 q2 => ?_)))
  refine call_meetsIn PySem.F.slot_dict_pop g.mapOf.typeIs PySem.F.entry_dict_pop (PySem.F.args_dict_pop_2 _ _) (meets_dict_pop_there (intKind C.prog C.w) a (k := n) (key := .int n t) (isInt_self n t) [] (.inl rfl) rfl)
    ⟨kvs, val, g, by rw [f.length]; exact fits_of hl, q1, fun h' m' hs => ?_⟩
  refine ((fun R' => h _ _ R' (Ext.set R' (mem_at ei) hs) q2) (R.set ex ei (fun _ q => by cases q) hs ⟨_, m', f.drop ?_ n⟩))
  ((refine x3a6 (g) (fun _ _ _ _ _ _ _ _ z => ?_)))
  exact z
theorem pop_sound_p (O : Ok C) (R : Rel C ρ σ s.heap) (hu : A.units + 70 < cLine) {i j : Nat} {a b : Addr} {kv : List (List (List Int) × Nat × AV)} {k : List (List Int)} {p : Nat × AV} {Q : Value → Shared → Prop} (ex : at? σ i = some (.pdict kv)) (ei : at? ρ i = some a) (hl : Nat.blt kv.length 4096 = true)
    (ek : pkey σ j = some k) (ej : at? ρ j = some b) (ev : look pEq kv k = some p)
    (h : ∀ s' val, Rel C ρ (set? σ i (.pdict (drop pEq kv k))) s'.heap → Ext NoX ρ s ρ s' → VRel C ρ p.2 val → Q val s') : wpAny C.M A (call (.builtin "dict.pop") [.ref a, .ref b]) Q E s := by
  ((refine x1a2 (R.objs _ _ _ ex ei) (fun xs g f => ?_)))
  ((refine x3a3 (f.drop pEq_iff ev) (fun m a' val z1 z2 z3 => ?_)))
  refine pop_heap (knd := pKnd C.prog C.w) (show A.units + 1 + 1 < cLine by omega) (pkey_is R ek ej) (g.pdict R f) z1 (by rw [f.length]; exact fits_of hl) fun h' m' hs => ?_
  exact (fun R' => h _ _ R' (Ext.set R' (mem_at ei) hs) z2) (R.set ex ei (fun _ q => by cases q) hs ⟨_, RawH.of m', z3.key (pkey_mono (TupsIn.set ex (fun _ q => by cases q)))⟩)
end
end Mine
-- M18
namespace Mine
open PySem PySem.W PySem.Calls PyProof.Rows PyProof PyProof.V PySem.SeqAt PySem.MeetsSeq
section
variable {C : Cx} {A : Around} {E : Value → Shared → Prop} {s : Shared} {ρ : List Addr} {σ : AS}
theorem VsRel.erase {l : List AV} {vs : List Value} (r : VsRel C ρ l vs) : ∀ j, VsRel C ρ (eraseAt l j) (vs.eraseIdx j) := by
  induction r with
  | nil => intro j; exact .nil
  | cons h r ih =>
    intro j
    cases j with
    | zero => exact r
    | succ j => exact .cons h (ih j)
theorem findI_spec {n : Int} : ∀ {l : List Int} {j : Nat} {vs : List Value}, findI n l = some j → ItemsAre (intKind C.prog C.w) l vs →
    (∃ y, vs[j]? = some y ∧ isI n y = true) ∧ ∀ m y, m < j → vs[m]? = some y → isI n y = false
  | [], _, _, e, _ => by cases e
  | m :: l, j, _, e, .cons (v := v) (vs := vs) h1 r => by
    have e : (match eqB m n with | true => some 0 | false => match findI n l with | some j => some (j + 1) | none => none) = some j := e
    ((refine x1a1 (Value.isInt_shape h1) (fun t qr1 => ?_)); subst qr1)
    cases q : eqB m n with
    | true =>
      rw [q] at e
      cases e
      have := (eqB_iff _ _).mp q
      exact ⟨⟨_, rfl, by simp [isI, this]⟩, fun _ _ h => absurd h (Nat.not_lt_zero _)⟩
    | false =>
      rw [q] at e
      cases z : findI n l with
      | none => rw [z] at e; cases e
      | some j' =>
        rw [z] at e
        cases e
        ((refine x0a2 (findI_spec z r) (fun qt2 y3 => ?_)); (refine x1a2 (qt2) (fun y y1 y2 => ?_)))
        refine ⟨⟨y, y1, y2⟩, fun i y hi hy => ?_⟩
        cases i with
        | zero => cases hy; simp [isI, eqB_false q]
        | succ i => exact y3 i y (Nat.lt_of_succ_lt_succ hi) hy
theorem remove_sound (O : Ok C) (R : Rel C ρ σ s.heap) {i : Nat} {a : Addr} {xs : List AV} {l : List Int} {n : Int} {t : Tok} {j : Nat} {Q : Value → Shared → Prop} (ex : at? σ i = some (.list xs)) (ei : at? ρ i = some a) (hl : Nat.blt xs.length 4096 = true)
    (el : litsOf xs = some l) (ej : findI n l = some j) (h : ∀ s', Rel C ρ (set? σ i (.list (eraseAt xs j))) s'.heap → Ext NoX ρ s ρ s' → Q .none s') : wpAny C.M A (call (.builtin "list.remove") [.ref a, .int n t]) Q E s := by
  ((refine x1a2 (R.objs _ _ _ ex ei) (fun vs qt3 f => ?_)); (refine x1a1 (qt3) (fun m g => ?_)))
  ((refine x0a2 (findI_spec ej (litsOf_rel el f)) (fun qt4 y3 => ?_)); (refine x1a2 (qt4) (fun y y1 y2 => ?_)))
  have ha := (ints_any n (litsOf_rel (C := C) el f)).1
  have hj : j < vs.size := by simpa using (List.getElem?_eq_some_iff.mp y1).1
  refine call_meets PySem.F.slot_list_remove ⟨_, g, rfl⟩ PySem.F.entry_list_remove (PySem.F.args_list_remove_2 _ _)
    (MeetsSeq.list_remove a vs m (.int n t) (isI n) (fun y hy => ?_) j hj ?_ (fun k hk lt => ?_) (by rw [← Array.length_toList (xs := vs), ← f.length]; exact fits_of hl)) ⟨g, ?_⟩
  · ((refine x2a1 (ha y (by simpa using hy)) (fun x u qr5 => ?_)); subst qr5)
    exact EqGives.int x n u t
  · have : vs[j]? = some y := by simpa using y1
    rw [Array.getElem?_eq_getElem hj] at this
    rw [Option.some.inj this]; exact y2
  · exact y3 k _ lt (by simp [hk])
  · have hs : Heap.SameBut a s.heap (s.heap.update a (Obj.mapSeq fun xs => xs.eraseIdxIfInBounds j)) := Heap.SameBut.update ..
    refine (fun R' => h _ R' (Ext.set (t := s.toks) R' (mem_at ei) hs)) (R.set ex ei (fun _ q => by cases q) hs ⟨vs.eraseIdxIfInBounds j, ⟨m + 1, ?_⟩, ?_⟩)
    · rw [Heap.get?_update_self _ g (by simp [Obj.mapSeq]; rfl)]; simp [Obj.mapSeq]
      obtain ⟨l⟩ := vs; simp only [List.eraseIdxIfInBounds_toArray, List.size_toArray, List.length_eraseIdx] at hj ⊢; rw [if_pos hj]; omega
    · have e : (vs.eraseIdxIfInBounds j).toList = vs.toList.eraseIdx j := by obtain ⟨l⟩ := vs; simp
      rw [e]; exact f.erase j
end
end Mine
-- M19
namespace Mine
open PySem PySem.W PySem.Calls PyProof.Rows PyProof PyProof.V PySem.SeqAt
section
variable {C : Cx} {A : Around} {E : Value → Shared → Prop} {s : Shared} {ρ : List Addr} {σ : AS}
theorem lit_eq {n m : Int} (h : SI.rel C.ν (.lit n) m) : m = n := by simp only [SI.rel] at h; exact h
theorem methCall_sound (O : Ok C) (R : Rel C ρ σ s.heap) (hu : A.units + 70 < cLine) {id : String} {i : Nat} {a : Addr} {args : List AV} {vs : List Value} {v : AV} {σ' : AS} {Q : Value → Shared → Prop} (e : methCall id i args σ = some (v, σ')) (ei : at? ρ i = some a) (ha : VsRel C ρ args vs)
    (h : ∀ s' val, Rel C ρ σ' s'.heap → Ext NoX ρ s ρ s' → VRel C ρ v val → Q val s') : wpAny C.M A (call (.builtin id) (.ref a :: vs)) Q E s := by
  refine thenC e fun x e1 e => ha.rOne (P := fun vs => wpAny C.M A (call (.builtin id) (.ref a :: vs)) Q E s) e1 fun w h1 => ?_
  refine orC e (fun e => thenC e fun xs ex e => whenC e fun hl e => ?_) fun e => orC e (fun e => thenC e fun kv ex e => whenC e fun hl e => whenC e fun k1 e => ?_) fun e =>
    orC e (fun e => thenC e fun kv ex e => whenC e fun hl e => ?_) fun e => thenC e fun kv ex e => whenC e fun k1 e => ?_
  · refine orC e (fun e => whenC e fun k1 e => strC (P := fun id => wpAny C.M A (call (.builtin id) _) Q E s) k1 ?_) fun e => whenC e fun k1 e => strC (P := fun id => wpAny C.M A (call (.builtin id) _) Q E s) k1 ?_
    · cases e
      exact append_sound O R (atList ex) ei h1 hl fun s' R' x => h _ _ R' x .none
    · refine thenC e fun n e2 e => h1.rLit (P := fun w => wpAny C.M A (call _ [.ref a, w]) Q E s) e2 fun t => thenC e fun l el e => thenC e fun j ej e => ?_
      (revert h; apply q2 e; intro h)
      exact remove_sound O R (atList ex) ei hl el ej fun s' R' x => h _ _ R' x .none
  · refine thenC e fun n e2 e => h1.rLit (P := fun w => wpAny C.M A (call (.builtin id) [.ref a, w]) Q E s) e2 fun t => thenC e fun w' ew e => strC (P := fun id => wpAny C.M A (call (.builtin id) _) Q E s) k1 ?_
    (revert h; apply q2 e; intro h)
    exact pop_sound_i O R (atIdict ex) ei hl ew h
  · refine thenC e fun j e2 e => h1.rOwn (P := fun w => wpAny C.M A (call (.builtin id) [.ref a, w]) Q E s) e2 fun b ej => thenC e fun k ek e => orC e
      (fun e => whenC e fun k1 e => strC (P := fun id => wpAny C.M A (call (.builtin id) _) Q E s) k1 (thenC e fun p ep e => ?_)) fun e => whenC e fun k1 e => strC (P := fun id => wpAny C.M A (call (.builtin id) _) Q E s) k1 ?_
    · cases e
      exact pop_sound_p O R hu (atPdict ex) ei hl ek ej ep h
    · cases e
      exact get_sound_p O R hu (atPdict ex) ei ek ej fun val t hv => h _ _ R (Ext.tok t) hv
  · refine thenC e fun j e2 e => h1.rOwn (P := fun w => wpAny C.M A (call (.builtin id) [.ref a, w]) Q E s) e2 fun b ej => thenC e fun k ek e => strC (P := fun id => wpAny C.M A (call (.builtin id) _) Q E s) k1 ?_
    (revert h; apply q2 e; intro h)
    exact get_sound_s O R hu (atSdict ex) ei ek ej fun val t hv => h _ _ R (Ext.tok t) hv
end
end Mine
-- M20
namespace Mine
open PySem PySem.W PySem.Calls PyProof.Rows PyProof PyProof.V PySem.SeqAt
section
variable {C : Cx} {A : Around} {E : Value → Shared → Prop} {s : Shared} {ρ : List Addr} {σ : AS}
theorem Rel.kept (R : Rel C ρ σ s.heap) {h' : Heap} (k : ∀ b o, s.heap.get? b = some o → h'.get? b = some o) : Rel C ρ σ h' := R.keeps k
theorem max2_sound (O : Ok C) (R : Rel C ρ σ s.heap) (hh : A.handled = none) {x y z : SI} {a b : Int} {t u : Tok} {Q : Value → Shared → Prop} (e : best C.T true x [.int y] = some z) (hx : x.rel C.ν a) (hy : y.rel C.ν b)
    (h : ∀ s' val, Rel C ρ σ s'.heap → Ext NoX ρ s ρ s' → VRel C ρ (.int z) val → Q val s') : wpAny C.M A (call (.builtin "max") [.int a t, .int b u]) Q E s := by
  refine max_two_ints hh fun h' tk k => h _ _ (R.keeps k) (Ext.kept k) ?_
  have e : (match ltS C.T x y with | some true => best C.T true y [] | some false => best C.T true x [] | none => none) = some z := e
  cases q : ltS C.T x y with
  | none => rw [q] at e; cases e
  | some c =>
    have := ltS_rel O.ν q hx hy
    rw [q] at e
    cases c with
    | true => cases e; rw [if_pos (of_decide_eq_true this)]; exact .int _ hy
    | false => cases e; rw [if_neg (of_decide_eq_false this)]; exact .int _ hx
theorem min2_sound (O : Ok C) (R : Rel C ρ σ s.heap) (hh : A.handled = none) {x y z : SI} {a b : Int} {t u : Tok} {Q : Value → Shared → Prop} (e : best C.T false x [.int y] = some z) (hx : x.rel C.ν a) (hy : y.rel C.ν b)
    (h : ∀ s' val, Rel C ρ σ s'.heap → Ext NoX ρ s ρ s' → VRel C ρ (.int z) val → Q val s') : wpAny C.M A (call (.builtin "min") [.int a t, .int b u]) Q E s := by
  refine min_two_ints hh fun h' tk k => h _ _ (R.keeps k) (Ext.kept k) ?_
  have e : (match ltS C.T y x with | some true => best C.T false y [] | some false => best C.T false x [] | none => none) = some z := e
  cases q : ltS C.T y x with
  | none => rw [q] at e; cases e
  | some c =>
    have := ltS_rel O.ν q hy hx
    rw [q] at e
    cases c with
    | true => cases e; rw [if_pos (of_decide_eq_true this)]; exact .int _ hy
    | false => cases e; rw [if_neg (of_decide_eq_false this)]; exact .int _ hx
end
end Mine
-- M21
namespace Mine
open PySem PySem.W PySem.Calls PyProof.Rows PyProof PyProof.V PySem.SeqAt
section
variable {C : Cx} {A : Around} {E : Value → Shared → Prop} {s : Shared} {ρ : List Addr} {σ : AS}
theorem least_step (O : Ok C) {x y z : SI} {r : List AV} {a b : Int} (e : best C.T false x (.int y :: r) = some z) (hx : x.rel C.ν a) (hy : y.rel C.ν b) :
    ∃ w, best C.T false w r = some z ∧ w.rel C.ν (if b < a then b else a) := by
  have e : (match ltS C.T y x with | some true => best C.T false y r | some false => best C.T false x r | none => none) = some z := e
  cases q : ltS C.T y x with
  | none => rw [q] at e; cases e
  | some c =>
    have := ltS_rel O.ν q hy hx
    rw [q] at e
    cases c with
    | true => rw [if_pos (of_decide_eq_true this)]; exact ⟨y, e, hy⟩
    | false => rw [if_neg (of_decide_eq_false this)]; exact ⟨x, e, hx⟩
theorem min3_sound (O : Ok C) (R : Rel C ρ σ s.heap) (hh : A.handled = none) {x y z w : SI} {a b c : Int} {t u v : Tok} {Q : Value → Shared → Prop} (e : best C.T false x [.int y, .int z] = some w) (hx : x.rel C.ν a) (hy : y.rel C.ν b) (hz : z.rel C.ν c)
    (h : ∀ s' val, Rel C ρ σ s'.heap → Ext NoX ρ s ρ s' → VRel C ρ (.int w) val → Q val s') : wpAny C.M A (call (.builtin "min") [.int a t, .int b u, .int c v]) Q E s := by
  ((refine x1a2 (least_step O e hx hy) (fun w1 e1 h1 => ?_)))
  ((refine x1a2 (least_step O e1 h1 hz) (fun w2 e2 h2 => ?_)))
  (revert h; apply q1 e2; intro h)
  refine min_three_ints hh fun h' tk k => ?_
  have key := fun tok => h { s with heap := h', toks := tk } (.int _ tok) (R.keeps k) (Ext.kept k) (.int tok h2)
  by_cases hba : b < a <;> by_cases hc1 : c < b <;> by_cases hc2 : c < a <;> simp only [hba, hc1, hc2, if_true, if_false] at key ⊢ <;> exact key _
end
end Mine
-- M22
namespace Mine
open PySem PySem.W PySem.Calls PyProof.Rows PyProof PyProof.V PySem.SeqAt
section
variable {C : Cx} {A : Around} {E : Value → Shared → Prop} {s : Shared} {ρ : List Addr} {σ : AS}
theorem bytesOk_rel : ∀ {xs : List AV} {vs : List Value}, bytesOk xs = true → VsRel C ρ xs vs → ∃ ns : List Int, IntsAre vs ns ∧ (∀ n ∈ ns, 0 ≤ n ∧ n < 256) ∧ ns.length = xs.length
  | [], vs, _, r => by cases r; exact ⟨[], .nil, fun _ h => (nomatch h), rfl⟩
  | x :: xs, vs, h, r => by
    unfold bytesOk at h
    split at h
    · rename_i z; cases z
    · rename_i n r' z
      cases z
      have qp := Bool.and_eq_true_iff.mp h; have h1 := qp.1; have h2 := qp.2; clear qp
      (revert r; intro hvv; apply VsRel.cCons hvv; clear hvv; intro _ _ hv r)
      ·
        (apply VRel.cInt hv; intro _ t hn; clear hv)
        ·
          ((refine x1a3 (bytesOk_rel h2 r) (fun ns a b c => ?_)))
          simp only [SI.rel] at hn
          subst hn
          have lt : n < 256 := Nat.le_of_ble_eq_true h1
          refine ⟨Int.ofNat n :: ns, .cons _ t a, fun m hm => ?_, by simp [c]⟩
          rcases List.mem_cons.mp hm with rfl | q
          · have eo : Int.ofNat n = (n : Int) := rfl
            omega
          · exact b m q
    · first | exact qN h | exact qFT h | exact qTF h | exact qS h | cases h
theorem bytes_list_sound (O : Ok C) (R : Rel C ρ σ s.heap) (hh : A.handled = none) {i : Nat} {a : Addr} {xs : List AV} {Q : Value → Shared → Prop} (ex : at? σ i = some (.list xs)) (ei : at? ρ i = some a) (hb : bytesOk xs = true) (hl : Nat.blt xs.length 4096 = true)
    (h : ∀ s' val, Rel C ρ σ s'.heap → Ext NoX ρ s ρ s' → VRel C ρ (.bytes (.lit (.ofNat xs.length))) val → Q val s') : wpAny C.M A (call (.type "bytes") [.ref a]) Q E s := by
  ((refine x1a2 (R.objs _ _ _ ex ei) (fun vs g f => ?_)))
  ((refine x1a3 (bytesOk_rel hb f) (fun ns i1 i2 i3 => ?_)))
  refine call_bytes_ints (vs := vs.toList) (by simpa using g.isList) i1 i2 (by rw [← f.length]; exact fits_of hl) hh fun h' t k hk => h _ _ (R.keeps hk) (Ext.kept hk) (.bytes _ ?_)
  have e : (byteArr ns).size = ns.length := by simp [byteArr]
  rw [e, i3]
  simp [SI.rel]
theorem len_list_sound (O : Ok C) (R : Rel C ρ σ s.heap) {i : Nat} {a : Addr} {xs : List AV} {Q : Value → Shared → Prop} (ex : at? σ i = some (.list xs)) (ei : at? ρ i = some a) (hl : Nat.blt xs.length 4096 = true)
    (h : ∀ val t, VRel C ρ (.int (.lit (.ofNat xs.length))) val → Q val { s with toks := t }) : wpAny C.M A (call (.builtin "len") [.ref a]) Q E s := by
  ((refine x1a2 (R.objs _ _ _ ex ei) (fun vs g f => ?_)))
  have e : vs.size = xs.length := by rw [← Array.length_toList (xs := vs), ← f.length]
  have lt : xs.length < 4096 := Nat.le_of_ble_eq_true hl
  exact call_len_list g.isList (by omega) (h _ _ (.int _ (by rw [e]; simp [SI.rel])))
theorem len_bytes_sound (O : Ok C) {n : SI} {b : Array UInt8} {t : Tok} {Q : Value → Shared → Prop} (hb : n.rel C.ν b.size) (hl : leS C.T n (.lit 65536) = true)
    (h : ∀ val t, VRel C ρ (.int n) val → Q val { s with toks := t }) : wpAny C.M A (call (.builtin "len") [.bytes b t]) Q E s := by
  have := leOf' O hl hb (show SI.rel C.ν (.lit 65536) 65536 by simp [SI.rel])
  exact PySem.W.len_bytes (by omega) (h _ _ (.int _ hb))
end
end Mine
-- M23
namespace Mine
open PySem PySem.W PySem.Calls PyProof.Rows PyProof PyProof.V PySem.SeqAt
theorem bb_bytes : typeLookup (.type "bytes") "__bytes__" = pure (some (.builtin "bytes.__bytes__")) := by rw [typeLookup_type, builtinLookup_eq_fast]; kernel_rfl
theorem bi_bytes : typeLookup (.type "int") "__bytes__" = pure none := by rw [typeLookup_type, builtinLookup_eq_fast]; kernel_rfl
section
variable {C : Cx} {A : Around} {E : Value → Shared → Prop} {s : Shared} {ρ : List Addr} {σ : AS}
theorem new_bytes {b : Array UInt8} {t : Tok} {Q : Value → Shared → Prop} (h : Q (.bytes b t) s) :
    codeAny C.M A (.call (.builtin "bytes.__new__") ⟨[.type "bytes", .bytes b t], []⟩) (wants Q E) s := by
  refine codeAny_of_tree ?_
  show wpAny _ A.in1 (do checkBuiltinCall "bytes.__new__" ⟨[.type "bytes", .bytes b t], []⟩; again (.builtin "bytes.__new__" ⟨[.type "bytes", .bytes b t], []⟩)) _ _ s
  refine wpAny_bind (wpAny_of_eq (F.bm_newCall _) (wpAny_pure ⟨plainId_quiet F.bm_plain _, codeAny_builtin F.bm_entry ?_⟩))
  rw [Around.under_plainId F.bm_plain _]
  unfold Builtin.«bytes.__new__»
  refine wpAny_bind (wpAny_of_eq (a := true) rfl ?_)
  refine bm_if_false rfl ?_
  refine wpAny_bind (wpAny_of_eq F.bm_sub ?_)
  refine bm_if_false rfl ?_
  refine wpAny_bind (wpAny_of_eq (F.bm_bind _) ?_)
  refine wpAny_bind (wpAny_of_eq (a := ()) rfl ?_)
  refine wpAny_bind (wpAny_of_eq (a := ()) rfl ?_)
  refine bm_if_false rfl ?_
  refine wpAny_bind (wpAny_specialOf (typeIs_bytes s b t) bb_bytes ?_)
  dsimp only
  refine wpAny_bind (wpAny_rule ?_)
  refine wpAny_bind (wpAny_typeOf (typeIs_bytes s b t) ?_)
  refine bm_if_true rfl ?_
  refine wpAny_of_eq (a := PySem.Fin.done (.ret (.bytes b t))) rfl ?_
  exact h
theorem bytes_bytes_sound {b : Array UInt8} {t : Tok} {Q : Value → Shared → Prop} (h : Q (.bytes b t) s) : wpAny C.M A (call (.type "bytes") [.bytes b t]) Q E s := by
  refine callType_codes (Q₁ := fun obj s₁ => s₁.TypeIs obj "bytes" ∧ Q obj s₁) F.bm_called (F.bm_typeCall _) F.entry_object_init
    (new_bytes ⟨typeIs_bytes _ _ _, h⟩) fun obj s₁ h₁ => ?_
  exact ⟨h₁.1, F.args_object_init_2 obj _, object_init_meets F.bm_called.init.lookup F.bm_called.made (by decide) C.prog C.w A.in1 _ s₁ ⟨h₁.1, rfl, h₁.2⟩⟩
end
end Mine
-- M24
namespace Mine
open PySem PySem.W PySem.Calls PyProof.Rows PyProof PyProof.V PySem.SeqAt
section
variable {C : Cx} {A : Around} {E : Value → Shared → Prop} {s : Shared} {ρ : List Addr} {σ : AS}
theorem new_zeros {n : Int} {t : Tok} {Q : Value → Shared → Prop} (h0 : 0 ≤ n) (h1 : n ≤ 65536) (h : ∀ (a : Array UInt8) t' k, (a.size : Int) = n → Q (.bytes a t') { s with toks := k }) :
    codeAny C.M A (.call (.builtin "bytes.__new__") ⟨[.type "bytes", .int n t], []⟩) (wants Q E) s := by
  refine codeAny_of_tree ?_
  show wpAny _ A.in1 (do checkBuiltinCall "bytes.__new__" ⟨[.type "bytes", .int n t], []⟩; again (.builtin "bytes.__new__" ⟨[.type "bytes", .int n t], []⟩)) _ _ s
  refine wpAny_bind (wpAny_of_eq (F.bm_newCall _) (wpAny_pure ⟨plainId_quiet F.bm_plain _, codeAny_builtin F.bm_entry ?_⟩))
  rw [Around.under_plainId F.bm_plain _]
  unfold Builtin.«bytes.__new__»
  refine wpAny_bind (wpAny_of_eq (a := true) rfl ?_)
  refine bm_if_false rfl ?_
  refine wpAny_bind (wpAny_of_eq F.bm_sub ?_)
  refine bm_if_false rfl ?_
  refine wpAny_bind (wpAny_of_eq (F.bm_bind _) ?_)
  refine wpAny_bind (wpAny_of_eq (a := ()) rfl ?_)
  refine wpAny_bind (wpAny_of_eq (a := ()) rfl ?_)
  refine bm_if_false rfl ?_
  refine wpAny_bind (wpAny_specialOf (typeIs_int s n t) bi_bytes ?_)
  dsimp only
  refine wpAny_bind (wpAny_of_eq (a := false) rfl ?_)
  refine bm_if_false rfl ?_
  refine wpAny_bind (wpAny_specialOf (typeIs_int s n t) F.slot_int_index.lookup ?_)
  refine bm_if_false rfl ?_
  refine wpAny_bind (wpAny_of_eq (a := (.ok n : Except Value Int)) rfl ?_)
  dsimp only
  refine bm_if_false (by
    have : Builtin.Bytes.fitsIndex n = true := by simp only [Builtin.Bytes.fitsIndex, Bool.and_eq_true, decide_eq_true_eq]; omega
    rw [this]; rfl) ?_
  refine wpAny_ite (KBy.ite_no (by omega) ?_)
  refine wpAny_ite (KBy.ite_no (by omega) ?_)
  have hr : (Array.replicate n.toNat (0 : UInt8)).size = n.toNat := Array.size_replicate
  have hz : (Array.replicate n.toNat (0 : UInt8)).size ≤ sizeLine := by rw [hr, sizeLine_eq]; omega
  have hl : Builtin.Bytes.tooLong n.toNat = false := by have := KBy.tooLong_not (n := n.toNat) (by omega); exact this
  rw [hl]
  refine bm_if_false rfl ?_
  refine wpAny_bind (wpAny_rule (wpAny_bind (wpAny_mkBytes ?_ hz)))
  exact wpAny_of_eq (a := PySem.Fin.done (.ret (.bytes (Array.replicate n.toNat (0 : UInt8)) s.toks))) rfl (h _ _ _ (by rw [hr]; omega))
theorem bytes_zeros_sound {n : Int} {t : Tok} {Q : Value → Shared → Prop} (h0 : 0 ≤ n) (h1 : n ≤ 65536) (h : ∀ (a : Array UInt8) t' k, (a.size : Int) = n → Q (.bytes a t') { s with toks := k }) : wpAny C.M A (call (.type "bytes") [.int n t]) Q E s := by
  refine callType_codes (Q₁ := fun obj s₁ => s₁.TypeIs obj "bytes" ∧ Q obj s₁) F.bm_called (F.bm_typeCall _) F.entry_object_init
    (new_zeros h0 h1 fun a t' k e => ⟨typeIs_bytes _ _ _, h a t' k e⟩) fun obj s₁ h₁ => ?_
  exact ⟨h₁.1, F.args_object_init_2 obj _, object_init_meets F.bm_called.init.lookup F.bm_called.made (by decide) C.prog C.w A.in1 _ s₁ ⟨h₁.1, rfl, h₁.2⟩⟩
end
end Mine
-- M25
namespace Mine
open PySem PySem.W PySem.Calls PyProof.Rows PyProof PyProof.V PySem.SeqAt

/-! the logic of good stacks: no code there that may hold a bytearray -/
noncomputable def badIds : List String := ["bytearray.__contains__", "bytearray.__mod__", "bytearray.__rmod__", "_struct.pack_into.held", "bytearray.find.held"] ++ Builtin.Bytes.decodersThatHold
noncomputable def fineC : Code → Bool
  | .builtin id _ => !badIds.contains id
  | _ => true
noncomputable def Good (Γ : Ctx) : Prop := fineC Γ.code = true ∧ ∀ x ∈ Γ.below, fineC x.1 = true
theorem Good.enter {Γ : Ctx} {c : Code} {hd : Option Value} {p : Pos} (h : Good Γ) (hc : fineC c = true) : Good (Γ.enter c hd p) :=
  ⟨hc, fun x hx => by
    rcases List.mem_cons.mp hx with rfl | q
    · exact h.1
    · exact h.2 x q⟩
theorem Good.goto {Γ : Ctx} {c : Code} (h : Good Γ) (hc : fineC c = true) : Good (Γ.goto c) := ⟨hc, h.2⟩
noncomputable abbrev NoE : Value → Shared → Prop := fun _ _ => False
noncomputable def G {α : Type} (M : Model) (A : Around) (t : Sem α) (Q : α → Shared → Prop) (s : Shared) : Prop :=
  ∀ Γ p, Γ.In A → Good Γ → Sem.wp M Γ t (fun a _ s' => Q a s') (fun _ _ _ => False) p s
noncomputable def CG (M : Model) (A : Around) (c : Code) (P : Flow → Shared → Prop) (s : Shared) : Prop :=
  ∀ Γ p, Γ.code = c → Γ.Below A → Good Γ → wpCode M Γ (fun r s' => ∃ f, r = .ok f ∧ P f s') p s

section
variable {α β : Type} {M : Model} {A : Around} {s : Shared}
theorem G.of {t : Sem α} {Q : α → Shared → Prop} (h : wpAny M A t Q NoE s) : G M A t Q s := fun Γ p hΓ _ => h Γ p hΓ
theorem CG.of {c : Code} {P : Flow → Shared → Prop} (h : codeAny M A c (fun r s' => ∃ f, r = .ok f ∧ P f s') s) : CG M A c P s := fun Γ p hc hΓ _ => h Γ p hc hΓ
theorem G.pure {a : α} {Q : α → Shared → Prop} (h : Q a s) : G M A (pure a) Q s := fun _ _ _ _ => h
theorem G.mono {t : Sem α} {Q Q' : α → Shared → Prop} (h : G M A t Q s) (hQ : ∀ a s, Q a s → Q' a s) : G M A t Q' s :=
  fun Γ p hΓ g => Sem.wp_mono M Γ t (fun a _ s => hQ a s) (fun _ _ _ x => x) p s (h Γ p hΓ g)
theorem CG.mono {c : Code} {P P' : Flow → Shared → Prop} (h : CG M A c P s) (hP : ∀ f s, P f s → P' f s) : CG M A c P' s :=
  fun Γ p hc hΓ g => wpCode_mono (fun r s' ⟨f, e, x⟩ => ⟨f, e, hP f s' x⟩) (h Γ p hc hΓ g)
theorem G.bind {m : Sem α} {f : α → Sem β} {Q : β → Shared → Prop} (h : G M A m (fun a s' => G M A (f a) Q s') s) : G M A (m >>= f) Q s := fun Γ p hΓ g => by
  rw [Sem.wp_bind']
  exact Sem.wp_mono M Γ m (fun a p' s' h' => h' Γ p' hΓ g) (fun _ _ _ h' => h') p s (h Γ p hΓ g)
theorem G.holding {vs : List Value} {m : Sem α} {Q : α → Shared → Prop} (h : G M A m Q s) : G M A (holding vs m) Q s :=
  fun Γ p hΓ g => by rw [Sem.wp_holding]; exact h Γ p hΓ g
theorem G.keep {vs : List Value} {m : Sem α} {Q : α → Shared → Prop} (h : G M A m Q s) : G M A (m.keep vs) Q s :=
  fun Γ p hΓ g => by rw [Sem.wp_keep]; exact h Γ p hΓ g
theorem G.onRaise {m : Sem α} {k : Value → Sem Unit} {Q : α → Shared → Prop} (h : G M A m Q s) : G M A (m.onRaise k) Q s := fun Γ p hΓ g => by
  rw [Sem.wp_onRaise]
  exact Sem.wp_mono M Γ m (fun _ _ _ h' => h') (fun _ _ _ h' => h'.elim) p s (h Γ p hΓ g)
theorem G.tryCatch {m : Sem α} {k : Value → Sem α} {Q : α → Shared → Prop} (h : G M A m Q s) : G M A (tryCatch m k) Q s := fun Γ p hΓ g => by
  rw [Sem.wp_tryCatch']
  exact Sem.wp_mono M Γ m (fun _ _ _ h' => h') (fun _ _ _ h' => h'.elim) p s (h Γ p hΓ g)
theorem G.attempt {m : Sem α} {Q : Except Value α → Shared → Prop} (h : G M A m (fun a => Q (.ok a)) s) : G M A m.attempt Q s := fun Γ p hΓ g => by
  rw [Sem.wp_attempt]
  exact Sem.wp_mono M Γ m (fun _ _ _ h' => h') (fun _ _ _ h' => h'.elim) p s (h Γ p hΓ g)
theorem G.standAt {pos : Pos} {Q : Unit → Shared → Prop} (h : Q () s) : G M A (standAt pos) Q s := fun _ _ _ _ => h
theorem G.rule {tag : String} {Q : Unit → Shared → Prop} (h : Q () s) : G M A (rule tag) Q s := fun _ _ _ _ => h
theorem G.point {Q : Unit → Shared → Prop} (h : Q () s) : G M A point Q s := fun _ _ _ _ => h
theorem G.ask {Q : Setting → Shared → Prop} (h : Q ⟨M.prog, M.w.params⟩ s) : G M A ask Q s := fun _ _ _ _ => h
theorem G.release {vs keep : List Value} {Q : Unit → Shared → Prop} (h : Q () s) : G M A (release vs keep) Q s := fun Γ p _ _ => by
  rw [Sem.wp_release]; exact h
theorem G.operate {vs : List Value} {m : Sem Value} {Q : Value → Shared → Prop} (h : G M A m Q s) : G M A (operate vs m) Q s := fun Γ p hΓ g => by
  rw [Sem.wp_operate]; exact h Γ p hΓ g
theorem G.eq {t : Sem α} {a : α} {Q : α → Shared → Prop} (e : t = Pure.pure a) (h : Q a s) : G M A t Q s := by rw [e]; exact G.pure h
theorem mark_none (A : Around) : A.mark none = A := by cases A; rfl
theorem G.run {c : Code} {Q : Flow → Shared → Prop} (hc : fineC c = true) (h : CG M A c Q s) : G M A (PySem.run c none) Q s := fun Γ p hΓ g => by
  rw [Sem.wp_run]
  have hb := hΓ.enter c none p (by intro x; cases x)
  rw [mark_none] at hb
  refine wpCode_mono (fun r s' ⟨f, e, x⟩ => ?_) (h _ p rfl hb (g.enter hc))
  subst e; exact x
theorem G.runValue {c : Code} {Q : Value → Shared → Prop} (hc : fineC c = true) (h : CG M A c (fun f s' => ∃ v, f = .ret v ∧ Q v s') s) : G M A (runValue c) Q s := by
  unfold PySem.runValue
  refine G.bind (G.mono (G.run hc h) fun f s' x => ?_)
  ((refine x1a2 (x) (fun v qr1 q => ?_)); subst qr1)
  exact G.pure q
theorem G.call {f : Value} {pos : List Value} {kw : List (Str × Value)} {Q : Value → Shared → Prop} (h : CG M A (.call f ⟨pos, kw⟩) (fun f s' => ∃ v, f = .ret v ∧ Q v s') s) : G M A (call f pos kw) Q s :=
  G.runValue rfl h
theorem G.runOwn {c : Code} {env : Env} {Q : Flow → Shared → Prop} (hc : fineC c = true) (h : CG M A c Q s) : G M A (runOwn c env) Q s := G.onRaise (G.run hc h)
theorem CG.tree {c : Code} {P : Flow → Shared → Prop}
    (h : G M (A.under c) (M.den c) (fun fin s' => match fin with | .done f => P f s' | .again c' => c'.quiet = true ∧ fineC c' = true ∧ CG M A c' P s') s) : CG M A c P s := fun Γ p hc hΓ g => by
  rw [wpCode_iff_wp, hc]
  refine Sem.wp_mono M Γ _ (fun fin p' s' h' => ?_) (fun _ _ _ h' => h'.elim) p s (h Γ p (hc ▸ hΓ.in) g)
  cases fin with
  | done f => exact ⟨f, rfl, h'⟩
  | again c' => exact ⟨h'.1, h'.2.2 (Γ.goto c') p' rfl (hΓ.goto c') (g.goto h'.2.1)⟩
theorem G.looks {t : Sem α} {r : α} {Q : α → Shared → Prop} (x : Looks M s.heap t r) (q : Q r s) : G M A t Q s := G.of (x.here q)
end
end Mine
-- M26
namespace Mine
open PySem PySem.W PySem.Calls PyProof.Rows PyProof PyProof.V PySem.SeqAt

namespace FY
theorem slot_init : Slot "bytearray" "__init__" "bytearray.__init__" :=
  .of (owner := "bytearray") (n := "__init__") (by rw [typeLookup_type, builtinLookup_eq_fast]; kernel_rfl) (by decide +kernel) (by decide +kernel) (by decide +kernel)
    (by first | exact .inl (by decide +kernel) | exact .inr (by decide +kernel)) (by rw [isSubtype_type]; kernel_rfl)
theorem slot_len : Slot "bytearray" "__len__" "bytearray.__len__" :=
  .of (owner := "bytearray") (n := "__len__") (by rw [typeLookup_type, builtinLookup_eq_fast]; kernel_rfl) (by decide +kernel) (by decide +kernel) (by decide +kernel)
    (by first | exact .inl (by decide +kernel) | exact .inr (by decide +kernel)) (by rw [isSubtype_type]; kernel_rfl)
theorem entry_init : entryFor table "bytearray.__init__" = some Builtin.«bytearray.__init__» := entryFor_of_tree (by kernel_rfl)
theorem entry_len : entryFor table "bytearray.__len__" = some Builtin.«bytearray.__len__» := entryFor_of_tree (by kernel_rfl)
theorem entry_new : entryFor table "bytearray.__new__" = some Builtin.«list.__new__» := entryFor_alias (id' := "list.__new__") (by rw [fastTable_eq_tree]; kernel_rfl) (by first | rfl | decide +kernel) (by decide +kernel) (by rw [fastTable_eq_tree]; kernel_rfl)
theorem args_init (a : Value) : argsOk "bytearray.__init__" ⟨[a], []⟩ := by unfold argsOk; kernel_rfl
theorem args_len (a : Value) : argsOk "bytearray.__len__" ⟨[a], []⟩ := by unfold argsOk; kernel_rfl
theorem mro : mroOf (.type "bytearray") = pure [.type "bytearray", .type "object"] := by rw [mroOf_type]; kernel_rfl
theorem lookup_new : typeLookup (.type "bytearray") "__new__" = pure (some (.builtin "bytearray.__new__")) := by rw [typeLookup_type, builtinLookup_eq_fast]; kernel_rfl
theorem called : TypeCalled "bytearray" "bytearray.__new__" "bytearray.__init__" :=
  ⟨by decide +kernel, by decide +kernel, ⟨_, _, mro⟩, madeBy_type mro lookup_new (by decide +kernel), by decide +kernel, by rw [isSubtype_type]; kernel_rfl, slot_init⟩
theorem typeCall : checkTypeCall "bytearray" ⟨[], []⟩ = pure () := by kernel_rfl
theorem newCall : checkBuiltinCall "bytearray.__new__" ⟨[.type "bytearray"], []⟩ = pure () := by kernel_rfl
theorem plain_new : plainId "bytearray.__new__" = true := by decide +kernel
theorem sub_self : isSubtype (.type "bytearray") (.type "bytearray") = pure true := by rw [isSubtype_type]; kernel_rfl
theorem rel : typeLookup (.type "bytearray") "__release_buffer__" = pure (some (.builtin "bytearray.__release_buffer__")) := by rw [typeLookup_type, builtinLookup_eq_fast]; kernel_rfl
theorem bind0 : Builtin.Bytes.bindOptional "bytearray.__init__" "bytearray" ["source", "encoding", "errors"] [] [] = pure [none, none, none] := by kernel_rfl
theorem ends : "bytearray.__release_buffer__".endsWith ("." ++ "__release_buffer__") = true := by decide +kernel
theorem drops : "bytearray.__release_buffer__".dropRight ("__release_buffer__".length + 1) = "bytearray" := by decide +kernel
end FY
set_option maxRecDepth 1000000 in
set_option maxHeartbeats 4000000 in
theorem owner_bytearray_new : ("bytearray.__new__".splitOn ".__new__").headD "" = "bytearray" := by simp +decide [String.splitOn, String.splitOnAux]

theorem fineB {id : String} {args : Args} (h : badIds.contains id = false) : fineC (.builtin id args) = true := by
  show (!badIds.contains id) = true
  rw [h]; rfl
theorem not_true {b : Bool} (h : (!b) = true) : b = false := by cases b <;> first | rfl | cases h
theorem dite_else {c : Prop} [Decidable c] {α : Type} {t : c → α} {e : ¬c → α} {x : α} (n : ¬c) (h : e n = x) : dite c t e = x := (dif_neg n).trans h
theorem bad_ne {id b : String} (hb : badIds.contains id = false) (k : badIds.contains b = true) : id ≠ b := fun e => by rw [e, k] at hb; cases hb
theorem any_off {f : Code × Pos → Bool} (hf : ∀ c p, fineC c = true → f (c, p) = false) : ∀ (l : List (Code × Pos)), (∀ x ∈ l, fineC x.1 = true) → l.any f = false
  | [], _ => rfl
  | (c, p) :: l, h => by
    rw [List.any_cons, any_off hf l fun x hx => h x (List.mem_cons_of_mem _ hx), hf c p (h (c, p) List.mem_cons_self)]; rfl
theorem g_exported {M : Model} {A : Around} {s : Shared} {a : Addr} {Q : Bool → Shared → Prop} (h : Q false s) : G M A (Builtin.Bytes.exported (.ref a)) Q s := fun Γ p hΓ g => by
  show Q (List.any ((Γ.code, p) :: Γ.below) _) s
  rw [any_off ?_ _ ?_]
  · exact h
  · intro c p hc
    cases c with
    | builtin id args =>
      have hb : badIds.contains id = false := not_true hc
      have ne : ∀ b, badIds.contains b = true → id ≠ b := fun b => bad_ne hb
      delta PySem.Builtin.Bytes.exported.match_1
      refine dite_else (ne "bytearray.__contains__" (by decide +kernel)) ?_
      refine dite_else (ne "bytearray.__mod__" (by decide +kernel)) ?_
      refine dite_else (ne "bytearray.__rmod__" (by decide +kernel)) ?_
      refine dite_else (ne "_struct.pack_into.held" (by decide +kernel)) ?_
      refine dite_else (ne "bytearray.find.held" (by decide +kernel)) ?_
      obtain ⟨pos, kw⟩ := args
      cases pos with
      | nil => rfl
      | cons v r =>
        show (Builtin.Bytes.sameRef v _ && Builtin.Bytes.decodersThatHold.contains id) = false
        cases q : Builtin.Bytes.decodersThatHold.contains id with
        | false => exact Bool.and_false _
        | true =>
          have z : badIds.contains id = true := List.contains_iff_mem.mpr (List.mem_append_right _ (List.contains_iff_mem.mp q))
          rw [hb] at z; cases z
    | _ => rfl
  · intro x hx
    rcases List.mem_cons.mp hx with rfl | q
    · exact g.1
    · exact g.2 x q

section
variable {prog : Program} {w : World} {A : Around} {s : Shared}
theorem new_bytearray {Q₁ : Value → Shared → Prop} (h : Q₁ (.ref s.heap.objs.size) { s with heap := s.heap.push { cls := .type "bytearray", data := .bytearray #[] } }) :
    codeAny (model prog w) A (.call (.builtin "bytearray.__new__") ⟨[.type "bytearray"], []⟩) (wants Q₁ NoE) s := by
  refine codeAny_of_tree ?_
  show wpAny _ A.in1 (do checkBuiltinCall "bytearray.__new__" ⟨[.type "bytearray"], []⟩; again (.builtin "bytearray.__new__" ⟨[.type "bytearray"], []⟩)) _ _ s
  refine wpAny_bind (wpAny_of_eq FY.newCall (wpAny_pure ⟨plainId_quiet FY.plain_new _, codeAny_builtin_stack FY.entry_new rfl fun p st => ?_⟩))
  rw [Around.under_plainId FY.plain_new _]
  have hsub := FY.sub_self
  have hown := owner_bytearray_new
  obtain ⟨hp, g, d, tk, os⟩ := s
  simp only [hown]
  wp_walk
  exact h

theorem CG.builtin {id : String} {args : Args} {b : Builtin} {P : Flow → Shared → Prop} (hb : entryFor table id = some b)
    (h : G (model prog w) (A.under (.builtin id args)) (b args) (fun fin s' => match fin with | .done f => P f s' | .again c' => c'.quiet = true ∧ fineC c' = true ∧ CG (model prog w) A c' P s') s) : CG (model prog w) A (.builtin id args) P s := by
  refine CG.tree ?_
  show G _ _ (match entryFor table id with | some b => b args | none => unsupported ((withoutEnding? id "#data").getD id)) _ s
  rw [hb]; exact h
/-- the code of bytearray.__init__ without arguments: what is never reached has a name alone -/
theorem init_code (a : Addr) : ∃ (X Y : Bool → Sem Fin) (K : List (Option Value) → Sem Fin), Builtin.«bytearray.__init__» ⟨[.ref a], []⟩ =
      (Builtin.Bytes.ownRelease (.ref a) >>= fun b => if b = true then X b else Builtin.Bytes.bindOptional "bytearray.__init__" "bytearray" ["source", "encoding", "errors"] [] [] >>= K) ∧
    K [none, none, none] = ((Builtin.Bytes.exported (.ref a) <||> (Builtin.Bytes.exportsOf (.ref a) >>= fun n => pure (decide (n > 0)))) >>= fun b => if b = true then Y b else Builtin.Bytes.write (.ref a) (fun _ => #[]) >>= fun _ => ret .none) :=
  ⟨_, _, _, rfl, rfl⟩
theorem own_not {a : Addr} {Q : Bool → Shared → Prop} (hT : s.TypeIs (.ref a) "bytearray") (h : Q false s) : G (model prog w) A (Builtin.Bytes.ownRelease (.ref a)) Q s := by
  refine G.of ?_
  unfold Builtin.Bytes.ownRelease Builtin.Bytes.slotIsOwn
  refine wpAny_bind (wpAny_bind (wpAny_specialOf hT FY.rel ?_))
  dsimp only
  rw [FY.ends]
  simp only [Bool.not_true, Bool.false_eq_true, if_false]
  rw [FY.drops]
  exact wpAny_isInstance hT FY.sub_self (wpAny_pure h)
theorem g_else {α : Type} {M : Model} {t e : Sem α} {Q : α → Shared → Prop} (h : G M A e Q s) : G M A (if false = true then t else e) Q s := h
theorem init_bytearray {a : Addr} {Q : Shared → Prop} (ha : s.heap.get? a = some { cls := .type "bytearray", data := .bytearray #[] })
    (h : ∀ h', h'.get? a = some { cls := .type "bytearray", data := .bytearray #[] } → Heap.SameBut a s.heap h' → Q { s with heap := h' }) :
    CG (model prog w) A (.call (.builtin "bytearray.__init__") ⟨[.ref a], []⟩) (fun f s' => f = .ret .none ∧ Q s') s := by
  have hT : s.TypeIs (.ref a) "bytearray" := ⟨_, ha, rfl⟩
  refine CG.tree ?_
  show G _ _ (do checkBuiltinCall "bytearray.__init__" ⟨[.ref a], []⟩; again (.builtin "bytearray.__init__" ⟨[.ref a], []⟩)) _ s
  refine G.bind (G.of (FY.slot_init.check _ _ _ _ _ _ _ _ hT (FY.args_init _) ?_))
  refine G.pure ⟨plainId_quiet (by decide +kernel) _, fineB (by decide +kernel), CG.builtin FY.entry_init ?_⟩
  ((refine x3a2 (init_code a) (fun X Y K e1 e2 => ?_)))
  rw [e1]
  refine G.bind (own_not hT (g_else (G.bind (G.eq FY.bind0 ?_))))
  rw [e2]
  refine G.bind ?_
  unfold orM
  refine G.bind (g_exported ?_)
  refine G.of ?_
  show wpAny _ _ (Builtin.Bytes.exportsOf (.ref a) >>= fun n => pure (decide (n > 0))) _ _ _
  refine wpAny_bind ?_
  unfold Builtin.Bytes.exportsOf
  refine wpAny_bind (wpAny_load ha (wpAny_pure (wpAny_pure (g_else (G.of (wpAny_bind ?_))))))
  unfold Builtin.Bytes.write updateBytearray
  refine wpAny_bind (wpAny_load ha ?_)
  show wpAny _ _ (update a (Obj.mapBytearray fun _ => #[]) >>= fun _ => lookBehind a) _ _ _
  refine wpAny_bind (wpAny_update ha ?_)
  have ha' : (s.heap.update a (Obj.mapBytearray fun _ => #[])).get? a = some { cls := .type "bytearray", data := .bytearray #[] } := Heap.get?_update_self _ ha rfl
  exact wpAny_lookBehind ha' rfl (wpAny_pure ⟨rfl, h _ ha' (Heap.SameBut.update ..)⟩)

theorem g_bytearray {Q : Value → Shared → Prop} (h : ∀ h' x, h'.get? s.heap.objs.size = some { cls := .type "bytearray", data := .bytearray #[] } → (∀ b o, s.heap.get? b = some o → h'.get? b = some o) → x = .ref s.heap.objs.size → Q x { s with heap := h' }) :
    G (model prog w) A (call (.type "bytearray") []) Q s := by
  refine G.call (CG.tree ?_)
  show G _ _ (callAny (.type "bytearray") _) _ _
  refine G.pure ⟨Code.quiet_builtin _ (by decide +kernel), fineB (by decide +kernel), CG.builtin F.entry_type_call ?_⟩
  have h1 := FY.called.notType
  have h2 := FY.called.canCreate
  have h3 := FY.typeCall
  have h4 := FY.mro
  have h5 := FY.called.made
  have h6 := FY.sub_self
  unfold Builtin.«type.__call__»
  dsimp only
  rw [h1, h2, h3, h4, h5]
  simp only [Bool.false_eq_true, if_false]
  refine G.bind (G.pure ?_)
  refine G.bind (G.pure ?_)
  simp only [List.isEmpty_cons, Bool.false_eq_true, if_false]
  refine G.bind (G.pure ?_)
  refine G.bind (G.pure ?_)
  refine G.bind (G.holding (G.call (CG.of (codeAny_mono (new_bytearray (Q₁ := fun v s₁ => v = .ref s.heap.objs.size ∧ s₁ = { s with heap := s.heap.push { cls := .type "bytearray", data := .bytearray #[] } }) ⟨rfl, rfl⟩) fun r s₁ hr => ?_))))
  rcases r with e | fl
  · exact hr.elim
  cases fl with
  | ret v =>
    obtain ⟨rfl, rfl⟩ : v = .ref s.heap.objs.size ∧ s₁ = { s with heap := s.heap.push { cls := .type "bytearray", data := .bytearray #[] } } := hr
    refine ⟨_, rfl, _, rfl, ?_⟩
    have hx : (s.heap.push { cls := .type "bytearray", data := .bytearray #[] }).get? s.heap.objs.size = some { cls := .type "bytearray", data := .bytearray #[] } := Heap.get?_push_size _ rfl
    have hT : ({ s with heap := s.heap.push { cls := .type "bytearray", data := .bytearray #[] } } : Shared).TypeIs (.ref s.heap.objs.size) "bytearray" := ⟨_, hx, rfl⟩
    refine G.bind (G.of (wpAny_isInstance hT h6 ?_))
    simp only [Bool.not_true, Bool.false_eq_true, if_false]
    refine G.bind (G.holding ?_)
    unfold callSpecial?
    refine G.bind (G.of (wpAny_specialOf hT FY.slot_init.lookup ?_))
    dsimp only
    refine G.holding (G.bind ?_)
    rw [FY.slot_init.bind]
    refine G.pure (G.bind (G.call (CG.mono (init_bytearray (Q := fun s₂ => ∃ h', s₂ = { s with heap := h' } ∧ h'.get? s.heap.objs.size = some { cls := .type "bytearray", data := .bytearray #[] } ∧ ∀ b o, s.heap.get? b = some o → h'.get? b = some o) hx
      fun h' hh hs => ⟨h', rfl, hh, fun b o e => (hs.2 b (Nat.ne_of_lt (Heap.lt_size e))).trans (Heap.get?_push_of_some _ e)⟩) fun f s₂ hf => ?_)))
    obtain ⟨rfl, h', rfl, k1, k2⟩ := hf
    refine ⟨_, rfl, G.pure ?_⟩
    dsimp only
    exact G.pure ⟨_, rfl, h _ _ k1 k2 rfl⟩
  | _ => exact hr.elim
end
end Mine
-- M27
namespace Mine
open PySem PySem.W PySem.Calls PyProof.Rows PyProof PyProof.V PySem.SeqAt
section
variable {C : Cx} {A : Around} {s : Shared} {ρ : List Addr} {σ : AS}
theorem any_sound (O : Ok C) (R : Rel C ρ σ s.heap) (hh : A.handled = none) {i : Nat} {a : Addr} {Q : Value → Shared → Prop} (ex : at? σ i = some (.list [])) (ei : at? ρ i = some a)
    (h : ∀ s', Rel C ρ σ s'.heap → Ext NoX ρ s ρ s' → Q (.bool false) s') : wpAny C.M A (call (.builtin "any") [.ref a]) Q NoE s := by
  ((refine x1a2 (R.objs _ _ _ ex ei) (fun vs g f => ?_)))
  have hv : vs = #[] := by
    obtain ⟨l⟩ := vs
    have : l = [] := by cases f; rfl
    rw [this]
  subst hv
  have hl := g.isList
  have hlt : a < s.heap.objs.size := by obtain ⟨_, e, _⟩ := hl; exact Heap.lt_size e
  refine call_any_walk (wpAny_pyIter_list hl ?_)
  refine ⟨s.heap.objs.size, [s.heap.objs.size, a], [s.heap.objs.size], 0, _, _, fun i => false, rfl, Walks.list (A := A.in1) hh _ a (Nat.ne_of_lt hlt) #[],
    ⟨⟨_, Heap.get?_push_size _ rfl, rfl, rfl⟩, hl.push _⟩, fun i v s' Q' E' hP hQ => ?_, fun h' tk hk => ?_⟩
  · simp at hP
  · have k : ∀ b o, s.heap.get? b = some o → h'.get? b = some o := fun b x e => hk b x (fun hm => by rw [List.mem_singleton.mp hm] at e; exact Nat.lt_irrefl _ (Heap.lt_size e)) (Heap.get?_push_of_some _ e)
    exact h _ (R.keeps k) (Ext.kept k)
theorem len_barr_sound {a : Addr} {n : Nat} {Q : Value → Shared → Prop} (ha : s.heap.get? a = some { cls := .type "bytearray", data := .bytearray #[] n })
    (h : ∀ val t, VRel C ρ (.int (.lit 0)) val → Q val { s with toks := t }) : wpAny C.M A (call (.builtin "len") [.ref a]) Q NoE s := by
  have hT : s.TypeIs (.ref a) "bytearray" := ⟨_, ha, rfl⟩
  refine call_function_entry kind_len plain_len entry_len (args_len1 _) ?_
  unfold Builtin.«len»
  refine wpAny_bind (m := oneArg "len" _) (wpAny_pure ?_)
  refine wpAny_bind (m := callSpecial? (.ref a) (Str.ofString "__len__")) (wpAny_callSpecial?_slot (name := Str.ofString "__len__") hT FY.slot_len
    (wpAny_call_entry FY.slot_len hT FY.entry_len ?_ (FY.args_len _)))
  show wpAny _ _ (Builtin.Bytes.payload (.ref a) >>= fun b => retInt b.size) _ _ s
  unfold Builtin.Bytes.payload Builtin.Bytes.payload?
  refine wpAny_bind (wpAny_bind (wpAny_bind (wpAny_load ha (wpAny_pure ?_))))
  refine wpAny_pure (wpAny_bind (wpAny_mkInt (wpAny_pure ⟨_, rfl, ?_⟩)))
  show wpAny _ _ _ _ _ { s with toks := s.toks + 1 }
  refine wpAny_bind (wpAny_holding (wpAny_pure ?_))
  refine wpAny_bind (wpAny_letGo ?_)
  exact wpAny_bind (wpAny_mkInt (wpAny_pure ⟨_, rfl, h _ _ (.int _ (by simp [SI.rel]))⟩))

theorem len_flist_sound (R : Rel C ρ σ s.heap) {i : Nat} {a : Addr} {xs : List AV} {ws : List Value} {n : Nat} {Q : Value → Shared → Prop} (ex : at? σ i = some (.flist xs ws n)) (ei : at? ρ i = some a)
    (h : ∀ val t, VRel C ρ (.int (.lit (.ofNat xs.length))) val → Q val { s with toks := t }) : wpAny C.M A (call (.builtin "len") [.ref a]) Q NoE s := by
  have qp := R.objs _ _ _ ex ei; have g := qp.1; have f := qp.2.1; have lt := qp.2.2; clear qp
  have e := f.length
  have g' : s.heap.PlainList a ws.toArray := ⟨_, g⟩
  exact call_len_list g'.isList (by simp; omega) (h _ _ (.int _ (by simp [SI.rel, e])))
theorem vs1 {a : AV} {vs : List Value} (h : VsRel C ρ [a] vs) : ∃ v, vs = [v] ∧ VRel C ρ a v := h.rOne (P := fun vs => ∃ v, vs = [v] ∧ VRel C ρ a v) rfl fun v h => ⟨v, rfl, h⟩
theorem vs2 {a b : AV} {vs : List Value} (h : VsRel C ρ [a, b] vs) : ∃ v u, vs = [v, u] ∧ VRel C ρ a v ∧ VRel C ρ b u := h.rTwo (P := fun vs => ∃ v u, vs = [v, u] ∧ VRel C ρ a v ∧ VRel C ρ b u) (p := (a, b)) rfl fun v u h k => ⟨v, u, rfl, h, k⟩
theorem vs0 {vs : List Value} (h : VsRel C ρ [] vs) : vs = [] := h.cNil (P := fun vs => vs = []) rfl
theorem vint {e : SI} {v : Value} (h : VRel C ρ (.int e) v) : ∃ n t, v = .int n t ∧ e.rel C.ν n := h.iInt
theorem vbytes {e : SI} {v : Value} (h : VRel C ρ (.bytes e) v) : ∃ b t, v = .bytes b t ∧ e.rel C.ν b.size := h.iBytes
theorem vown {i : Nat} {v : Value} (h : VRel C ρ (.own i) v) : ∃ a, v = .ref a ∧ at? ρ i = some a := h.iOwn
theorem vbool {b : Bool} {v : Value} (h : VRel C ρ (.bool b) v) : v = .bool b := h.cBool (P := fun v => v = .bool b) rfl

/-- what is to be shown of what comes behind -/
noncomputable def Kn (C : Cx) (ρ : List Addr) (s : Shared) (Q : Value → Shared → Prop) (v : AV) (σ' : AS) : Prop := ∀ ρ' s' val, Rel C ρ' σ' s'.heap → Ext NoX ρ s ρ' s' → VRel C ρ' v val → Q val s'
theorem Kn.alloc {Q : Value → Shared → Prop} {o : AO} (h : Kn C ρ s Q (alloc σ o).1 (alloc σ o).2) : Kn C ρ s Q (.own σ.length) (σ ++ [o]) := by
  rw [alloc_eq] at h; exact h
theorem Kn.tok {Q : Value → Shared → Prop} {v : AV} (h : Kn C ρ s Q v σ) (R : Rel C ρ σ s.heap) {val : Value} (hv : VRel C ρ v val) (t : Nat) : Q val { s with toks := t } := h ρ { s with toks := t } val R (Ext.tok t) hv
section
variable {a : AV} {w fv : Value} {p : AV × AV} {p3 : AV × AV × AV} {id : String} {args : List AV} {vs : List Value} {v : AV} {σ' : AS} {Q : Value → Shared → Prop}
theorem bLen_sound (O : Ok C) (R : Rel C ρ σ s.heap) (e : bLen C.T σ a = some (v, σ')) (h1 : VRel C ρ a w) (h : Kn C ρ s Q v σ') : G C.M A (call (.builtin "len") [w]) Q s := by
  refine orC e (fun e => thenC e fun n e1 e => whenC e fun hl e => h1.rBytes (P := fun w => G C.M A (call _ [w]) Q s) e1 fun b t hb => q2 (P := fun v σ' => Kn C ρ s Q v σ' → G C.M A _ Q s) e (fun h => ?_) h)
    fun e => thenC e fun i e1 e => h1.rOwn (P := fun w => G C.M A (call _ [w]) Q s) e1 fun d ei => ?_
  · exact G.of (len_bytes_sound O hb hl fun val t hv => h.tok R hv t)
  refine orC e (fun e => thenC e fun xs ex e => whenC e fun hl e => q2 (P := fun v σ' => Kn C ρ s Q v σ' → G C.M A _ Q s) e (fun h => ?_) h) fun e =>
    orC e (fun e => thenC e fun xs ex e => q2 (P := fun v σ' => Kn C ρ s Q v σ' → G C.M A _ Q s) e (fun h => ?_) h) fun e => thenC e fun xs ex e => q2 (P := fun v σ' => Kn C ρ s Q v σ' → G C.M A _ Q s) e (fun h => ?_) h
  · exact G.of (len_list_sound O R (atList ex) ei hl fun val t hv => h.tok R hv t)
  · exact x1a1 (R.objs _ _ _ (atBarr ex) ei) fun n g => G.of (len_barr_sound g fun val t hv => h.tok R hv t)
  · exact G.of (len_flist_sound R (atFlist ex) ei fun val t hv => h.tok R hv t)
theorem two_int {x y : SI} {P : Value → Value → Prop} {w1 w2 : Value} {a b : AV} (e1 : vInt a = some x) (e2 : vInt b = some y) (h1 : VRel C ρ a w1) (h2 : VRel C ρ b w2) (k : ∀ n t m u, x.rel C.ν n → y.rel C.ν m → P (.int n t) (.int m u)) : P w1 w2 :=
  h1.rInt (P := fun w1 => P w1 w2) e1 fun n t k1 => h2.rInt (P := fun w2 => P _ w2) e2 fun m u k2 => k n t m u k1 k2
theorem bMin2_sound (O : Ok C) (R : Rel C ρ σ s.heap) (hh : A.handled = none) {w1 w2 : Value} (e : bBest2 C.T false σ p = some (v, σ')) (h1 : VRel C ρ p.1 w1) (h2 : VRel C ρ p.2 w2) (h : Kn C ρ s Q v σ') : G C.M A (call (.builtin "min") [w1, w2]) Q s :=
  thenC e fun x e1 e => thenC e fun y e2 e => two_int (P := fun w1 w2 => G C.M A (call _ [w1, w2]) Q s) e1 e2 h1 h2 fun n t m u k1 k2 => thenC e fun z ez e =>
    q2 (P := fun v σ' => Kn C ρ s Q v σ' → G C.M A _ Q s) e (fun h => G.of (min2_sound O R hh ez k1 k2 fun s' val R' x hv => h ρ _ _ R' x hv)) h
theorem bMax2_sound (O : Ok C) (R : Rel C ρ σ s.heap) (hh : A.handled = none) {w1 w2 : Value} (e : bBest2 C.T true σ p = some (v, σ')) (h1 : VRel C ρ p.1 w1) (h2 : VRel C ρ p.2 w2) (h : Kn C ρ s Q v σ') : G C.M A (call (.builtin "max") [w1, w2]) Q s :=
  thenC e fun x e1 e => thenC e fun y e2 e => two_int (P := fun w1 w2 => G C.M A (call _ [w1, w2]) Q s) e1 e2 h1 h2 fun n t m u k1 k2 => thenC e fun z ez e =>
    q2 (P := fun v σ' => Kn C ρ s Q v σ' → G C.M A _ Q s) e (fun h => G.of (max2_sound O R hh ez k1 k2 fun s' val R' x hv => h ρ _ _ R' x hv)) h
theorem bMin3_sound (O : Ok C) (R : Rel C ρ σ s.heap) (hh : A.handled = none) {w1 w2 w3 : Value} (e : bMin3 C.T σ p3 = some (v, σ')) (h1 : VRel C ρ p3.1 w1) (h2 : VRel C ρ p3.2.1 w2) (h3 : VRel C ρ p3.2.2 w3) (h : Kn C ρ s Q v σ') : G C.M A (call (.builtin "min") [w1, w2, w3]) Q s :=
  thenC e fun x e1 e => thenC e fun y e2 e => thenC e fun z e3 e => two_int (P := fun w1 w2 => G C.M A (call _ [w1, w2, w3]) Q s) e1 e2 h1 h2 fun n t m u k1 k2 => h3.rInt (P := fun w3 => G C.M A (call _ [_, _, w3]) Q s) e3 fun l t3 k3 => thenC e fun z ez e =>
    q2 (P := fun v σ' => Kn C ρ s Q v σ' → G C.M A _ Q s) e (fun h => G.of (min3_sound O R hh ez k1 k2 k3 fun s' val R' x hv => h ρ _ _ R' x hv)) h
theorem bMaxB_sound (R : Rel C ρ σ s.heap) (hh : A.handled = none) {w1 w2 : Value} (e : bMaxB σ p = some (v, σ')) (h1 : VRel C ρ p.1 w1) (h2 : VRel C ρ p.2 w2) (h : Kn C ρ s Q v σ') : G C.M A (call (.builtin "max") [w1, w2]) Q s := by
  refine thenC e fun x e1 e => thenC e fun y e2 e => thenC e fun c ec e => h1.rBnd (P := fun w1 => G C.M A (call _ [w1, w2]) Q s) e1 fun t k1 => h2.rBnd (P := fun w2 => G C.M A (call _ [_, w2]) Q s) e2 fun u k2 => ?_
  have z := bndGt_of ec k2 k1
  cases c with
  | true =>
    refine q2 (P := fun v σ' => Kn C ρ s Q v σ' → G C.M A _ Q s) e (fun h => G.of (max_two_ints hh fun hp tk k => h ρ _ _ (R.keeps k) (Ext.kept k) ?_)) h
    rw [if_pos (of_decide_eq_true z)]
    exact .bnd _ k2
  | false =>
    refine q2 (P := fun v σ' => Kn C ρ s Q v σ' → G C.M A _ Q s) e (fun h => G.of (max_two_ints hh fun hp tk k => h ρ _ _ (R.keeps k) (Ext.kept k) ?_)) h
    rw [if_neg (of_decide_eq_false z)]
    exact .bnd _ k1
theorem bAny_sound (O : Ok C) (R : Rel C ρ σ s.heap) (hh : A.handled = none) (e : bAny σ a = some (v, σ')) (h1 : VRel C ρ a w) (h : Kn C ρ s Q v σ') : G C.M A (call (.builtin "any") [w]) Q s :=
  thenC e fun i e1 e => h1.rOwn (P := fun w => G C.M A (call _ [w]) Q s) e1 fun d ei => thenC e fun xs ex e => thenC e fun u e2 e =>
    q2 (P := fun v σ' => Kn C ρ s Q v σ' → G C.M A _ Q s) e (fun h => nilC (P := fun xs => atA aList σ i = some xs → G C.M A _ Q s) e2 (fun ex => G.of (any_sound O R hh (atList ex) ei fun s' R' x => h ρ _ _ R' x (.bool _))) ex) h
theorem bBytes_sound (O : Ok C) (R : Rel C ρ σ s.heap) (hh : A.handled = none) (e : bBytes C.T σ a = some (v, σ')) (h1 : VRel C ρ a w) (h : Kn C ρ s Q v σ') : G C.M A (call (.type "bytes") [w]) Q s := by
  refine orC e (fun e => thenC e fun n e1 e => h1.rBytes (P := fun w => G C.M A (call _ [w]) Q s) e1 fun b t hb => q2 (P := fun v σ' => Kn C ρ s Q v σ' → G C.M A _ Q s) e (fun h => ?_) h) fun e =>
    orC e (fun e => thenC e fun n e1 e => h1.rInt (P := fun w => G C.M A (call _ [w]) Q s) e1 fun m t k1 => whenC e fun hq e => and2 hq fun q3 q4 => q2 (P := fun v σ' => Kn C ρ s Q v σ' → G C.M A _ Q s) e (fun h => ?_) h) fun e =>
      thenC e fun i e1 e => h1.rOwn (P := fun w => G C.M A (call _ [w]) Q s) e1 fun d ei => thenC e fun xs ex e => whenC e fun hq e => and2 hq fun q3 q4 => q2 (P := fun v σ' => Kn C ρ s Q v σ' → G C.M A _ Q s) e (fun h => ?_) h
  · exact G.of (bytes_bytes_sound (h ρ _ _ R Ext.refl (.bytes _ hb)))
  · exact G.of (bytes_zeros_sound (leOf' O q3 (show SI.rel C.ν (.lit 0) 0 by simp [SI.rel]) k1) (leOf' O q4 k1 (show SI.rel C.ν (.lit 65536) 65536 by simp [SI.rel])) fun a t' k ha => h.tok R (.bytes _ (by rw [ha]; exact k1)) k)
  · exact G.of (bytes_list_sound O R hh (atList ex) ei q3 q4 fun s' val R' x hv => h ρ _ _ R' x hv)
theorem bBlt_sound (O : Ok C) (R : Rel C ρ σ s.heap) (hh : A.handled = none) (e : bBlt C.T id args σ = some (v, σ')) (ha : VsRel C ρ args vs) (h : Kn C ρ s Q v σ') : G C.M A (call (.builtin id) vs) Q s := by
  refine orC e (fun e => whenC e fun k e => strC (P := fun id => G C.M A (call (.builtin id) vs) Q s) k (thenC e fun a e1 e => ha.rOne (P := fun vs => G C.M A (call _ vs) Q s) e1 fun w h1 => bLen_sound O R e h1 h)) fun e => orC e
    (fun e => whenC e fun k e => strC (P := fun id => G C.M A (call (.builtin id) vs) Q s) k (orC e (fun e => thenC e fun p e1 e => ha.rTwo (P := fun vs => G C.M A (call _ vs) Q s) e1 fun w1 w2 h1 h2 => bMin2_sound O R hh e h1 h2 h)
      fun e => thenC e fun p e1 e => ha.rThree (P := fun vs => G C.M A (call _ vs) Q s) e1 fun w1 w2 w3 h1 h2 h3 => bMin3_sound O R hh e h1 h2 h3 h)) fun e => orC e
    (fun e => whenC e fun k e => strC (P := fun id => G C.M A (call (.builtin id) vs) Q s) k (thenC e fun p e1 e => ha.rTwo (P := fun vs => G C.M A (call _ vs) Q s) e1 fun w1 w2 h1 h2 => orC e (fun e => bMax2_sound O R hh e h1 h2 h) fun e => bMaxB_sound R hh e h1 h2 h))
    fun e => whenC e fun k e => strC (P := fun id => G C.M A (call (.builtin id) vs) Q s) k (thenC e fun a e1 e => ha.rOne (P := fun vs => G C.M A (call _ vs) Q s) e1 fun w h1 => bAny_sound O R hh e h1 h)
theorem bTyp_sound (O : Ok C) (R : Rel C ρ σ s.heap) (hh : A.handled = none) (e : bTyp C.T id args σ = some (v, σ')) (ha : VsRel C ρ args vs) (h : Kn C ρ s Q v σ') : G C.M A (call (.type id) vs) Q s := by
  refine orC e (fun e => whenC e fun k e => strC (P := fun id => G C.M A (call (.type id) vs) Q s) k (thenC e fun a e1 e => ha.rOne (P := fun vs => G C.M A (call _ vs) Q s) e1 fun w h1 => thenC e fun b e2 e => ?_)) fun e => orC e
    (fun e => whenC e fun k e => strC (P := fun id => G C.M A (call (.type id) vs) Q s) k (thenC e fun a e1 e => ha.rOne (P := fun vs => G C.M A (call _ vs) Q s) e1 fun w h1 => bBytes_sound O R hh e h1 h)) fun e => orC e
    (fun e => whenC e fun k e => strC (P := fun id => G C.M A (call (.type id) vs) Q s) k (thenC e fun a e1 e => ha.rOne (P := fun vs => G C.M A (call _ vs) Q s) e1 fun w h1 => thenC e fun n e2 e => h1.rNat (P := fun w => G C.M A (call _ [w]) Q s) e2 fun t => whenC e fun hl e => ?_))
    fun e => whenC e fun k e => strC (P := fun id => G C.M A (call (.type id) vs) Q s) k (thenC e fun u e1 e => ha.rNil (P := fun vs => G C.M A (call _ vs) Q s) e1 ?_)
  · refine h1.rBool (P := fun w => G C.M A (call _ [w]) Q s) e2 (q2 (P := fun v σ' => Kn C ρ s Q v σ' → G C.M A _ Q s) e (fun h => G.of (int_sound fun n t k hn => h.tok R (.int _ (by cases b <;> exact hn)) k)) h)
  · exact q2 (P := fun v σ' => Kn C ρ s Q v σ' → G C.M A _ Q s) e (fun h => G.of (range_sound O R fun ρ' s' val R' x hv => Kn.alloc h ρ' _ _ R' x hv)) h
  · refine q2 (P := fun v σ' => Kn C ρ s Q v σ' → G C.M A _ Q s) e (fun h => g_bytearray fun h' x k1 k2 ex => ?_) h
    subst ex
    have R' := R.push (a := s.heap.objs.size) (o := .barr) (h' := h') (Nat.le_refl _) (R.low O) k2 ⟨_, k1⟩
    exact Kn.alloc h _ { s with heap := h' } _ R' (Ext.push (t := s.toks) (none_at _) k2) (push_own R _)
end
theorem builtin_sound (O : Ok C) (R : Rel C ρ σ s.heap) (hh : A.handled = none) {f : AV} {fv : Value} {args : List AV} {vs : List Value} {v : AV} {σ' : AS} {Q : Value → Shared → Prop} (e : builtin C.T f args σ = some (v, σ')) (hf : VRel C ρ f fv) (ha : VsRel C ρ args vs)
    (h : ∀ ρ' s' val, Rel C ρ' σ' s'.heap → Ext NoX ρ s ρ' s' → VRel C ρ' v val → Q val s') : G C.M A (call fv vs) Q s :=
  orC e (fun e => thenC e fun id e1 e => hf.rBlt (P := fun fv => G C.M A (call fv vs) Q s) e1 (bBlt_sound O R hh e ha h)) fun e => thenC e fun id e1 e => hf.rTyp (P := fun fv => G C.M A (call fv vs) Q s) e1 (bTyp_sound O R hh e ha h)
end
end Mine
-- M28
namespace Mine
open PySem PySem.W PySem.Calls PyProof.Rows PyProof PyProof.V PySem.SeqAt

/-! what stands behind the top: functions, classes, names -/
structure FnOk (C : Cx) (a : Nat) (fn : Fn) (o : Obj) (fd : FuncData) : Prop where
  obj : C.h₁.get? a = some o
  data : o.data = .func fd
  body : fd.body = .stmts fn.body
  names : fd.scope.names = fn.names
  kind : fd.scope.kind = .function
  co : fd.scope.isCoroutine = false
  gen : fd.scope.isGenerator = false
  clo : fd.closure = []
  gl : fd.globals = mainGlobals
  bl : fd.builtins = builtinsNs
  rec_ : C.h₁.CodeRec fd.code fd.qualname
  p1 : fd.params.posonlyargs = []
  p2 : fd.params.kwonlyargs = []
  p3 : fd.params.vararg = none
  p4 : fd.params.kwarg = none
  ps : fd.params.args.map (·.arg) = fn.ps
  ds : ∃ items : Array Value, VsRel C [] fn.ds items.toList ∧ ((fd.defaults = .none ∧ items = #[]) ∨ ∃ d od n, fd.defaults = .ref d ∧ C.h₁.get? d = some od ∧ od.data = .seq items n)
  kinds : ∀ x ∈ fn.ps, lk fn.names x = some .local ∨ lk fn.names x = some .cell
  fine : ∀ x k, lk fn.names x = some k → ((x == ("__debug__" : Str)) = false ∧ (x == ("__classdict__" : Str)) = false) ∧ k ≠ .free
  keep : keepIn C.K (.ref a) = true
structure ClsOk (C : Cx) (c : Nat) (k : Cls) : Prop where
  makes : makesIn C.K c = true
  init : findIn C.K (.ref c) "__init__" = some (some (.ref k.init)) ∧ typeIn C.K (.ref k.init) = some (.type "function")
  meth : ∀ name f, lk k.meths name = some f → findIn C.K (.ref c) name = some (some (.ref f)) ∧ typeIn C.K (.ref f) = some (.type "function") ∧ keepIn C.K (.ref f) = true
  prop : ∀ name f, lk k.props name = some f → ∃ p rest, findIn C.K (.ref c) name = some (some (.ref p)) ∧ specialIn C.K (.ref p) "__get__" = some (some (.builtin "property.__get__")) ∧ takesIn C.K (.ref p) = some true ∧ recIn C.K p "property" = some (.ref f :: rest)
  fld : ∀ name, memS name k.flds = true → findIn C.K (.ref c) name = some none
  plain : plainOver C.K c = true
  dict : hasDictIn C.K c = true
  get : plainGet C.K c "" = true
  set : findIn C.K (.ref c) "__setattr__" = some (some (.builtin "object.__setattr__"))
  keep : keepIn C.K (.ref c) = true
structure Stat (C : Cx) : Prop where
  kin : C.K.In C.h₁
  lim : C.h₁.NoLimit
  glob : ∃ mg mb, C.h₁.Ns mainGlobals mg ∧ C.h₁.Ns builtinsNs mb ∧ (∀ x v, lk C.B.glob x = some v → ∃ val, (mg x = some val ∨ (mg x = none ∧ mb x = some val)) ∧ VRel C [] v val) ∧
    mg "enumerate" = none ∧ mb "enumerate" = some (.type "enumerate")
  fn : ∀ a f, nlk C.B.fn a = some f → ∃ o fd, FnOk C a f o fd
  cls : ∀ c k, nlk C.B.cls c = some k → ClsOk C c k

section
variable {C : Cx} {A : Around} {s : Shared} {ρ : List Addr} {σ : AS} {env : Env} {ns : List (Str × NameKind)} {l : Loc}
theorem Stat.kinAt (S : Stat C) (R : Rel C ρ σ s.heap) : C.K.In s.heap := S.kin.keeps R.base
theorem look_eq (env : Env) (x : Str) : env.kindOf x = lk env.scope.names x := by rw [lk_eq]; rfl
theorem Ns.base {h : Heap} {a : Addr} {m : Str → Option Value} (n : C.h₁.Ns a m) (k : ∀ b o, C.h₁.get? b = some o → h.get? b = some o) : h.Ns a m :=
  let ⟨o, es, ep, e, r⟩ := n; ⟨o, es, ep, k _ _ e, r⟩
theorem VRel.nil {a : AV} {v : Value} (h : VRel C [] a v) : VRel C ρ a v := by have := h.app (r := ρ); simpa using this
theorem VsRel.nil' {a : List AV} {v : List Value} (h : VsRel C [] a v) : VsRel C ρ a v := by have := h.app (r := ρ); simpa using this

/-- a name's value -/
theorem name_sound (S : Stat C) (R : Rel C ρ σ s.heap) (F : FrameOk C env ns ρ l s.heap) {x : Str} {v : AV} {Q : Value → Shared → Prop}
    (e : (match lk ns x with | some .local => lk l x | some .cell => lk l x | some .free => lk l x | some .globalImplicit => lk C.B.glob x | _ => none) = some v)
    (h : ∀ val, VRel C ρ v val → Q val s) : wpAny C.M A (loadName env x) Q NoE s := by
  have cell : (lk ns x = some .cell ∨ lk ns x = some .free) → lk l x = some v → wpAny C.M A (loadName env x) Q NoE s := fun hk hv => by
    ((refine x2a3 (F.cell x hk) (fun c v₀ hc hi hval => ?_)))
    ((refine x1a2 (hval v hv) (fun val qr1 hr => ?_)); subst qr1)
    rcases F.names x with q | ⟨q, _⟩
    · rcases hk with k | k
      · exact wpAny_loadName_cell F.kind (by rw [look_eq, q, k]) hc hi (h val hr)
      · exact wpAny_loadName_free F.kind (by rw [look_eq, q, k]) hc hi (h val hr) (F.fine x _ k).2
    · exact wpAny_loadName_cell F.kind (by rw [look_eq, q]) hc hi (h val hr)
  split at e
  · rename_i k
    ((refine x1a2 (F.loc) (fun m hm hl => ?_)))
    ((refine x1a2 (hl x v e k) (fun val h1 h2 => ?_)))
    have q : lk env.scope.names x = some .local := by
      rcases F.names x with q | ⟨_, q⟩
      · rw [q, k]
      · rw [k] at q; cases q
    exact wpAny_loadName_local F.kind (by rw [look_eq, q]) hm h1 (h val h2)
  · rename_i k; exact cell (.inl k) e
  · rename_i k; exact cell (.inr k) e
  · rename_i k
    ((refine x2a4 (S.glob) (fun mg mb g1 g2 g3 _ => ?_)))
    ((refine x1a2 (g3 x v e) (fun val hval hr => ?_)))
    have q : lk env.scope.names x = some .globalImplicit := by
      rcases F.names x with q | ⟨_, q⟩
      · rw [q, k]
      · rw [k] at q; cases q
    have n1 : s.heap.Ns env.globals mg := by rw [F.gl]; exact Ns.base g1 R.base
    have n2 : s.heap.Ns env.builtins mb := by rw [F.bl]; exact Ns.base g2 R.base
    have go : wpAny C.M A (loadGlobal env x) Q NoE s := by
      rcases hval with hv | ⟨hm, hv⟩
      · exact loadGlobal_global n1 hv (h val hr.nil)
      · exact loadGlobal_builtin n1 hm n2 hv (h val hr.nil)
    unfold loadName
    simp only [Env.blockKind, F.kind, look_eq, q, ScopeKind.isAnnotationScope, Bool.false_and, Bool.false_eq_true, if_false]
    exact go
  · exact qN e

theorem kind_local (F : FrameOk C env ns ρ l s.heap) {x : Str} (k : lk ns x = some .local) : env.kindOf x = some .local := by
  rw [look_eq]
  rcases F.names x with q | ⟨_, q⟩
  · rw [q, k]
  · rw [k] at q; cases q
theorem kind_cell (F : FrameOk C env ns ρ l s.heap) {x : Str} (k : lk ns x = some .cell) : env.kindOf x = some .cell := by
  rw [look_eq]
  rcases F.names x with q | ⟨_, q⟩
  · rw [q, k]
  · rw [k] at q; cases q
theorem ns_at {h : Heap} {a : Addr} {m : Str → Option Value} (n : h.Ns a m) : ∃ o, h.get? a = some o := let ⟨o, _, _, e, _⟩ := n; ⟨o, e⟩
theorem setName_keep (R : Rel C ρ σ s.heap) (F : FrameOk C env ns ρ l s.heap) {x : Str} {v : AV} {val : Value} {l1 : Loc} {Q : Unit → Shared → Prop} (e : setName ns x v l = some l1) (hv : VRel C ρ v val)
    (h : ∀ s', Rel C ρ σ s'.heap → Ext (FX env ns) [] s [] s' → FrameOk C env ns ρ l1 s'.heap → Q () s') : wpAny C.M A (storeName env x val) Q NoE s := by
  have ek := setName_is e
  have el := ek.2
  subst el
  rcases ek.1 with k | k
  ·
    ((refine x1a2 (F.loc) (fun m hm hl => ?_)))
    refine wpAny_storeName_local (kind_local F k) hm (fun h' hn' hs' => ?_) (by rw [F.kind]; rfl)
    refine h _ (R.heap (fun a o ha e => (hs'.2 a fun q => F.outL (q ▸ ha)).trans e) fun b o e => (hs'.2 b fun q => absurd (Heap.lt_size e) (Nat.not_lt.mpr (q ▸ F.oldL))).trans (R.base b o e))
      ⟨⟨[], by simp⟩, fun a h => .inl h, fun b o e _ => ?_, fun b o e h1 h2 => (hs'.2 b fun q => h2 (.inl q)).trans e, rfl, rfl, rfl⟩
      ⟨F.kind, F.names, F.fine, F.gl, F.bl, ⟨_, hn', fun y w e k' => ?_⟩, fun y hy => ?_, F.apart, F.outL, F.outC, F.oldL, F.oldC⟩
    · by_cases q : b = env.locals
      · subst q; exact ns_at hn'
      · exact ⟨o, (hs'.2 b q).trans e⟩
    · rw [lk_putL] at e
      by_cases q : y = x
      · subst q
        rw [if_pos rfl] at e
        exact ⟨val, if_pos rfl, Option.some.inj e ▸ hv⟩
      · rw [if_neg q] at e
        ((refine x1a2 (hl y w e k') (fun u h1 h2 => ?_)))
        exact ⟨u, by rw [if_neg q]; exact h1, h2⟩
    · ((refine x2a3 (F.cell y hy) (fun c v₀ h1 h2 h3 => ?_)))
      refine ⟨c, v₀, h1, h2.sameBut hs' (F.outC y c hy h1).2, fun w hw => ?_⟩
      rw [lk_putL] at hw
      by_cases q : y = x
      · subst q
        rw [k] at hy
        rcases hy with z | z <;> cases z
      · rw [if_neg q] at hw; exact h3 w hw
  ·
    ((refine x2a3 (F.cell x (.inl k)) (fun c v₀ h1 h2 h3 => ?_)))
    refine wpAny_storeName_cell F.kind (kind_cell F k) h1 h2 fun h' hc' hs' => ?_
    have oc := F.outC x c (.inl k) h1
    refine h { s with heap := h' } (R.heap (fun a o ha e => (hs'.2 a fun q => oc.1 (q ▸ ha)).trans e) fun b o e => (hs'.2 b fun q => absurd (Heap.lt_size e) (Nat.not_lt.mpr (q ▸ F.oldC x c (.inl k) h1))).trans (R.base b o e))
      ⟨⟨[], by simp⟩, fun a h => .inl h, fun b o e _ => ?_, fun b o e h1' h2' => (hs'.2 b fun q => h2' (.inr ⟨x, k, q ▸ h1⟩)).trans e, rfl, rfl, rfl⟩
      ⟨F.kind, F.names, F.fine, F.gl, F.bl, ?_, fun y hy => ?_, F.apart, F.outL, F.outC, F.oldL, F.oldC⟩
    · by_cases q : b = c
      · subst q; obtain ⟨o', ho', _⟩ := hc'; exact ⟨o', ho'⟩
      · exact ⟨o, (hs'.2 b q).trans e⟩
    · ((refine x1a2 (F.loc) (fun m hm hl => ?_)))
      refine ⟨m, hm.sameBut hs' (Ne.symm oc.2), fun y w e k' => ?_⟩
      rw [lk_putL] at e
      by_cases q : y = x
      · subst q; rw [k] at k'; cases k'
      · rw [if_neg q] at e; exact hl y w e k'
    · ((refine x2a3 (F.cell y hy) (fun c' v' g1 g2 g3 => ?_)))
      by_cases q : y = x
      · subst q
        rw [h1] at g1
        cases g1
        refine ⟨c, _, h1, hc', fun w hw => ?_⟩
        rw [lk_putL, if_pos rfl] at hw
        exact ⟨val, rfl, Option.some.inj hw ▸ hv⟩
      · have hne : c' ≠ c := fun z => q (F.apart y x c (z ▸ g1) h1)
        refine ⟨c', v', g1, g2.sameBut hs' hne, fun w hw => ?_⟩
        rw [lk_putL, if_neg q] at hw
        exact g3 w hw
theorem Ext.more {X : Addr → Prop} {s' : Shared} (x : Ext X [] s [] s') : Ext X ρ s ρ s' :=
  ⟨⟨[], by simp⟩, fun a h => .inl h, x.alive, fun b o e _ hx => x.keep b o e (fun h => nomatch h) hx, x.gens, x.drawn, x.os⟩
theorem setName_sound (R : Rel C ρ σ s.heap) (F : FrameOk C env ns ρ l s.heap) {x : Str} {v : AV} {val : Value} {l1 : Loc} {Q : Unit → Shared → Prop} (e : setName ns x v l = some l1) (hv : VRel C ρ v val)
    (h : ∀ s', Rel C ρ σ s'.heap → Ext (FX env ns) ρ s ρ s' → FrameOk C env ns ρ l1 s'.heap → Q () s') : wpAny C.M A (storeName env x val) Q NoE s :=
  setName_keep R F e hv fun s' R' x' F' => h s' R' x'.more F'
end
end Mine
-- M29
namespace Mine
open PySem PySem.W PySem.Calls PyProof.Rows PyProof PyProof.V PySem.SeqAt Builtin Builtin.ObjectAttr
section
variable {C : Cx} {A : Around} {s : Shared} {ρ : List Addr} {σ : AS} {env : Env} {ns : List (Str × NameKind)} {l : Loc}
theorem nlk_eq {α : Type} : ∀ (l : List (Nat × α)) (x : Nat), nlk l x = l.lookup x
  | [], _ => rfl
  | (k, v) :: r, x => by
    rw [List.lookup_cons]
    show Bool.rec (motive := fun _ => Option α) (nlk r x) (some v) (Nat.beq k x) = _
    by_cases h : x = k
    · subst h
      rw [Nat.beq_refl]; simp
    · have h1 : Nat.beq k x = false := by
        cases q : Nat.beq k x with
        | true => exact absurd (Nat.eq_of_beq_eq_true q).symm h
        | false => rfl
      rw [h1]
      have h2 : (x == k) = false := beq_eq_false_iff_ne.mpr h
      rw [h2]
      exact nlk_eq r x
theorem noRef {es : Array DictEntry} (k : StrKeys es) : es.toList.any (·.refKey) = false := by
  rw [List.any_eq_false]
  intro e he
  ((refine x2a1 (k e (by simpa using he)) (fun n t h => ?_)))
  simp [DictEntry.refKey, h]
theorem lookIn_dict' {es : Array DictEntry} {n : Nat} (k : StrKeys es) (name : Str) : lookIn name { cls := .type "dict", data := .dict es n } = some (nsFind es name) := by
  show (match es.toList.find? (·.key.isStr name) with | some e => some (some e.val) | none => if es.toList.any (·.refKey) then none else some none) = _
  unfold nsFind findBy
  rw [← Array.find?_toList, noRef k]
  cases es.toList.find? (·.key.isStr name) <;> rfl

theorem inst_parts (R : Rel C ρ σ s.heap) {i c d : Nat} {kv : List (Str × AV)} {a : Addr} (e1 : at? σ i = some (.inst c d)) (e2 : at? σ d = some (.fields kv)) (ea : at? ρ i = some a) :
    ∃ da es n, at? ρ d = some da ∧ FieldsRel C ρ kv es ∧ s.heap.get? da = some { cls := .type "dict", data := .dict es n } ∧ InstAt s.heap a (instObj c da) c (some { cls := .type "dict", data := .dict es n }) := by
  ((refine x1a2 (R.objs _ _ _ e1 ea) (fun da h1 h2 => ?_)))
  ((refine x1a2 (R.objs _ _ _ e2 h1) (fun es qt1 h4 => ?_)); (refine x1a1 (qt1) (fun n h3 => ?_)))
  exact ⟨da, es, n, h1, h4, h3, ⟨h2, rfl, rfl, h3⟩⟩
theorem plain_of {k : Cls} {c : Nat} (K : ClsOk C c k) : findIn C.K (.ref c) "__getattribute__" = some (some (.builtin "object.__getattribute__")) ∧ findIn C.K (.ref c) "__getattr__" = some none := plainGet_of K.get

theorem field_sound (S : Stat C) (R : Rel C ρ σ s.heap) {i : Nat} {a : Addr} {name : Str} {v : AV} {expr : Bool} {Q : Value → Shared → Prop} (e : fieldOf C.B σ i name = some v) (ea : at? ρ i = some a)
    (h : ∀ val t, VRel C ρ v val → Q val { s with toks := t }) : wpAny C.M A (getAttr (.ref a) name expr) Q NoE s := by
  unfold fieldOf at e
  split at e
  · rename_i c d e1
    split at e
    · rename_i k ek
      have qq := qIf e
      · have hm := qq.1; have e := qq.2; clear qq
        split at e
        · rename_i kv e2
          ((refine x3a4 (inst_parts R e1 e2 ea) (fun da es n h1 hf hd I => ?_)))
          have K := S.cls _ _ ek
          have hv := hf.2.2 name
          have hb : lk kv name = some v ∧ ∀ id, v ≠ .blt id := by
            revert e
            cases q : lk kv name with
            | none => intro e; cases e
            | some u =>
              cases u <;> intro e <;> first | (cases e; done) | (cases e; exact ⟨rfl, fun id z => by cases z⟩)
          rw [hb.1] at hv
          ((refine x1a2 (hv) (fun val g1 g2 => ?_)))
          refine get_value (S.kinAt R) I (plain_of K).1 (findObj_own K.dict (K.fld name hm) rfl (by rw [lookIn_dict' hf.1, g1])) ?_ (h val _ g2)
          cases g2 with
          | blt id => exact absurd rfl (hb.2 id)
          | _ => rfl
        · cases e

    · cases e
  · cases e
theorem meth_sound (S : Stat C) (R : Rel C ρ σ s.heap) {i : Nat} {a : Addr} {name : Str} {f : Nat} {pl : Sem Bool} {Q : Value × List Value → Shared → Prop} (e : methOf C.B σ i name = some f) (ea : at? ρ i = some a)
    (h : Q (.ref f, [.ref a]) s) : wpAny C.M A (getMethod (.ref a) name pl) Q NoE s := by
  unfold methOf at e
  split at e
  · rename_i c d e1
    split at e
    · rename_i k ek
      split at e
      · rename_i f' kv em e2
        split at e
        · cases e
        · rename_i hn
          cases e
          ((refine x3a4 (inst_parts R e1 e2 ea) (fun da es n h1 hf hd I => ?_)))
          have K := S.cls _ _ ek
          have hv := hf.2.2 name
          rw [hn] at hv
          ((refine x0a3 (K.meth name f em) (fun m1 m2 _ => ?_)))
          refine method_fn (S.kinAt R) I (plain_of K).1 (plain_of K).2 m1 m2 ?_ h
          show (lookIn name _).map _ = _
          rw [lookIn_dict' hf.1, hv]; rfl
      · cases e
    · cases e
  · cases e
end
end Mine
-- M30
namespace Mine
open PySem PySem.W PySem.Calls PyProof.Rows PyProof PyProof.V PySem.SeqAt Builtin Builtin.ObjectAttr Builtin.Getset_descriptor
section
variable {prog : Program} {w : World} {A : Around} {K : Frag} {x C p : Addr} {ox : Obj} {od : Option Obj} {name : Str} {expr : Bool} {s : Shared}
theorem g_prop_get {fget : Addr} {rest : List Value} {tp : Value} {P : Flow → Shared → Prop} (X : K.In s.heap) (hp : recIn K p "property" = some (.ref fget :: rest))
    (h : CG (model prog w) A (.call (.ref fget) ⟨[.ref x], []⟩) P s) : CG (model prog w) A (.call (.builtin "property.__get__") ⟨[.ref p, .ref x, tp], []⟩) P s := by
  ((refine x2a1 (rec_of X hp) (fun d sl ho => ?_)))
  obtain ⟨hh, g, dr, t, os⟩ := s
  refine CG.tree ?_
  show G _ _ (do checkBuiltinCall "property.__get__" ⟨[.ref p, .ref x, tp], []⟩; again (.builtin "property.__get__" ⟨[.ref p, .ref x, tp], []⟩)) _ _
  refine G.bind (G.of (KF.slot_prop.check _ _ _ _ _ _ _ _ ⟨_, ho, rfl⟩ (KF.args_prop _ _ _) ?_))
  refine G.pure ⟨plainId_quiet KF.slot_prop.plain _, fineB (by decide +kernel), CG.builtin KF.entry_prop (G.of ?_)⟩
  unfold Builtin.«property.__get__» descrGetArgs
  dsimp only at ho
  repeat lk
  exact ⟨rfl, rfl, h⟩
theorem g_get_prop {fget : Addr} {rest : List Value} {Q : Value → Shared → Prop} (X : K.In s.heap) (I : InstAt s.heap x ox C od) (hga : findIn K (.ref C) "__getattribute__" = some (some (.builtin "object.__getattribute__")))
    (hf : findObj K C od name = some (.bind (.builtin "property.__get__") (.ref p))) (hk : findIn K (.ref C) "__getattr__" = some none) (hp : recIn K p "property" = some (.ref fget :: rest))
    (h : CG (model prog w) A.in1 (.call (.ref fget) ⟨[.ref x], []⟩) (fun f s' => ∃ v, f = .ret v ∧ handedIn v = true ∧ Q v s') { s with toks := s.toks + 1 }) : G (model prog w) A (getAttr (.ref x) name expr) Q s := by
  obtain ⟨hh, g, d, t, os⟩ := s
  have L0 := I.type (M := model prog w)
  have L1 := looks_findIn (M := model prog w) X hga
  have L2 := looks_find (M := model prog w) X I hf
  have L3 := looks_findIn (M := model prog w) X hk
  unfold getAttr getAttrBy
  refine G.bind (G.of (wpAny_mkText ?_))
  refine G.holding (G.bind (G.of (L0.at (G.bind (G.of (L1.at ?_))))))
  show G _ _ (getAttrEveryday _ _ _) _ _
  refine G.bind (G.onRaise (G.runValue (fineB (by decide +kernel)) (CG.builtin F.plainObj_entry_getattr_hooked ?_)))
  rw [Around.under_plainId (id := "proto.getattr_hooked") (by decide +kernel)]
  refine G.bind (G.pure (G.bind (G.of (L0.at (G.bind (G.of (L2.at (G.bind (G.of (L3.at ?_))))))))))
  show G _ _ (holding [.ref p] (call (.builtin "property.__get__") [.ref p, .ref x, .ref C]) >>= ret) _ _
  refine G.bind (G.holding (G.call (CG.mono (g_prop_get X hp h) fun f s' q => ?_)))
  ((refine x1a3 (q) (fun v qr1 h1 h2 => ?_)); subst qr1)
  refine ⟨v, rfl, G.pure ⟨v, rfl, ?_⟩⟩
  rw [handedOut_of h1]
  exact G.pure h2
end
end Mine
-- M31
namespace Mine
open PySem PySem.W PySem.Calls PyProof.Rows PyProof PyProof.V PySem.SeqAt Builtin Builtin.ObjectAttr
noncomputable def findV (x : Str) (es : List DictEntry) : Option Value := (es.find? fun e => e.key.isStr x).map (·.val)
theorem findV_cons (x : Str) (e : DictEntry) (r : List DictEntry) : findV x (e :: r) = if e.key.isStr x = true then some e.val else findV x r := by
  unfold findV
  rw [List.find?_cons]
  cases e.key.isStr x <;> simp
theorem nsFind_list (es : Array DictEntry) (x : Str) : nsFind es x = findV x es.toList := by
  unfold nsFind findBy findV
  rw [← Array.find?_toList]
noncomputable def SK (es : List DictEntry) : Prop := ∀ e ∈ es, ∃ n t, e.key = .str n t
theorem isStr_eq (n x : Str) (t : Tok) : ((Value.str n t).isStr x = true) ↔ n = x := by
  show (n == x) = true ↔ _
  simp
theorem findV_put (name : Str) (hsh : Int) (t : Tok) (v : Value) (x : Str) : ∀ es : List DictEntry, SK es → findV x (PySem.W.putL name hsh (.str name t) v es) = if x = name then some v else findV x es
  | [], _ => by
    show findV x [⟨hsh, .str name t, v⟩] = _
    rw [findV_cons]
    by_cases q : x = name
    · rw [if_pos q, if_pos ((isStr_eq _ _ _).mpr q.symm)]
    · rw [if_neg q, if_neg fun z => q ((isStr_eq _ _ _).mp z).symm]
  | e :: r, h => by
    ((refine x2a1 (h e List.mem_cons_self) (fun n t' he => ?_)))
    have ih := findV_put name hsh t v x r fun e he => h e (List.mem_cons_of_mem _ he)
    show findV x (if e.key.isStr name then ⟨e.hash, e.key, v⟩ :: r else e :: PySem.W.putL name hsh (.str name t) v r) = _
    rw [he]
    by_cases z : n = name
    · rw [if_pos ((isStr_eq _ _ _).mpr z), findV_cons, findV_cons, he]
      show (if (Value.str n t').isStr x = true then some v else _) = _
      by_cases q : x = name
      · rw [if_pos q, if_pos ((isStr_eq _ _ _).mpr (z.trans q.symm))]
      · rw [if_neg q]
        have : ¬ (Value.str n t').isStr x = true := fun y => q (((isStr_eq _ _ _).mp y).symm.trans z)
        rw [if_neg this, if_neg this]
    · rw [if_neg fun y => z ((isStr_eq _ _ _).mp y), findV_cons, findV_cons, he, ih]
      by_cases q : x = name
      · rw [if_pos q, if_pos q, if_neg fun y => z (((isStr_eq _ _ _).mp y).trans q)]
      · rw [if_neg q, if_neg q]
theorem putL_SK (name : Str) (hsh : Int) (t : Tok) (v : Value) : ∀ es : List DictEntry, SK es → SK (PySem.W.putL name hsh (.str name t) v es)
  | [], _ => fun e he => by
    have : e = ⟨hsh, .str name t, v⟩ := by simpa [PySem.W.putL] using he
    subst this; exact ⟨_, _, rfl⟩
  | e :: r, h => by
    have ih := putL_SK name hsh t v r fun e he => h e (List.mem_cons_of_mem _ he)
    intro x hx
    have hx : x ∈ (if e.key.isStr name then ⟨e.hash, e.key, v⟩ :: r else e :: PySem.W.putL name hsh (.str name t) v r) := hx
    split at hx
    · rcases List.mem_cons.mp hx with rfl | q
      · exact h e List.mem_cons_self
      · exact h x (List.mem_cons_of_mem _ q)
    · rcases List.mem_cons.mp hx with rfl | q
      · exact h x List.mem_cons_self
      · exact ih x q
theorem putL_len (name : Str) (hsh : Int) (t : Tok) (v : Value) : ∀ es : List DictEntry, (PySem.W.putL name hsh (.str name t) v es).length = if (findV name es).isSome then es.length else es.length + 1
  | [] => rfl
  | e :: r => by
    show (if e.key.isStr name then (⟨e.hash, e.key, v⟩ :: r : List DictEntry) else e :: PySem.W.putL name hsh (.str name t) v r).length = _
    rw [findV_cons]
    split
    · simp
    · rw [List.length_cons, putL_len name hsh t v r]
      split <;> simp
theorem putLoc_len {α : Type} : ∀ (l : List (Str × α)) (x : Str) (v : α), (Mine.putL l x v).length = if (lk l x).isSome then l.length else l.length + 1
  | [], _, _ => rfl
  | (k, w) :: r, x, v => by
    rw [putL_cons, lk_cons]
    by_cases q : x = k
    · rw [if_pos q, if_pos q]; simp
    · rw [if_neg q, if_neg q, List.length_cons, putLoc_len r x v]
      split <;> simp
theorem fields_put {C : Cx} {ρ : List Addr} {kv : List (Str × AV)} {es : Array DictEntry} {name : Str} {hsh : Int} {t : Tok} {v : AV} {val : Value} (h : FieldsRel C ρ kv es) (hv : VRel C ρ v val) :
    FieldsRel C ρ (Mine.putL kv name v) (PySem.W.putL name hsh (.str name t) val es.toList).toArray := by
  have hs : SK es.toList := fun e he => h.1 e (by simpa using he)
  refine ⟨fun e he => putL_SK name hsh t val _ hs e (by simpa using he), ?_, fun x => ?_⟩
  · rw [List.size_toArray, putL_len, putLoc_len]
    have h2 := h.2.1
    have h3 := h.2.2 name
    rw [← Array.length_toList] at h2
    cases q : lk kv name with
    | none =>
      rw [if_neg (by simp : ¬ (none : Option AV).isSome = true)]
      split <;> omega
    | some u =>
      rw [q] at h3
      ((refine x1a2 (h3) (fun w h3 _ => ?_)))
      rw [nsFind_list] at h3
      rw [h3]; simpa using h2
  · rw [nsFind_list, List.toList_toArray, findV_put name hsh t val x _ hs, lk_putL]
    by_cases q : x = name
    · rw [if_pos q, if_pos q]; exact ⟨val, rfl, hv⟩
    · rw [if_neg q, if_neg q, ← nsFind_list]; exact h.2.2 x

section
variable {C : Cx} {A : Around} {s : Shared} {ρ : List Addr} {σ : AS}
theorem setField_sound (S : Stat C) (O : Ok C) (R : Rel C ρ σ s.heap) {o : AV} {ov : Value} {name : Str} {v : AV} {val : Value} {σ' : AS} {Q : Unit → Shared → Prop} (e : setField C.B σ o name v = some σ') (ho : VRel C ρ o ov) (hv : VRel C ρ v val)
    (h : ∀ s', Rel C ρ σ' s'.heap → Ext NoX ρ s ρ s' → Q () s') : wpAny C.M A (setAttr ov name val) Q NoE s := by
  unfold setField at e
  split at e
  · rename_i i
    ((refine x1a2 (vown ho) (fun a qr1 ea => ?_)); subst qr1)
    split at e
    · rename_i c d e1
      split at e
      · rename_i k ek
        have qq := qIf e
        · have hm := qq.1; have e := qq.2; clear qq
          split at e
          · rename_i kv e2
            split at e
            case h_2 => cases e
            rename_i hlen
            (revert h; apply q1 e; intro h)
            ((refine x3a4 (inst_parts R e1 e2 ea) (fun da es n h1 hf hd I => ?_)))
            have K := S.cls _ _ ek
            have X := S.kinAt R
            have ht : takerIn C.K c name = some none := by unfold takerIn; rw [K.fld name hm]; rfl
            refine set_plain X I K.set (osa_open (s := { s with toks := s.toks + 1 }) X I K.plain ht fun b => ?_)
            ((refine x1a2 (any_some K.dict) (fun cd hc hdict => ?_)))
            have hx := I.at_
            refine wpAny_bind (wpAny_pure (wpAny_bind (wpAny_bind (wpAny_loadPart hx (wpAny_bind ((looks_clsIn X hc) _ _ _ _ (fun _ _ e => e) ?_))))))
            rw [hdict]
            refine wpAny_pure (a := some da) (wpAny_bind (wpAny_pure (wpAny_bind ?_)))
            unfold nsSet
            refine wpAny_bind (wpAny_bind (wpAny_askSetting (wpAny_pure (wpAny_bind (wpAny_mkText (wpAny_bind (wpAny_loadPart hd ?_)))))))
            have hlist : (⟨.type "dict", none, .dict es n, #[]⟩ : Obj) = dictOf es.toList n := by simp [dictOf]
            have hput : Obj.putName name (PyData.keyHash C.w.params name) (.str name (s.toks + 1)) val (dictOf es.toList n) = dictOf (PySem.W.putL name (PyData.keyHash C.w.params name) (.str name (s.toks + 1)) val es.toList) (PySem.W.putN name es.toList n) := putName_dict ..
            have hg : (s.heap.update da (Obj.putName name (PyData.keyHash C.w.params name) (.str name (s.toks + 1)) val)).get? da = some (dictOf (PySem.W.putL name (PyData.keyHash C.w.params name) (.str name (s.toks + 1)) val es.toList) (PySem.W.putN name es.toList n)) := by
              have := Heap.get?_update_self (Obj.putName name (PyData.keyHash C.w.params name) (.str name (s.toks + 1)) val) hd (by rw [hlist, hput]; rfl)
              rw [this, hlist, hput]
            have hr : (!es.any (·.key.isStr name) && es.any (·.refKey)) = false := by
              have := noRef hf.1
              rw [← Array.any_toList, ← Array.any_toList, this, Bool.and_false]
            dsimp only
            rw [aRefKeyMayBeTheName_at, hr]
            refine wpAny_updatePart hd ?_
            have hsz : (PySem.W.putL name (PyData.keyHash C.w.params name) (.str name (s.toks + 1)) val es.toList).length ≤ sizeLine := by
              have h4 : kv.length < 4096 := Nat.le_of_ble_eq_true hlen
              have h5 := hf.2.1
              rw [← Array.length_toList] at h5
              rw [putL_len, sizeLine_eq]
              split <;> omega
            refine wpAny_bind (wpAny_lookBehind hg (pastItsLine_dict (by rw [List.size_toArray]; exact Nat.le_succ_of_le hsz)) ?_)
            have hs : Heap.SameBut da s.heap (s.heap.update da (Obj.putName name (PyData.keyHash C.w.params name) (.str name (s.toks + 1)) val)) := Heap.SameBut.update ..
            have R' := R.set (o' := .fields (Mine.putL kv name v)) e2 h1 (fun _ q => by cases q) hs ⟨_, ⟨_, hg⟩, fields_put hf hv⟩
            exact wpAny_pure (h _ R' (Ext.set R' (mem_at h1) hs))
          · cases e

      · cases e
    · cases e
  · cases e
end
end Mine
-- M32
namespace Mine
open PySem PySem.W PySem.Calls PyProof.Rows PyProof PyProof.V PySem.SeqAt
theorem lookup_of_mem {α : Type} : ∀ {l : List (Str × α)} {n : Str} {v : α}, (n, v) ∈ l → (l.lookup n).isSome = true
  | (k, w) :: r, n, v, h => by
    rw [List.lookup_cons]
    cases q : n == k with
    | true => rfl
    | false =>
      rcases List.mem_cons.mp h with e | h
      · cases e; simp at q
      · exact lookup_of_mem h
theorem no_missing {ps : List Str} {vs : List Value} {k : Nat} (h1 : vs.length ≤ ps.length) (hk : k ≤ vs.length) : (ps.take k).filter (fun n => ((ps.zip vs).lookup n).isNone) = [] := by
  rw [List.filter_eq_nil_iff]
  intro n hn
  obtain ⟨i, hi, e⟩ := List.mem_take_iff_getElem.mp hn
  have hi1 : i < vs.length := Nat.lt_of_lt_of_le (Nat.lt_of_lt_of_le hi (Nat.min_le_left _ _)) hk
  have hi2 : i < ps.length := Nat.lt_of_lt_of_le hi (Nat.min_le_right _ _)
  have : (n, vs[i]) ∈ ps.zip vs := by
    rw [← e]
    refine List.mem_iff_getElem.mpr ⟨i, by rw [List.length_zip]; exact Nat.lt_min.mpr ⟨hi2, hi1⟩, ?_⟩
    rw [List.getElem_zip]
  have := lookup_of_mem this
  cases q : (ps.zip vs).lookup n with
  | none => rw [q] at this; cases this
  | some v => simp
/-- the code of the binder for plain parameters and no keywords; what refuses has a name alone -/
noncomputable def bindTail (ps : List Str) (vs : List Value) (ds : List Value) (X Y : Sem (List (Str × Value))) : Sem (List (Str × Value)) :=
  if (decide (vs.length > ps.length) && true) = true then X
  else if (!((ps.take (ps.length - (ds.drop (ds.length - ps.length)).length)).filter fun n => ((ps.zip vs).lookup n).isNone).isEmpty) = true then Y
    else forIn ((ps.drop (ps.length - (ds.drop (ds.length - ps.length)).length)).zip (ds.drop (ds.length - ps.length))) (ps.zip vs)
        (fun x slots => if (List.lookup x.1 slots).isNone = true then pure (ForInStep.yield (slots ++ [(x.1, x.2)])) else pure (ForInStep.yield slots)) >>= fun slots =>
      pure ((ps ++ []).filterMap fun n => (slots.lookup n).map (n, ·))
theorem bind_code {fd : FuncData} {vs : List Value} (p1 : fd.params.posonlyargs = []) (p2 : fd.params.kwonlyargs = []) (p3 : fd.params.vararg = none) (p4 : fd.params.kwarg = none) :
    ∃ X Y : Option (Array Value) → Sem (List (Str × Value)), bindArgs fd ⟨vs, []⟩ = (seqItems? fd.defaults >>= fun o => bindTail (fd.params.args.map (·.arg)) vs (o.getD #[]).toList (X o) (Y o)) := by
  obtain ⟨_, _, prm, _, _, _, _, _, _, _, _, _, _, _, _⟩ := fd
  cases prm
  dsimp only at p1 p2 p3 p4
  subst p1 p2 p3 p4
  exact ⟨_, _, rfl⟩
section
variable {M : Model} {A : Around} {s : Shared}
theorem bind_plain {fd : FuncData} {vs : List Value} {items : Array Value} {ps : List Str} {Q : List (Str × Value) → Shared → Prop} (p1 : fd.params.posonlyargs = []) (p2 : fd.params.kwonlyargs = []) (p3 : fd.params.vararg = none) (p4 : fd.params.kwarg = none)
    (hps : fd.params.args.map (·.arg) = ps) (hd : ∀ (Q : Option (Array Value) → Shared → Prop), (∀ o, o.getD #[] = items → Q o s) → wpAny M A (seqItems? fd.defaults) Q NoE s)
    (h1 : vs.length ≤ ps.length) (h2 : ps.length - vs.length ≤ items.size) (h3 : items.size ≤ ps.length)
    (h : Q (ps.filterMap fun n => (((ps.zip vs).lookup n).or (((ps.drop (ps.length - items.size)).zip items.toList).lookup n)).map (n, ·)) s) : wpAny M A (bindArgs fd ⟨vs, []⟩) Q NoE s := by
  obtain ⟨X, Y, e⟩ := bind_code (vs := vs) p1 p2 p3 p4
  rw [e, hps]
  refine wpAny_bind (hd _ fun o ho => ?_)
  rw [ho]
  unfold bindTail
  have e1 : items.toList.length = items.size := Array.length_toList
  have e2 : List.drop (items.toList.length - ps.length) items.toList = items.toList := by rw [e1, Nat.sub_eq_zero_of_le h3]; rfl
  rw [if_neg (by simpa using h1), e2, e1, no_missing h1 (Nat.sub_le_iff_le_add.mpr (Nat.sub_le_iff_le_add'.mp h2)), if_neg (by simp), List.append_nil]
  refine wpAny_bind ?_
  refine wpAny_forIn_list _ (fun rest slots s' => s' = s ∧ ∀ n, (slots.lookup n).or (rest.lookup n) = ((ps.zip vs).lookup n).or (((ps.drop (ps.length - items.size)).zip items.toList).lookup n)) _ ?_ ?_ _ _ ⟨rfl, fun _ => rfl⟩
  · intro x rest slots s' hI
    obtain ⟨hs, hI⟩ := hI
    subst hs
    show wpAny M A (if (List.lookup x.1 slots).isNone = true then pure (ForInStep.yield (slots ++ [(x.1, x.2)])) else pure (ForInStep.yield slots)) _ _ _
    cases q : List.lookup x.1 slots with
    | none =>
      rw [if_pos (by rfl)]
      refine wpAny_pure ⟨rfl, fun n => ?_⟩
      rw [← hI n, List.lookup_append, Option.or_assoc]
      congr 1
      obtain ⟨x1, x2⟩ := x
      rw [List.lookup_cons, List.lookup_cons]
      cases n == x1 <;> simp
    | some w =>
      rw [if_neg (by simp)]
      refine wpAny_pure ⟨rfl, fun n => ?_⟩
      obtain ⟨x1, x2⟩ := x
      rw [← hI n, List.lookup_cons]
      cases z : n == x1 with
      | false => rfl
      | true =>
        have : n = x1 := eq_of_beq z
        subst this
        rw [q]; rfl
  · intro slots s' hI
    obtain ⟨hs, hI⟩ := hI
    subst hs
    refine wpAny_pure ?_
    have e3 : ∀ n, List.lookup n slots = ((ps.zip vs).lookup n).or (((ps.drop (ps.length - items.size)).zip items.toList).lookup n) := fun n => by simpa using hI n
    simp only [e3]
    exact h
end
end Mine
-- M33
namespace Mine
open PySem PySem.W PySem.Calls PyProof.Rows PyProof PyProof.V PySem.SeqAt
theorem lk_mem {α : Type} : ∀ {l : List (Str × α)} {x : Str} {v : α}, lk l x = some v → (x, v) ∈ l
  | (k, w) :: r, x, v, h => by
    rw [lk_cons] at h
    by_cases q : x = k
    · rw [if_pos q] at h; cases h; rw [q]; exact List.mem_cons_self
    · rw [if_neg q] at h; exact List.mem_cons_of_mem _ (lk_mem h)
theorem lk_append {α : Type} : ∀ (a b : List (Str × α)) (x : Str), lk (a ++ b) x = (lk a x).or (lk b x)
  | [], b, x => by simp [lk_nil]
  | (k, w) :: r, b, x => by
    rw [List.cons_append, lk_cons, lk_cons, lk_append r b x]
    split <;> simp
theorem cells_some : ∀ (names : List (Str × NameKind)) (n : Nat) (acc : List (Str × Addr)) (x : Str), ((x, NameKind.cell) ∈ names ∨ (acc.lookup x).isSome = true) → ((cellsFrom n names acc).lookup x).isSome = true
  | [], n, acc, x, h => by
    rcases h with h | h
    · first | exact qN h | exact qFT h | exact qTF h | exact qS h | cases h
    · exact h
  | (name, kind) :: r, n, acc, x, h => by
    unfold cellsFrom
    have keep : (acc.lookup x).isSome = true → (((name, n) :: acc).lookup x).isSome = true := fun q => by
      rw [List.lookup_cons]
      cases x == name <;> simp [q]
    split
    · rename_i hk
      refine cells_some r _ _ x ?_
      rcases h with h | h
      · rcases List.mem_cons.mp h with e | h
        · cases e; exact .inr (by simp [List.lookup_cons])
        · exact .inl h
      · exact .inr (keep h)
    · rename_i hk
      refine cells_some r _ _ x ?_
      rcases h with h | h
      · rcases List.mem_cons.mp h with e | h
        · cases e; simp at hk
        · exact .inl h
      · exact .inr h
section
variable {kindOf : Str → Option NameKind} {F : Str → Option Value}
theorem bindL_fm : ∀ (ps : List Str) (m : Str → Option Value) (x : Str) (v : Value), kindOf x = some .local → F x = some v → (x ∈ ps ∨ m x = some v) → bindL kindOf (ps.filterMap fun n => (F n).map (n, ·)) m x = some v
  | [], m, x, v, hk, hf, h => by
    rcases h with h | h
    · first | exact qN h | exact qFT h | exact qTF h | exact qS h | cases h
    · exact h
  | p :: r, m, x, v, hk, hf, h => by
    rw [List.filterMap_cons]
    cases q : F p with
    | none =>
      dsimp only [Option.map]
      refine bindL_fm r m x v hk hf ?_
      rcases h with h | h
      · rcases List.mem_cons.mp h with e | h
        · subst e; rw [hf] at q; cases q
        · exact .inl h
      · exact .inr h
    | some w =>
      dsimp only [Option.map]
      show bindL kindOf _ (if kindOf p = some .local then fun y => if y = p then some w else m y else m) x = _
      refine bindL_fm r _ x v hk hf ?_
      by_cases e : x = p
      · subst e
        rw [hf] at q; cases q
        right
        rw [if_pos hk]; simp
      · rcases h with h | h
        · rcases List.mem_cons.mp h with e' | h
          · exact absurd e' e
          · exact .inl h
        · right
          split
          · simp [e, h]
          · exact h
theorem bindC_fm : ∀ (ps : List Str) (m : Str → Option Value) (x : Str) (v : Value), kindOf x ≠ some .local → F x = some v → (x ∈ ps ∨ m x = some v) → bindC kindOf (ps.filterMap fun n => (F n).map (n, ·)) m x = some v
  | [], m, x, v, hk, hf, h => by
    rcases h with h | h
    · first | exact qN h | exact qFT h | exact qTF h | exact qS h | cases h
    · exact h
  | p :: r, m, x, v, hk, hf, h => by
    rw [List.filterMap_cons]
    cases q : F p with
    | none =>
      dsimp only [Option.map]
      refine bindC_fm r m x v hk hf ?_
      rcases h with h | h
      · rcases List.mem_cons.mp h with e | h
        · subst e; rw [hf] at q; cases q
        · exact .inl h
      · exact .inr h
    | some w =>
      dsimp only [Option.map]
      show bindC kindOf _ (if kindOf p = some .local then m else fun y => if y = p then some w else m y) x = _
      refine bindC_fm r _ x v hk hf ?_
      by_cases e : x = p
      · subst e
        rw [hf] at q; cases q
        right
        rw [if_neg hk]; simp
      · rcases h with h | h
        · rcases List.mem_cons.mp h with e' | h
          · exact absurd e' e
          · exact .inl h
        · right
          split
          · exact h
          · simp [e, h]
end
section
variable {C : Cx} {ρ : List Addr}
theorem zip_rel : ∀ (ps : List Str) {as : List AV} {vs : List Value} (x : Str), VsRel C ρ as vs → match lk (ps.zip as) x with | none => (ps.zip vs).lookup x = none | some v => ∃ val, (ps.zip vs).lookup x = some val ∧ VRel C ρ v val ∧ x ∈ ps
  | [], _, _, x, _ => by simp [lk_nil]
  | p :: r, _, _, x, .nil => by simp [lk_nil]
  | p :: r, _, _, x, .cons (a := a) (v := v) (l := as) (vs := vs) h1 h2 => by
    rw [List.zip_cons_cons, List.zip_cons_cons, lk_cons, List.lookup_cons]
    by_cases q : x = p
    · rw [if_pos q, beq_iff_eq.mpr q]
      exact ⟨v, rfl, h1, by rw [q]; exact List.mem_cons_self⟩
    · rw [if_neg q, beq_eq_false_iff_ne.mpr q]
      have ih := zip_rel r x h2
      revert ih
      cases lk (r.zip as) x with
      | none => exact id
      | some w => exact fun ⟨val, a, b, c⟩ => ⟨val, a, b, List.mem_cons_of_mem _ c⟩
theorem fill_rel {ps : List Str} {args ds : List AV} {vs dvs : List Value} {l : Loc} (e : fill ps args ds = some l) (ha : VsRel C ρ args vs) (hd : VsRel C ρ ds dvs) :
    (vs.length ≤ ps.length ∧ ps.length - vs.length ≤ dvs.length ∧ dvs.length ≤ ps.length) ∧
      ∀ x v, lk l x = some v → ∃ val, ((ps.zip vs).lookup x).or (((ps.drop (ps.length - dvs.length)).zip dvs).lookup x) = some val ∧ VRel C ρ v val ∧ x ∈ ps := by
  unfold fill at e
  have qq := qIf e
  · have h := qq.1; have e := qq.2; clear qq
    (revert h; apply q1 e; intro h)
    simp only [Bool.and_eq_true] at h
    have qp := h; have h1 := qp.1; have h2 := qp.2.1; have h3 := qp.2.2; clear qp
    have h1 := Nat.le_of_ble_eq_true h1
    have h2 := Nat.le_of_ble_eq_true h2
    have h3 := Nat.le_of_ble_eq_true h3
    rw [ha.length] at h1 h2
    rw [hd.length] at h2 h3
    refine ⟨⟨h1, h2, h3⟩, fun x v hv => ?_⟩
    rw [lk_append] at hv
    have a := zip_rel ps x ha
    have b := zip_rel (ps.drop (ps.length - ds.length)) x hd
    rw [hd.length] at b hv
    revert a hv
    cases lk (ps.zip args) x with
    | some u =>
      rintro hv ⟨val, q1, q2, q3⟩
      cases hv
      exact ⟨val, by rw [q1]; rfl, q2, q3⟩
    | none =>
      intro hv q
      have hv : lk ((ps.drop (ps.length - dvs.length)).zip ds) x = some v := by simpa using hv
      rw [hv] at b
      ((refine x1a3 (b) (fun val q1 q2 q3 => ?_)))
      exact ⟨val, by rw [q, q1]; rfl, q2, List.mem_of_mem_drop q3⟩

end
end Mine
-- M34
namespace Mine
open PySem PySem.W PySem.Calls PyProof.Rows PyProof PyProof.V PySem.SeqAt
section
variable {C : Cx} {A : Around} {s : Shared} {ρ : List Addr} {σ : AS}
theorem fresh_get {h : Heap} {a : Addr} (ha : h.objs.size ≤ a) : h.get? a = none := Heap.get?_none_of_le ha
theorem fn_call (S : Stat C) (O : Ok C) (R : Rel C ρ σ s.heap) {a : Nat} {fn : Fn} {o : Obj} {fd : FuncData} (K : FnOk C a fn o fd) {args : List AV} {vs : List Value} {l : Loc} (hd : A.depth < recursionLimit)
    (hf : fill fn.ps args fn.ds = some l) (ha : VsRel C ρ args vs) {P : Flow → Shared → Prop}
    (body : ∀ env s₁, FrameOk C env fn.names ρ l s₁.heap → Rel C ρ σ s₁.heap → Ext NoX ρ s ρ s₁ → (∀ b, FX env fn.names b → s.heap.get? b = none) →
      G C.M (A.deeper env) (execs fn.body env) (fun f s' => P (.ret (match f with | .ret v => v | _ => .none)) s') s₁) : CG C.M A (.call (.ref a) ⟨vs, []⟩) P s := by
  ((refine x1a2 (K.ds) (fun items hds hdv => ?_)))
  ((refine x0a2 (fill_rel hf ha (VsRel.nil' hds)) (fun qt1 frel => ?_)); (refine x0a3 (qt1) (fun f1 f2 f3 => ?_)))
  rw [Array.length_toList] at f2 f3 frel
  refine CG.tree ?_
  show G _ A.in1 (callAny (.ref a) ⟨vs, []⟩) _ s
  refine G.of ?_
  simp only [callAny]
  refine wpAny_bind (wpAny_load (R.base _ _ K.obj) ?_)
  ((refine x4a4 (K.rec_) (fun c oc cvs tq hc hoc hdc hq => ?_)))
  simp only [K.data, callFunction, K.co, K.gen, K.body, hc]
  refine wpAny_bind (m := field (.ref c) 1) (wpAny_field (R.base _ _ hoc) hdc hq (wpAny_bind (wpAny_pure ?_)))
  refine wpAny_bind (bind_plain (items := items) K.p1 K.p2 K.p3 K.p4 K.ps (fun Q hQ => ?_) f1 f2 f3 ?_)
  · rcases hdv with ⟨e, rfl⟩ | ⟨d, od, n, e, e1, e2⟩
    · rw [e]; exact wpAny_pure (hQ _ rfl)
    · rw [e]
      exact wpAny_seqItems (R.base _ _ e1) e2 (hQ _ rfl)
  rw [K.clo]
  have hnm : ∀ x, fd.scope.names.lookup x = lk fn.names x := fun x => by rw [lk_eq, K.names]
  refine wpAny_bind (wpAny_newFunctionEnv_cells K.kind (fun x hx => ?_) fun env he s' x => ?_)
  · ((refine x1a2 (List.mem_filterMap.mp hx) (fun n hn e => ?_)))
    ((refine x1a2 (Option.map_eq_some_iff.mp e) (fun v hv qr2 => ?_)); subst qr2)
    rcases K.kinds n hn with k | k
    · exact .inl (by rw [hnm]; exact k)
    · exact .inr ⟨by rw [hnm]; exact k, cells_some _ _ _ _ (.inl (by rw [K.names]; exact lk_mem k))⟩
  · refine wpAny_bind (wpAny_enterFrame (S.lim.keeps fun b o e => x.toInCall.keep b o (R.base b o e)) hd (wpAny_pure ⟨rfl, rfl, ?_⟩))
    have hL : env.locals = s.heap.objs.size := by rw [he]; rfl
    have hsc : env.scope = fd.scope := by rw [he]; rfl
    have hko : ∀ y, env.kindOf y = lk fn.names y := fun y => by rw [look_eq, hsc, lk_eq, lk_eq, K.names]
    ((refine x2a1 (x.toInCall.same) (fun h' tk qr3 => ?_)); subst qr3)
    have R' : Rel C ρ σ h' := R.keeps x.toInCall.keep
    have X : Ext NoX ρ s ρ { s with heap := h', toks := tk } := Ext.kept x.toInCall.keep
    have hcell : ∀ y c, env.cells.lookup y = some c → s.heap.objs.size < c := fun y c e => hL ▸ x.above y c (mem_of_lookup e)
    have F : FrameOk C env fn.names ρ l h' := by
      refine ⟨by rw [hsc]; exact K.kind, fun y => .inl (by rw [hsc, K.names]), fun y k e => (K.fine y k e).1, by rw [he]; exact K.gl, by rw [he]; exact K.bl, ⟨_, x.toInCall.ns, fun y v e k => ?_⟩, fun y hy => ?_, fun y z c e1 e2 => ?_, fun hm => ?_, fun y c hy e => ?_, ?_, fun y c hy e => ?_⟩
      · ((refine x1a3 (frel y v e) (fun val q1 q2 q3 => ?_)))
        exact ⟨val, bindL_fm _ _ _ _ (by rw [hko]; exact k) q1 (.inl q3), q2⟩
      · have k : lk fn.names y = some .cell := by
          rcases hy with k | k
          · exact k
          · exact absurd rfl (K.fine y _ k).2
        have : ((cellsFrom (s.heap.objs.size + 1) fd.scope.names []).lookup y).isSome = true := cells_some _ _ _ _ (.inl (by rw [K.names]; exact lk_mem k))
        ((refine x1a1 (Option.isSome_iff_exists.mp this) (fun c hc' => ?_)))
        have hc' : env.cells.lookup y = some c := by rw [he]; exact hc'
        refine ⟨c, _, hc', x.cell y c hc', fun v e => ?_⟩
        ((refine x1a3 (frel y v e) (fun val q1 q2 q3 => ?_)))
        exact ⟨val, bindC_fm _ _ _ _ (by rw [hko, k]; decide) q1 (.inl q3), q2⟩
      · exact name_of_addr x.apart (mem_of_lookup e1) (mem_of_lookup e2)
      · exact absurd (R.lt hm) (Nat.not_lt.mpr (Nat.le_of_eq hL.symm))
      · have := hcell y c e
        exact ⟨fun hm => absurd (R.lt hm) (Nat.not_lt.mpr (Nat.le_of_lt this)), by rw [hL]; exact Nat.ne_of_gt this⟩
      · rw [hL]; exact R.low O
      · exact Nat.le_trans (R.low O) (Nat.le_of_lt (hcell y c e))
    refine CG.tree ?_
    show G _ (A.deeper env) (do point; match ← (execs fn.body env).onRaise (leaving env) with | .ret v => ret v | _ => ret .none) _ _
    refine G.bind (G.point (G.bind (G.onRaise (G.mono (body env _ F R' X fun b hb => ?_) fun f s' h' => ?_))))
    · rcases hb with rfl | ⟨y, _, e⟩
      · rw [hL]; exact fresh_get (Nat.le_refl _)
      · exact fresh_get (Nat.le_of_lt (hcell y b e))
    · cases f <;> exact G.pure h'
end
end Mine
-- M35
namespace Mine
open PySem PySem.W PySem.Calls PyProof.Rows PyProof PyProof.V PySem.SeqAt Builtin Builtin.ObjectAttr
section
variable {prog : Program} {w : World} {A : Around} {K : Frag} {c : Addr} {h : Heap} {g : Array GenState} {d : Drawn} {t : Nat} {os : OsState}
theorem under_make (A : Around) (c : Addr) (vs : List Value) : (A.under (.builtin "type.__call__" ⟨.ref c :: vs, []⟩)).depth = A.depth + 1 ∧ (A.under (.builtin "type.__call__" ⟨.ref c :: vs, []⟩)).units = A.units + 1 ∧ (A.under (.builtin "type.__call__" ⟨.ref c :: vs, []⟩)).handled = A.handled := ⟨rfl, rfl, rfl⟩
theorem g_make {vs : List Value} {fI : Addr} {P : Flow → Shared → Prop} (X : K.In h) (hm : makesIn K c = true) (hi : findIn K (.ref c) "__init__" = some (some (.ref fI))) (hf : typeIn K (.ref fI) = some (.type "function"))
    (hq : CG (model prog w) (A.under (.builtin "type.__call__" ⟨.ref c :: vs, []⟩)) (.call (.ref fI) ⟨.ref (h.objs.size + 1) :: vs, []⟩) (fun f s' => f = .ret .none ∧ P (.ret (.ref (h.objs.size + 1))) s') ⟨(h.push emptyDict).push (instObj c h.objs.size), g, d, t, os⟩) :
    CG (model prog w) A (.call (.ref c) ⟨vs, []⟩) P ⟨h, g, d, t, os⟩ := by
  have Y := makes_of (M := model prog w) X hm
  have hi := looks_findIn (M := model prog w) X hi
  have hb : ∀ self, Looks (model prog w) h (bindSpecial (.ref fI) self) (.ref fI, [self]) := fun self => bind_fn X self hf
  have Y' := Y
  obtain ⟨⟨oc, od, cd, sl, hC, e1, e2, e4⟩, made, base, self, top, call, typ⟩ := Y
  refine CG.tree (G.of ?_)
  show wpAny _ _ (callAny (.ref c) _) _ _ _
  refine nd_load hC ?_
  show wpAny _ _ (callAny.viaDunder (.ref c) _) _ _ _
  unfold callAny.viaDunder
  refine wpAny_bind (call.at ?_)
  dsimp only
  rw [tc_bind]
  refine wpAny_bind (wpAny_pure (wpAny_bind (wpAny_pure ?_)))
  refine wpAny_pure (a := Fin.again (.call (.builtin "type.__call__") ⟨.ref c :: vs, []⟩)) ⟨rfl, rfl, ?_⟩
  refine CG.tree ?_
  show G _ _ (do checkBuiltinCall "type.__call__" ⟨.ref c :: vs, []⟩; again (.builtin "type.__call__" ⟨.ref c :: vs, []⟩)) _ _
  refine G.bind (G.of (check_slot tc_kind tc_split typ (tc_args _ _ _) ?_))
  refine G.pure ⟨Code.quiet_builtin _ (by decide +kernel), fineB (by decide +kernel), CG.builtin entry_typeCall ?_⟩
  unfold Builtin.«type.__call__»
  have hmro : Looks (model prog w) h (mroOf (.ref c)) cd.mro := ((Looks.ld (part := none) hC).andThen .now).andThen .now
  show G _ _ (mroOf (.ref c) >>= fun m => _) _ _
  refine G.bind (G.of (hmro.at ?_))
  rw [e4]
  simp only [Bool.false_eq_true, if_false]
  refine G.bind (G.of (made.at ?_))
  dsimp only
  refine G.bind (G.pure ?_)
  refine G.bind (G.holding (G.call (CG.of (new_K Y' hi (.inl rfl) ⟨_, rfl, _, rfl, ?_⟩))))
  have k : ∀ b o, h.get? b = some o → ((h.push emptyDict).push (instObj c h.objs.size)).get? b = some o := fun b o e => Heap.get?_push_of_some _ (Heap.get?_push_of_some _ e)
  have hx : ((h.push emptyDict).push (instObj c h.objs.size)).get? (h.objs.size + 1) = some (instObj c h.objs.size) := by heap_get
  have t1 : Looks (model prog w) ((h.push emptyDict).push (instObj c h.objs.size)) (typeOf (.ref (h.objs.size + 1))) (.ref c) := (Looks.ld hx).andThen .now
  have s1 : Looks (model prog w) ((h.push emptyDict).push (instObj c h.objs.size)) (isInstance (.ref (h.objs.size + 1)) (.ref c)) true := t1.andThen (self.keeps k)
  have i1 := hi.keeps k
  have b1 := (hb (.ref (h.objs.size + 1))).keeps k
  refine G.bind (G.of (s1.at ?_))
  simp only [Bool.not_true, Bool.false_eq_true, if_false]
  refine G.bind (G.holding ?_)
  unfold callSpecial?
  refine G.bind (G.of ((t1.andThen i1 : Looks _ _ (specialOf (.ref (h.objs.size + 1)) "__init__") _).at ?_))
  dsimp only
  refine G.holding (G.bind (G.of (b1.at (G.bind (G.call (CG.mono hq fun f s₂ hf => ?_))))))
  obtain ⟨rfl, k1⟩ := hf
  exact ⟨_, rfl, G.pure (G.pure k1)⟩
end
end Mine
-- M36
namespace Mine
open PySem PySem.W PySem.Calls PyProof.Rows PyProof PyProof.V PySem.SeqAt

/-! what soundness says -/
inductive FlRel (C : Cx) (ρ : List Addr) : Fl → Flow → Prop
  | next : FlRel C ρ .next .next
  | brk : FlRel C ρ .brk .brk
  | cont : FlRel C ρ .cont .cont
  | ret {v : AV} {val : Value} : VRel C ρ v val → FlRel C ρ (.ret v) (.ret val)
noncomputable def SE (C : Cx) (d : Nat) (f : Expr → List (Str × NameKind) → Loc → AS → Option (AV × AS)) : Prop :=
  ∀ {A : Around} {env : Env} {ns : List (Str × NameKind)} {l : Loc} {ρ : List Addr} {σ : AS} {s : Shared} {e : Expr} {v : AV} {σ' : AS} {Q : Value → Shared → Prop}, f e ns l σ = some (v, σ') → Room A d → Rel C ρ σ s.heap → FrameOk C env ns ρ l s.heap →
    (∀ ρ' s' val, Rel C ρ' σ' s'.heap → Ext NoX ρ s ρ' s' → VRel C ρ' v val → Q val s') → G C.M A (eval e env) Q s
noncomputable def ST (C : Cx) (d : Nat) (f : Expr → List (Str × NameKind) → Loc → AS → Option (Bool × AS)) : Prop :=
  ∀ {A : Around} {env : Env} {ns : List (Str × NameKind)} {l : Loc} {ρ : List Addr} {σ : AS} {s : Shared} {e : Expr} {b : Bool} {σ' : AS} {Q : Bool → Shared → Prop}, f e ns l σ = some (b, σ') → Room A d → Rel C ρ σ s.heap → FrameOk C env ns ρ l s.heap →
    (∀ ρ' s', Rel C ρ' σ' s'.heap → Ext NoX ρ s ρ' s' → Q b s') → G C.M A (isTrue e env (eval e env)) Q s
noncomputable def SX (C : Cx) (d : Nat) (f : Stmt → List (Str × NameKind) → Loc → AS → Option (Fl × Loc × AS)) : Prop :=
  ∀ {A : Around} {env : Env} {ns : List (Str × NameKind)} {l : Loc} {ρ : List Addr} {σ : AS} {s : Shared} {e : Stmt} {fl : Fl} {l' : Loc} {σ' : AS} {Q : Flow → Shared → Prop}, f e ns l σ = some (fl, l', σ') → Room A d → Rel C ρ σ s.heap → FrameOk C env ns ρ l s.heap →
    (∀ ρ' s' fv, Rel C ρ' σ' s'.heap → Ext (FX env ns) ρ s ρ' s' → FrameOk C env ns ρ' l' s'.heap → FlRel C ρ' fl fv → Q fv s') → G C.M A (exec e env) Q s
noncomputable def SC (C : Cx) (d : Nat) (f : AV → List AV → AS → Option (AV × AS)) : Prop :=
  ∀ {A : Around} {ρ : List Addr} {σ : AS} {s : Shared} {fv : AV} {fval : Value} {args : List AV} {vs : List Value} {v : AV} {σ' : AS} {Q : Value → Shared → Prop}, f fv args σ = some (v, σ') → Room A d → Rel C ρ σ s.heap → VRel C ρ fv fval → VsRel C ρ args vs →
    (∀ ρ' s' val, Rel C ρ' σ' s'.heap → Ext NoX ρ s ρ' s' → VRel C ρ' v val → Q val s') → G C.M A (call fval vs) Q s
noncomputable def SCode (C : Cx) (d : Nat) (f : AV → List AV → AS → Option (AV × AS)) : Prop :=
  ∀ {A : Around} {ρ : List Addr} {σ : AS} {s : Shared} {a : Nat} {args : List AV} {vs : List Value} {v : AV} {σ' : AS} {Q : Value → Shared → Prop}, f (.glob a) args σ = some (v, σ') → Room A d → Rel C ρ σ s.heap → VsRel C ρ args vs →
    (∀ ρ' s' val, Rel C ρ' σ' s'.heap → Ext NoX ρ s ρ' s' → VRel C ρ' v val → Q val s') → CG C.M A (.call (.ref a) ⟨vs, []⟩) (fun f s' => ∃ v, f = .ret v ∧ Q v s') s

section
variable {C : Cx} {A : Around} {s s' : Shared} {ρ ρ' : List Addr} {σ σ' : AS} {env : Env} {ns : List (Str × NameKind)} {l : Loc} {X : Addr → Prop}
theorem Ext.v (x : Ext X ρ s ρ' s') {a : AV} {v : Value} (h : VRel C ρ a v) : VRel C ρ' a v := by obtain ⟨r, rfl⟩ := x.pre; exact h.app
theorem Ext.vs (x : Ext X ρ s ρ' s') {a : List AV} {v : List Value} (h : VsRel C ρ a v) : VsRel C ρ' a v := by obtain ⟨r, rfl⟩ := x.pre; exact h.app
theorem Ext.at (x : Ext X ρ s ρ' s') {i : Nat} {a : Addr} (h : at? ρ i = some a) : at? ρ' i = some a := by obtain ⟨r, rfl⟩ := x.pre; exact at_app h
theorem Room.low {A : Around} {d : Nat} (r : Room A (d + 1)) : Room A d := r.less (Nat.le_succ d)

/-! lists of expressions -/
theorem starEach_cons {e : Expr} {rest : List Expr} (h : starred e = false) : starEach (e :: rest) env = (false, eval e env) :: starEach rest env := by
  cases e <;> first | rfl | cases h
theorem evL_sound {d : Nat} {f : Expr → List (Str × NameKind) → Loc → AS → Option (AV × AS)} (hE : SE C d f) (rm : Room A d) {pos : Pos} : ∀ {es : List Expr} {ρ : List Addr} {σ σ' : AS} {s : Shared} {vs : List AV} {Q : List Value → Shared → Prop},
    evL (fun e σ => f e ns l σ) es σ = some (vs, σ') → Rel C ρ σ s.heap → FrameOk C env ns ρ l s.heap →
    (∀ ρ' s' vals, Rel C ρ' σ' s'.heap → Ext NoX ρ s ρ' s' → VsRel C ρ' vs vals → Q vals s') → G C.M A (spliced (backTo pos (starEach es env))) Q s
  | [], ρ, σ, σ', s, vs, Q, e, R, F, h => by
    (revert h; apply q2 e; intro h)
    exact G.pure (h ρ s [] R Ext.refl .nil)
  | e0 :: es, ρ, σ, σ', s, vs, Q, e, R, F, h => by
    unfold evL at e
    have qq := qIfN e

    · have hs := qq.1; have e := qq.2; clear qq
      rw [starEach_cons hs]
      split at e
      · cases e
      · rename_i v σ1 e1
        split at e
        · cases e
        · rename_i vs' σ2 e2
          (revert h; apply q2 e; intro h)
          show G C.M A (eval e0 env >>= fun v => _) Q s
          refine G.bind (hE e1 rm R F fun ρ1 s1 val R1 x1 h1 => ?_)
          simp only [Bool.false_eq_true, if_false, pure_bind]
          refine G.bind (G.holding (evL_sound hE rm e2 R1 (F.extE x1) fun ρ2 s2 vals R2 x2 h2 => G.pure ?_))
          exact h _ _ _ R2 (x1.trans x2) (.cons (x2.v h1) h2)
end
end Mine
-- M37
namespace Mine
open PySem PySem.W PySem.Calls PyProof.Rows PyProof PyProof.V PySem.SeqAt
section
variable {C : Cx} {A : Around} {s : Shared} {ρ : List Addr} {σ σ' : AS} {env : Env} {ns : List (Str × NameKind)} {l : Loc} {d : Nat} {f : Expr → List (Str × NameKind) → Loc → AS → Option (AV × AS)}
theorem behind_off {op : CmpOp} {e : Expr} (h : notSet e = true) : behindInMarks op e = false := by
  cases e <;> first | rfl | cases h
theorem marked_one {op : CmpOp} {e : Expr} {t : Sem Value} (h : notSet e = true) : markedEach [op] [e] [t] = [t] := by
  show [markedBehindIn op e t] = _
  rw [markedBehindIn_of_false (behind_off h)]
theorem g_truthy {b : Bool} {Q : Bool → Shared → Prop} (h : Q b s) : G C.M A (truthy (.bool b)) Q s := G.of (wpAny_truthy_bool h)

theorem chain_sound (hE : SE C d f) (O : Ok C) (rm : Room A d) {pos : Pos} : ∀ {ops : List CmpOp} {rs : List Expr} {x : AV} {xv : Value} {ρ : List Addr} {σ σ' : AS} {s : Shared} {b : Bool} {Q : Value → Shared → Prop},
    evC C.T (fun e σ => f e ns l σ) x ops rs σ = some (b, σ') → noSets rs = true → VRel C ρ x xv → Rel C ρ σ s.heap → FrameOk C env ns ρ l s.heap →
    (∀ ρ' s', Rel C ρ' σ' s'.heap → Ext NoX ρ s ρ' s' → Q (.bool b) s') → G C.M A (compareChain pos xv ops (markedEach ops rs (evalEach rs env))) Q s := by
  intro ops
  induction ops with
  | nil => intro rs x xv ρ σ σ' s b Q e; cases rs <;> cases e
  | cons op ops ih =>
    intro rs x xv ρ σ σ' s b Q e hn hx R F h
    cases rs with
    | nil => cases ops <;> cases e
    | cons r rs =>
      have qp := Bool.and_eq_true_iff.mp (show ((notSet r).and (noSets rs)) = true from hn); have hn1 := qp.1; have hn2 := qp.2; clear qp
      by_cases one : ops = [] ∧ rs = []
      · obtain ⟨rfl, rfl⟩ := one
        rw [show evalEach [r] env = [eval r env] from rfl, marked_one hn1]
        have e : (match f r ns l σ with | some (b, σ1) => (match cmp C.T σ1 op x b with | some c => some (c, σ1) | none => none) | none => none) = some (b, σ') := e
        split at e
        · rename_i y σ1 e1
          split at e
          · rename_i c e2
            (revert h; apply q2 e; intro h)
            show G C.M A (holding [xv] (eval r env) >>= fun rv => standAt pos >>= fun _ => operate [xv, rv] (compareOp op xv rv)) Q s
            refine G.bind (G.holding (hE e1 rm R F fun ρ1 s1 val R1 x1 h1 => G.bind (G.standAt (G.operate (G.of ?_)))))
            exact cmp_sound O R1 rm.units e2 (x1.v hx) h1 fun t => h ρ1 _ R1 (x1.trans (Ext.tok t))
          · cases e
        · cases e
      · have e : (match f r ns l σ with | some (b, σ1) => (match cmp C.T σ1 op x b with | some true => evC C.T (fun e σ => f e ns l σ) b ops rs σ1 | some false => some (false, σ1) | none => none) | none => none) = some (b, σ') := by
          cases ops with
          | nil =>
            cases rs with
            | nil => exact absurd ⟨rfl, rfl⟩ one
            | cons => exact e
          | cons => cases rs <;> exact e
        have em : markedEach (op :: ops) (r :: rs) (evalEach (r :: rs) env) = eval r env :: markedEach ops rs (evalEach rs env) := by
          cases ops with
          | nil =>
            cases rs with
            | nil => exact absurd ⟨rfl, rfl⟩ one
            | cons => rfl
          | cons => cases rs <;> rfl
        have ec : compareChain pos xv (op :: ops) (eval r env :: markedEach ops rs (evalEach rs env)) = (do
            let rv ← holding [xv] (eval r env)
            standAt pos
            let c ← holding [xv, rv] (compareOp op xv rv)
            release [xv, rv] [c]
            if ← holding [c, rv] (truthy c) then compareChain pos rv ops (markedEach ops rs (evalEach rs env)) else pure c) := by
          cases ops with
          | nil =>
            cases rs with
            | nil => exact absurd ⟨rfl, rfl⟩ one
            | cons r2 rs => rfl
          | cons => rfl
        rw [em, ec]
        split at e
        · rename_i y σ1 e1
          refine G.bind (G.holding (hE e1 rm R F fun ρ1 s1 val R1 x1 h1 => G.bind (G.standAt (G.bind (G.holding (G.of ?_))))))
          split at e
          · rename_i e2
            refine cmp_sound O R1 rm.units e2 (x1.v hx) h1 fun t => G.bind (G.release (G.bind (G.holding (g_truthy ?_))))
            rw [if_pos rfl]
            have x2 : Ext NoX ρ s ρ1 { s1 with toks := t } := x1.trans (Ext.tok t)
            exact ih e hn2 h1 (s := { s1 with toks := t }) R1 (F.extE x2) fun ρ' s' R' x' => h _ _ R' (x2.trans x')
          · rename_i e2
            (revert h; apply q2 e; intro h)
            refine cmp_sound O R1 rm.units e2 (x1.v hx) h1 fun t => G.bind (G.release (G.bind (G.holding (g_truthy ?_))))
            rw [if_neg (by decide)]
            exact G.pure (h ρ1 _ R1 (x1.trans (Ext.tok t)))
          · exact qN e
        · cases e
theorem test_sound (hE : SE C d f) (O : Ok C) (rm : Room A d) {pos : Pos} : ∀ {ops : List CmpOp} {rs : List Expr} {x : AV} {xv : Value} {ρ : List Addr} {σ σ' : AS} {s : Shared} {b : Bool} {Q : Bool → Shared → Prop},
    evC C.T (fun e σ => f e ns l σ) x ops rs σ = some (b, σ') → noSets rs = true → VRel C ρ x xv → Rel C ρ σ s.heap → FrameOk C env ns ρ l s.heap →
    (∀ ρ' s', Rel C ρ' σ' s'.heap → Ext NoX ρ s ρ' s' → Q b s') → G C.M A (testChain pos xv ops (markedEach ops rs (evalEach rs env))) Q s := by
  intro ops
  induction ops with
  | nil => intro rs x xv ρ σ σ' s b Q e; cases rs <;> cases e
  | cons op ops ih =>
    intro rs x xv ρ σ σ' s b Q e hn hx R F h
    cases rs with
    | nil => cases ops <;> cases e
    | cons r rs =>
      have qp := Bool.and_eq_true_iff.mp (show ((notSet r).and (noSets rs)) = true from hn); have hn1 := qp.1; have hn2 := qp.2; clear qp
      by_cases one : ops = [] ∧ rs = []
      · obtain ⟨rfl, rfl⟩ := one
        rw [show evalEach [r] env = [eval r env] from rfl, marked_one hn1]
        have e : (match f r ns l σ with | some (b, σ1) => (match cmp C.T σ1 op x b with | some c => some (c, σ1) | none => none) | none => none) = some (b, σ') := e
        split at e
        · rename_i y σ1 e1
          split at e
          · rename_i c e2
            (revert h; apply q2 e; intro h)
            show G C.M A (holding [xv] (eval r env) >>= fun rv => standAt pos >>= fun _ => operate [xv, rv] (compareOp op xv rv) >>= fun c => holding [c] (truthy c)) Q s
            refine G.bind (G.holding (hE e1 rm R F fun ρ1 s1 val R1 x1 h1 => G.bind (G.standAt (G.bind (G.operate (G.of ?_))))))
            exact cmp_sound O R1 rm.units e2 (x1.v hx) h1 fun t => G.holding (g_truthy (h ρ1 _ R1 (x1.trans (Ext.tok t))))
          · cases e
        · cases e
      · have e : (match f r ns l σ with | some (b, σ1) => (match cmp C.T σ1 op x b with | some true => evC C.T (fun e σ => f e ns l σ) b ops rs σ1 | some false => some (false, σ1) | none => none) | none => none) = some (b, σ') := by
          cases ops with
          | nil =>
            cases rs with
            | nil => exact absurd ⟨rfl, rfl⟩ one
            | cons => exact e
          | cons => cases rs <;> exact e
        have em : markedEach (op :: ops) (r :: rs) (evalEach (r :: rs) env) = eval r env :: markedEach ops rs (evalEach rs env) := by
          cases ops with
          | nil =>
            cases rs with
            | nil => exact absurd ⟨rfl, rfl⟩ one
            | cons => rfl
          | cons => cases rs <;> rfl
        have ec : testChain pos xv (op :: ops) (eval r env :: markedEach ops rs (evalEach rs env)) = (do
            let rv ← holding [xv] (eval r env)
            standAt pos
            let c ← holding [xv, rv] (compareOp op xv rv)
            release [xv, rv] [c]
            if ← holding [c, rv] (truthy c) then testChain pos rv ops (markedEach ops rs (evalEach rs env)) else pure false) := by
          cases ops with
          | nil =>
            cases rs with
            | nil => exact absurd ⟨rfl, rfl⟩ one
            | cons r2 rs => rfl
          | cons => rfl
        rw [em, ec]
        split at e
        · rename_i y σ1 e1
          refine G.bind (G.holding (hE e1 rm R F fun ρ1 s1 val R1 x1 h1 => G.bind (G.standAt (G.bind (G.holding (G.of ?_))))))
          split at e
          · rename_i e2
            refine cmp_sound O R1 rm.units e2 (x1.v hx) h1 fun t => G.bind (G.release (G.bind (G.holding (g_truthy ?_))))
            rw [if_pos rfl]
            have x2 : Ext NoX ρ s ρ1 { s1 with toks := t } := x1.trans (Ext.tok t)
            exact ih e hn2 h1 (s := { s1 with toks := t }) R1 (F.extE x2) fun ρ' s' R' x' => h _ _ R' (x2.trans x')
          · rename_i e2
            (revert h; apply q2 e; intro h)
            refine cmp_sound O R1 rm.units e2 (x1.v hx) h1 fun t => G.bind (G.release (G.bind (G.holding (g_truthy ?_))))
            rw [if_neg (by decide)]
            exact G.pure (h ρ1 _ R1 (x1.trans (Ext.tok t)))
          · exact qN e
        · cases e
theorem sameB_iff (a b : Bool) : sameB a b = (a == b) := by cases a <;> cases b <;> rfl
theorem bool_sound (hE : SE C d f) (rm : Room A d) {pos : Pos} {op : BoolOp} {isAnd : Bool} (hop : (match op with | .And => true | .Or => false) = isAnd) : ∀ {es : List Expr} {ρ : List Addr} {σ σ' : AS} {s : Shared} {v : AV} {Q : Value → Shared → Prop},
    evB (fun e σ => f e ns l σ) isAnd es σ = some (v, σ') → Rel C ρ σ s.heap → FrameOk C env ns ρ l s.heap →
    (∀ ρ' s' val, Rel C ρ' σ' s'.heap → Ext NoX ρ s ρ' s' → VRel C ρ' v val → Q val s') → G C.M A (boolOp pos op (evalEach es env)) Q s := by
  intro es
  induction es with
  | nil => intro ρ σ σ' s v Q e; cases e
  | cons e0 es ih =>
    intro ρ σ σ' s v Q e R F h
    cases es with
    | nil => exact hE (show f e0 ns l σ = some (v, σ') from e) rm R F h
    | cons e1 es =>
      have e : (match f e0 ns l σ with | some (.bool b, σ1) => (match sameB b isAnd with | true => evB (fun e σ => f e ns l σ) isAnd (e1 :: es) σ1 | false => some (.bool b, σ1)) | _ => none) = some (v, σ') := e
      show G C.M A (eval e0 env >>= fun v => standAt pos >>= fun _ => holding [v] (truthy v) >>= fun t => match op, t with
        | .And, false | .Or, true => pure v
        | _, _ => boolOp pos op (evalEach (e1 :: es) env)) Q s
      split at e
      · rename_i b σ1 e2
        refine G.bind (hE e2 rm R F fun ρ1 s1 val R1 x1 h1 => ?_)
        rw [vbool h1]
        refine G.bind (G.standAt (G.bind (G.holding (g_truthy ?_))))
        split at e
        · rename_i hs
          have hb : b = isAnd := by rw [sameB_iff] at hs; exact eq_of_beq hs
          have go := ih e R1 (F.extE x1) fun ρ' s' val R' x' hv => h ρ' s' val R' (x1.trans x') hv
          subst hb hop
          cases op <;> exact go
        · rename_i hs
          (revert h; apply q2 e; intro h)
          have hb : b ≠ isAnd := by rw [sameB_iff] at hs; intro z; subst z; simp at hs
          have go : G C.M A (pure (Value.bool b)) Q s1 := G.pure (h ρ1 s1 _ R1 x1 (.bool b))
          subst hop
          cases op <;> cases b <;> first | exact go | exact absurd rfl hb
      · cases e
end
end Mine
-- M38
namespace Mine
open PySem PySem.W PySem.Calls PyProof.Rows PyProof PyProof.V PySem.SeqAt
section
variable {C : Cx} {A : Around} {s : Shared} {ρ : List Addr} {σ σ' : AS} {env : Env} {ns : List (Str × NameKind)} {l : Loc} {d : Nat} {f : Expr → List (Str × NameKind) → Loc → AS → Option (AV × AS)} {pos : Pos}
theorem noStar : ∀ {es : List Expr} {σ σ' : AS} {vs : List AV}, evL (fun e σ => f e ns l σ) es σ = some (vs, σ') → (backTo pos (starEach es env)).any (·.1) = false
  | [], _, _, _, _ => rfl
  | e0 :: es, σ, σ', vs, e => by
    unfold evL at e
    have qq := qIfN e

    · have hs := qq.1; have e := qq.2; clear qq
      rw [starEach_cons hs]
      split at e
      · cases e
      · split at e
        · exact qN e
        · rename_i e2
          show (false || (backTo pos (starEach es env)).any (·.1)) = false
          rw [noStar e2]; rfl
theorem g_evalArgs {fv : Value} {args : List (Bool × Sem Value)} {Q : Args → Shared → Prop} (hno : args.any (·.1) = false) (h : G C.M A (spliced args) (fun vs s' => Q ⟨vs, []⟩ s') s) : G C.M A (evalArgs fv true args []) Q s := by
  cases args with
  | nil =>
    unfold evalArgs
    show G C.M A (spliced [] >>= _) Q s
    refine G.bind (G.mono h fun vs s' q => G.bind (G.pure (G.holding ?_)))
    exact G.bind (G.pure (G.bind (G.pure (G.pure q))))
  | cons x rest =>
    obtain ⟨b, x⟩ := x
    cases b with
    | true => cases hno
    | false =>
      unfold evalArgs
      show G C.M A (spliced ((false, x) :: rest) >>= _) Q s
      refine G.bind (G.mono h fun vs s' q => ?_)
      refine G.holding ?_
      exact G.bind (G.pure (G.bind (G.pure (G.pure q))))
theorem g_callWith {fv : Value} {first : List Value} {args : List (Bool × Sem Value)} {Q : Value → Shared → Prop} (hno : args.any (·.1) = false)
    (h : G C.M A (spliced args) (fun vs s₁ => (∃ k, (k = Keeper.frame ∨ k = Keeper.machine) ∧ Looks C.M s₁.heap (keeperOf fv) k) ∧ G C.M A (call fv (first ++ vs)) Q s₁) s) : G C.M A (callWith pos fv first args []) Q s := by
  unfold callWith
  refine G.bind (G.holding (g_evalArgs hno (G.mono h fun vs s₁ h₁ => G.bind (G.standAt ?_))))
  ((refine x0a2 (h₁) (fun qt1 hc => ?_)); (refine x1a2 (qt1) (fun k hk L => ?_)))
  simp only [hno, List.any_nil, Bool.or_false]
  refine G.bind (G.of (L.here ?_))
  have tail : ∀ {t : Sem Value}, G C.M A t Q s₁ → G C.M A (t >>= fun r => holding [r] point >>= fun _ => pure r) Q s₁ :=
    fun ht => G.bind (G.mono ht fun r s₂ hr => G.bind (G.holding (G.point (G.pure hr))))
  rcases hk with rfl | rfl <;> dsimp only
  · split
    · exact tail hc
    · exact tail (G.keep hc)
  · exact tail hc
theorem keeper_of (S : Stat C) (R : Rel C ρ σ s.heap) {fv : AV} {v : Value} (hf : isFun C.B fv = true) (hv : VRel C ρ fv v) : ∃ k, (k = Keeper.frame ∨ k = Keeper.machine) ∧ Looks C.M s.heap (keeperOf v) k := by
  unfold isFun at hf
  split at hf
  · rename_i a
    cases hv
    split at hf
    · rename_i fn e
      ((refine x2a1 (S.fn _ _ e) (fun o fd K => ?_)))
      exact looks_keep K.keep (S.kinAt R)
    · split at hf
      · rename_i k e
        exact looks_keep (S.cls _ _ e).keep (S.kinAt R)
      · cases hf
  · cases hv; exact ⟨.machine, .inr rfl, .now⟩
  · cases hv; exact ⟨.machine, .inr rfl, .now⟩
  · first | exact qN hf | exact qFT hf | exact qTF hf | exact qS hf | cases hf
theorem isFun_fn {a : Nat} {fn : Fn} (e : nlk C.B.fn a = some fn) : isFun C.B (.glob a) = true := by
  unfold isFun
  dsimp only
  rw [e]

/-! single nodes -/
theorem g_BinOp {a b : Expr} {op : Operator} {Q : Value → Shared → Prop} (h : G C.M A (eval a env) (fun x s₁ => G C.M A (eval b env) (fun y s₂ => G C.M A (binaryOp op x y) Q s₂) s₁) s) : G C.M A (eval (.BinOp a op b pos) env) Q s := by
  rw [arm_eval_BinOp]
  exact G.bind (G.mono h fun x s1 h1 => G.bind (G.holding (G.mono h1 fun y s2 h2 => G.bind (G.standAt (G.operate h2)))))
theorem g_IfExp {t a b : Expr} {Q : Value → Shared → Prop} (h : G C.M A (isTrue t env (eval t env)) (fun c s₁ => if c then G C.M A (eval a env) Q s₁ else G C.M A (eval b env) Q s₁) s) : G C.M A (eval (.IfExp t a b pos) env) Q s := by
  rw [arm_eval_IfExp]
  refine G.bind (G.mono h fun c s1 h1 => ?_)
  cases c <;> exact h1
theorem g_Subscript {o i : Expr} {Q : Value → Shared → Prop} (h : G C.M A (eval o env) (fun x s₁ => G C.M A (eval i env) (fun y s₂ => G C.M A (subscriptTail o i x y) Q s₂) s₁) s) : G C.M A (eval (.Subscript o i pos) env) Q s := by
  rw [eval_Subscript]
  exact G.bind (G.mono h fun x s1 h1 => G.bind (G.holding (G.mono h1 fun y s2 h2 => G.bind (G.standAt h2))))
theorem g_Attribute {o : Expr} {name : Str} {Q : Value → Shared → Prop} (hb : baseOk o = true) (h : G C.M A (eval o env) (fun x s₁ => G C.M A (getAttr x name true) Q s₁) s) : G C.M A (eval (.Attribute o name pos) env) Q s := by
  rw [arm_eval_Attribute, base_eq hb]
  exact G.bind (G.mono h fun x s1 h1 => G.bind (G.standAt (G.bind (G.holding (G.mono h1 fun r s2 h2 => G.bind (G.of (wpAny_letTemporaryGo (G.pure h2))))))))
theorem g_part {e : Option Expr} {Q : Value → Shared → Prop} (h : match e with | none => Q .none s | some e => G C.M A (eval e env) Q s) : G C.M A (valueOrNone (evalOpt e env)) Q s := by
  cases e with
  | none => exact G.pure h
  | some e => exact h
theorem g_Slice {lo hi : Option Expr} {p : Pos} {Q : Value → Shared → Prop}
    (h : G C.M A (valueOrNone (evalOpt lo env)) (fun x s₁ => G C.M A (valueOrNone (evalOpt hi env)) (fun y s₂ => Q (.ref s₂.heap.objs.size) { s₂ with heap := s₂.heap.push { cls := .type "slice", data := .fields #[x, y, .none] } }) s₁) s) : G C.M A (eval (.Slice lo hi none p) env) Q s := by
  rw [arm_eval_Slice]
  refine G.bind (G.mono h fun x s1 h1 => G.bind (G.holding (G.mono h1 fun y s2 h2 => ?_)))
  refine G.bind (G.holding (G.pure ?_))
  exact G.of (wpAny_newObj_type h2)
end
end Mine
-- M39
namespace Mine
open PySem PySem.W PySem.Calls PyProof.Rows PyProof PyProof.V PySem.SeqAt
section
variable {C : Cx} {A : Around} {s : Shared} {ρ : List Addr} {σ σ' : AS} {env : Env} {ns : List (Str × NameKind)} {l : Loc} {d : Nat} {r : Run} {v : AV} {Q : Value → Shared → Prop}
theorem E_Constant {c : Const} {k : Nat} {p : Pos} (e : stepE C.B C.T r (.Constant c k p) ns l σ = some (v, σ')) (R : Rel C ρ σ s.heap)
    (h : ∀ ρ' s' val, Rel C ρ' σ' s'.heap → Ext NoX ρ s ρ' s' → VRel C ρ' v val → Q val s') : G C.M A (eval (.Constant c k p) env) Q s := by
  cases c <;> first | (cases e; done) | skip
  · cases e; exact G.pure (h ρ s _ R Ext.refl .none)
  · cases e; exact G.pure (h ρ s _ R Ext.refl (.bool _))
  · cases e; exact G.of (wpAny_mkInt (h ρ _ _ R (Ext.tok _) (.int _ (by simp [SI.rel]))))
  · cases e; exact G.of (wpAny_mkText (h ρ _ _ R (Ext.tok _) (.str _ _)))
  · first | exact qN e | exact qFT e | exact qTF e | exact qS e | cases e
    rename_i b
    show G C.M A (mkTextBytes b.toArray) Q s
    exact G.of (fun _ _ _ => h ρ { s with toks := s.toks + 1 } (.bytes b.toArray s.toks) R (Ext.tok _) (.bytes _ (by simp [SI.rel])))
theorem E_Name (S : Stat C) {x : Str} {p : Pos} (e : stepE C.B C.T r (.Name x p) ns l σ = some (v, σ')) (R : Rel C ρ σ s.heap) (F : FrameOk C env ns ρ l s.heap)
    (h : ∀ ρ' s' val, Rel C ρ' σ' s'.heap → Ext NoX ρ s ρ' s' → VRel C ρ' v val → Q val s') : G C.M A (eval (.Name x p) env) Q s := by
  unfold stepE at e
  dsimp only at e
  unfold eName at e
  try dsimp only at e
  have key : (match lk ns x with | some .local => lk l x | some .cell => lk l x | some .free => lk l x | some .globalImplicit => lk C.B.glob x | _ => none) = some v ∧ σ' = σ ∧ ∃ k, lk ns x = some k := by
    split at e <;> rename_i q
    all_goals first | (cases e; done) | skip
    all_goals
      split at e
      · rename_i v' q'
        (revert h; apply q2 e; intro h)
        rw [q]
        exact ⟨q', rfl, _, rfl⟩
      · cases e
  obtain ⟨k1, rfl, k, k2⟩ := key
  exact G.of (wpAny_Name (name_sound S R F k1 fun val hv => h ρ s val R Ext.refl hv) (F.fine x k k2).1)
theorem E_UnaryOp (hE : SE C d r.E) (rm : Room A d) {op : UnaryOp} {x : Expr} {p : Pos} (e : stepE C.B C.T r (.UnaryOp op x p) ns l σ = some (v, σ')) (R : Rel C ρ σ s.heap) (F : FrameOk C env ns ρ l s.heap)
    (h : ∀ ρ' s' val, Rel C ρ' σ' s'.heap → Ext NoX ρ s ρ' s' → VRel C ρ' v val → Q val s') : G C.M A (eval (.UnaryOp op x p) env) Q s := by
  rw [arm_eval_UnaryOp]
  cases op <;> first | (cases e; done) | skip
  · have e : (match r.E x ns l σ with | some (.bool b, σ1) => some (.bool b.not, σ1) | _ => none) = some (v, σ') := e
    split at e
    · rename_i b σ1 e1
      (revert h; apply q2 e; intro h)
      refine G.bind (hE e1 rm R F fun ρ1 s1 val R1 x1 h1 => G.bind (G.standAt (G.holding ?_)))
      rw [vbool h1]
      exact G.of (not_of (wpAny_truthy_bool (h ρ1 _ _ R1 x1 (.bool _))))
    · cases e
  · have e : (match r.E x ns l σ with | some (.int (.lit n), σ1) => some (.int (.lit (-n)), σ1) | _ => none) = some (v, σ') := e
    split at e
    · rename_i n σ1 e1
      (revert h; apply q2 e; intro h)
      refine G.bind (hE e1 rm R F fun ρ1 s1 val R1 x1 h1 => G.bind (G.standAt (G.holding ?_)))
      ((refine x2a2 (vint h1) (fun m t qr2 hm => ?_)); subst qr2)
      have := lit_eq hm
      subst this
      exact G.of (P.neg_int (h ρ1 _ _ R1 (x1.trans (Ext.tok _)) (.int _ (by simp [SI.rel]))))
    · cases e
end
end Mine
-- M40
namespace Mine
open PySem PySem.W PySem.Calls PyProof.Rows PyProof PyProof.V PySem.SeqAt
section
variable {C : Cx} {A : Around} {s : Shared} {ρ : List Addr} {σ σ' : AS} {env : Env} {ns : List (Str × NameKind)} {l : Loc} {d : Nat} {r : Run} {v : AV} {Q : Value → Shared → Prop}
theorem E_BoolOp (hE : SE C d r.E) (rm : Room A d) {op : BoolOp} {es : List Expr} {p : Pos} (e : stepE C.B C.T r (.BoolOp op es p) ns l σ = some (v, σ')) (R : Rel C ρ σ s.heap) (F : FrameOk C env ns ρ l s.heap)
    (h : ∀ ρ' s' val, Rel C ρ' σ' s'.heap → Ext NoX ρ s ρ' s' → VRel C ρ' v val → Q val s') : G C.M A (eval (.BoolOp op es p) env) Q s := by
  unfold stepE at e
  dsimp only at e
  unfold eBoolOp at e
  try dsimp only at e
  rw [arm_eval_BoolOp]
  exact bool_sound hE rm rfl e R F h
theorem E_BinOp (hE : SE C d r.E) (O : Ok C) (rm : Room A d) {a b : Expr} {op : Operator} {p : Pos} (e : stepE C.B C.T r (.BinOp a op b p) ns l σ = some (v, σ')) (R : Rel C ρ σ s.heap) (F : FrameOk C env ns ρ l s.heap)
    (h : ∀ ρ' s' val, Rel C ρ' σ' s'.heap → Ext NoX ρ s ρ' s' → VRel C ρ' v val → Q val s') : G C.M A (eval (.BinOp a op b p) env) Q s := by
  unfold stepE at e
  dsimp only at e
  unfold eBinOp at e
  try dsimp only at e
  split at e
  · rename_i x σ1 e1
    split at e
    · rename_i y σ2 e2
      split at e
      · rename_i z ez
        (revert h; apply q2 e; intro h)
        refine g_BinOp (hE e1 rm R F fun ρ1 s1 xv R1 x1 h1 => hE e2 rm R1 (F.extE x1) fun ρ2 s2 yv R2 x2 h2 => G.of ?_)
        exact bin_sound O ez (x2.v h1) h2 fun val t hv => h ρ2 _ _ R2 ((x1.trans x2).trans (Ext.tok t)) hv
      · cases e
    · cases e
  · cases e
theorem E_IfExp (hE : SE C d r.E) (hT : ST C d r.T) (rm : Room A d) {t a b : Expr} {p : Pos} (e : stepE C.B C.T r (.IfExp t a b p) ns l σ = some (v, σ')) (R : Rel C ρ σ s.heap) (F : FrameOk C env ns ρ l s.heap)
    (h : ∀ ρ' s' val, Rel C ρ' σ' s'.heap → Ext NoX ρ s ρ' s' → VRel C ρ' v val → Q val s') : G C.M A (eval (.IfExp t a b p) env) Q s := by
  unfold stepE at e
  dsimp only at e
  unfold eIfExp at e
  try dsimp only at e
  split at e
  · rename_i σ1 e1
    refine g_IfExp (hT e1 rm R F fun ρ1 s1 R1 x1 => ?_)
    rw [if_pos rfl]
    exact hE e rm R1 (F.extE x1) fun ρ2 s2 val R2 x2 h2 => h _ _ _ R2 (x1.trans x2) h2
  · rename_i σ1 e1
    refine g_IfExp (hT e1 rm R F fun ρ1 s1 R1 x1 => ?_)
    rw [if_neg (by decide)]
    exact hE e rm R1 (F.extE x1) fun ρ2 s2 val R2 x2 h2 => h _ _ _ R2 (x1.trans x2) h2
  · exact qN e
theorem E_List (hE : SE C d r.E) (O : Ok C) (rm : Room A d) {es : List Expr} {p : Pos} (e : stepE C.B C.T r (.List es p) ns l σ = some (v, σ')) (R : Rel C ρ σ s.heap) (F : FrameOk C env ns ρ l s.heap)
    (h : ∀ ρ' s' val, Rel C ρ' σ' s'.heap → Ext NoX ρ s ρ' s' → VRel C ρ' v val → Q val s') : G C.M A (eval (.List es p) env) Q s := by
  unfold stepE at e
  dsimp only at e
  unfold eList at e
  try dsimp only at e
  split at e
  · rename_i vs σ1 e1
    have qq := qIf e
    · have hl := qq.1; have e := qq.2; clear qq
      rw [alloc_eq] at e
      (revert h; apply q2 e; intro h)
      rw [arm_eval_List]
      refine G.bind (G.standAt (G.bind (evL_sound hE rm e1 R F fun ρ1 s1 vals R1 x1 h1 => G.of (wpAny_newList ?_ (by rw [← h1.length]; exact fits_of hl)))))
      exact h _ _ _ (push_rel O R1 (x := .list vs) ⟨vals.toArray, ⟨_, Heap.get?_push_size _ rfl⟩, by simpa using h1.app⟩) (x1.trans push_ext) (push_own R1 _)

  · cases e
theorem E_Tuple (hE : SE C d r.E) (O : Ok C) (rm : Room A d) {es : List Expr} {k : Nat} {p : Pos} (e : stepE C.B C.T r (.Tuple es k p) ns l σ = some (v, σ')) (R : Rel C ρ σ s.heap) (F : FrameOk C env ns ρ l s.heap)
    (h : ∀ ρ' s' val, Rel C ρ' σ' s'.heap → Ext NoX ρ s ρ' s' → VRel C ρ' v val → Q val s') : G C.M A (eval (.Tuple es k p) env) Q s := by
  unfold stepE at e
  dsimp only at e
  unfold eTuple at e
  try dsimp only at e
  cases es with
  | nil => exact qN e
  | cons e0 es =>
    dsimp only at e
    split at e
    · rename_i vs σ1 e1
      have qq := qIf e
      · have hl := qq.1; have e := qq.2; clear qq
        rw [alloc_eq] at e
        (revert h; apply q2 e; intro h)
        rw [arm_eval_Tuple]
        refine G.bind (G.standAt (G.bind (evL_sound hE rm e1 R F fun ρ1 s1 vals R1 x1 h1 => G.of (wpAny_newTuple ?_ (by rw [← h1.length]; exact fits_of hl)))))
        have hne : vs ≠ [] := by
          rintro rfl
          unfold evL at e1
          have qq := qIfN e1; replace e1 := qq.2; clear qq

          · split at e1
            · exact qN e1
            · split at e1 <;> cases e1
        exact h _ _ _ (push_rel O R1 (x := .tup vs) ⟨vals, ⟨_, Heap.get?_push_size _ rfl⟩, h1.app, hne⟩) (x1.trans push_ext) (push_own R1 _)

    · cases e
theorem E_Compare (hE : SE C d r.E) (O : Ok C) (rm : Room A d) {a : Expr} {ops : List CmpOp} {rs : List Expr} {p : Pos} (e : stepE C.B C.T r (.Compare a ops rs p) ns l σ = some (v, σ')) (R : Rel C ρ σ s.heap) (F : FrameOk C env ns ρ l s.heap)
    (h : ∀ ρ' s' val, Rel C ρ' σ' s'.heap → Ext NoX ρ s ρ' s' → VRel C ρ' v val → Q val s') : G C.M A (eval (.Compare a ops rs p) env) Q s := by
  unfold stepE at e
  dsimp only at e
  unfold eCompare at e
  try dsimp only at e
  split at e
  · cases e
  · rename_i hn
    split at e
    · rename_i x σ1 e1
      split at e
      · rename_i b σ2 e2
        (revert h; apply q2 e; intro h)
        rw [arm_eval_Compare]
        exact G.bind (hE e1 rm R F fun ρ1 s1 xv R1 x1 h1 => chain_sound hE O rm e2 hn h1 R1 (F.extE x1) fun ρ2 s2 R2 x2 => h _ _ _ R2 (x1.trans x2) (.bool _))
      · cases e
    · cases e
theorem E_Attribute (S : Stat C) (hE : SE C d r.E) (hK : SCode C d r.C) (rm : Room A (d + 1)) {o : Expr} {name : Str} {p : Pos} (e : stepE C.B C.T r (.Attribute o name p) ns l σ = some (v, σ')) (R : Rel C ρ σ s.heap) (F : FrameOk C env ns ρ l s.heap)
    (h : ∀ ρ' s' val, Rel C ρ' σ' s'.heap → Ext NoX ρ s ρ' s' → VRel C ρ' v val → Q val s') : G C.M A (eval (.Attribute o name p) env) Q s := by
  unfold stepE at e
  dsimp only at e
  unfold eAttribute at e
  try dsimp only at e
  split at e
  · cases e
  · rename_i hb
    split at e
    · rename_i i σ1 e1
      refine g_Attribute hb (hE e1 rm.low R F fun ρ1 s1 ov R1 x1 h1 => ?_)
      ((refine x1a2 (vown h1) (fun a qr1 ea => ?_)); subst qr1)
      split at e
      · rename_i f ef
        unfold propOf at ef
        split at ef
        · rename_i c dd e2
          split at ef
          · rename_i k ek
            split at ef
            · rename_i f' kv ep e3
              cases ef
              ((refine x3a4 (inst_parts R1 e2 e3 ea) (fun da es n _ hf hd I => ?_)))
              have K := S.cls _ _ ek
              ((refine x2a4 (K.prop _ _ ep) (fun p' rest p1 p2 p3 p4 => ?_)))
              have hfo : findObj C.K c (some { cls := .type "dict", data := .dict es n }) name = some (.bind (.builtin "property.__get__") (.ref p')) := by
                refine findObj_data ?_ p1 p2 p3
                ((refine x1a2 (any_some K.dict) (fun cd hc _ => ?_)))
                rw [hc]; rfl
              split at e
              · cases e
              · rename_i hnb
                refine g_get_prop (S.kinAt R1) I (plain_of K).1 hfo (plain_of K).2 p4 ?_
                refine CG.mono (hK (σ := σ1) (s := { s1 with toks := s1.toks + 1 }) e rm.in1 R1 (.cons (.own ea) .nil) fun ρ2 s2 val R2 x2 h2 => (show handedIn val = true ∧ Q val s2 from ?_)) fun f s' q => ?_
                · refine ⟨?_, h _ _ _ R2 ((x1.trans (Ext.tok _)).trans x2) h2⟩
                  cases h2 with
                  | blt id => exact absurd e (hnb _ _)
                  | _ => rfl
                · ((refine x1a3 (q) (fun v qr2 q1 q2 => ?_)); subst qr2)
                  exact ⟨v, rfl, q1, q2⟩
            · cases ef
          · cases ef
        · cases ef
      · split at e
        · rename_i v' ev
          (revert h; apply q2 e; intro h)
          exact G.of (field_sound S R1 ev ea fun val t hv => h ρ1 _ _ R1 (x1.trans (Ext.tok t)) hv)
        · cases e
    · cases e
end
end Mine
-- M41
namespace Mine
open PySem PySem.W PySem.Calls PyProof.Rows PyProof PyProof.V PySem.SeqAt
section
variable {C : Cx} {A : Around} {s : Shared} {ρ : List Addr} {σ σ' : AS} {env : Env} {ns : List (Str × NameKind)} {l : Loc} {d : Nat} {r : Run} {v : AV} {Q : Value → Shared → Prop}
theorem notSlice {e : Expr} (h : isSlice e = false) : ∀ lo hi st p, e ≠ .Slice lo hi st p := fun lo hi st p q => by subst q; cases h
theorem slice_ext {X : Addr → Prop} {o : Obj} {ρ1 : List Addr} {s1 : Shared} (x : Ext X ρ s ρ1 s1) {t : Nat} : Ext X ρ s ρ1 { s1 with heap := s1.heap.push o, toks := t } := x.trans (Ext.kept (push_keeps _ _))
theorem E_Subscript (hE : SE C d r.E) (O : Ok C) (rm : Room A d) {o i : Expr} {p : Pos} (e : stepE C.B C.T r (.Subscript o i p) ns l σ = some (v, σ')) (R : Rel C ρ σ s.heap) (F : FrameOk C env ns ρ l s.heap)
    (h : ∀ ρ' s' val, Rel C ρ' σ' s'.heap → Ext NoX ρ s ρ' s' → VRel C ρ' v val → Q val s') : G C.M A (eval (.Subscript o i p) env) Q s := by
  unfold stepE at e
  dsimp only at e
  unfold eSubscript at e
  try dsimp only at e
  split at e
  · rename_i ov σ1 e1
    refine g_Subscript (hE e1 rm R F fun ρ1 s1 oval R1 x1 h1 => ?_)
    split at e
    · rename_i lo hi st sp
      split at e
      · rename_i n
        ((refine x2a2 (vbytes h1) (fun b t qr1 hb => ?_)); subst qr1)
        have fin : ∀ {ρ2 : List Addr} {s2 : Shared} {lo' hi' : Option AV} {lv hv : Value} {σ2 : AS} {v2 : AV}, cut C.T n lo' hi' = some v2 → v2 = v → σ2 = σ' → Rel C ρ2 σ2 s2.heap → Ext NoX ρ s ρ2 s2 → PartRel C ρ2 lo' lv → PartRel C ρ2 hi' hv →
            G C.M A (subscriptTail o (.Slice lo hi none sp) (.bytes b t) (.ref s2.heap.objs.size)) Q { s2 with heap := s2.heap.push { cls := .type "slice", data := .fields #[lv, hv, .none] } } := by
          intro ρ2 s2 lo' hi' lv hv σ2 v2 ec ev es R2 x2 pl ph
          subst ev es
          refine G.of (cut_sound O ec hb pl ph (Heap.IsSliceOf.new ..) fun val k hval => h ρ2 _ _ (R2.keeps (push_keeps _ _)) (slice_ext x2) hval)
        split at e
        · split at e
          · rename_i hx
            split at e
            · rename_i hv σ2 e2
              split at e
              · rename_i v2 e3
                cases e
                refine g_Slice (g_part (g_part (hE e2 rm R1 (F.extE x1) fun ρ2 s2 hval R2 x2 h2 => ?_)))
                exact fin e3 rfl rfl R2 (x1.trans x2) (lo' := none) rfl (hi' := some hv) h2
              · cases e
            · cases e
          · cases e
        · rename_i ax
          split at e
          · rename_i av σ2 e2
            split at e
            · split at e
              · rename_i v2 e3
                cases e
                refine g_Slice (g_part (hE e2 rm R1 (F.extE x1) fun ρ2 s2 aval R2 x2 h2 => g_part ?_))
                exact fin e3 rfl rfl R2 (x1.trans x2) (lo' := some av) h2 (hi' := none) rfl
              · cases e
            · rename_i hx
              split at e
              · rename_i hv σ3 e4
                split at e
                · rename_i v2 e3
                  cases e
                  refine g_Slice (g_part (hE e2 rm R1 (F.extE x1) fun ρ2 s2 aval R2 x2 h2 => g_part (hE e4 rm R2 (F.extE (x1.trans x2)) fun ρ3 s3 hval R3 x3 h3 => ?_)))
                  exact fin e3 rfl rfl R3 ((x1.trans x2).trans x3) (lo' := some av) (x3.v h2) (hi' := some hv) h3
                · cases e
              · cases e
          · cases e
      · cases e
    · split at e
      · rename_i iv σ2 e2
        split at e
        · rename_i v2 e3
          (revert h; apply q2 e; intro h)
          refine hE e2 rm R1 (F.extE x1) fun ρ2 s2 ival R2 x2 h2 => G.of ?_
          exact item_sound O R2 rm.units e3 (x2.v h1) h2 fun val t hv => h ρ2 _ _ R2 ((x1.trans x2).trans (Ext.tok t)) hv
        · cases e
      · cases e
  · cases e
end
end Mine
-- M42
namespace Mine
open PySem PySem.W PySem.Calls PyProof.Rows PyProof PyProof.V PySem.SeqAt
section
variable {C : Cx} {A : Around} {s : Shared} {ρ : List Addr} {σ σ' : AS} {env : Env} {ns : List (Str × NameKind)} {l : Loc} {d : Nat} {r : Run} {v : AV} {Q : Value → Shared → Prop}
theorem seq_name {name : Str} {t : Str} (h : seq name t = true) : name = t := (seq_iff _ _).mp h
theorem exact_parts {h : Heap} {a : Addr} {kvs : List (Int × Value)} (g : h.DictOf (intKind C.prog C.w) a kvs) : ∃ ob, h.get? a = some ob ∧ ob.cls = .type "dict" ∧ ob.dict = none := by
  ((refine x3a3 (g) (fun o es ep g qt1 _ => ?_)); (refine x0a3 (qt1) (fun h1 h2 h3 => ?_)))
  exact ⟨o, g, h1, h2⟩
theorem methId_sound (R : Rel C ρ σ s.heap) {i : Nat} {a : Addr} {name : Str} {id : String} {pl : Sem Bool} {Q : Value × List Value → Shared → Prop} (e : methId σ (.own i) name = some id) (ea : at? ρ i = some a) (h : Q (.builtin id, [.ref a]) s) : wpAny C.M A (getMethod (.ref a) name pl) Q NoE s := by
  have one : ∀ {T : String} {ob : Obj}, PlainAttrs T → Slot T name id → typeOf (.builtin id) = pure (.type "method_descriptor") → s.heap.get? a = some ob → ob.cls = .type T → ob.dict = none → wpAny C.M A (getMethod (.ref a) name pl) Q NoE s := fun pa sl ty g hc hd =>
    getMethod_builtin ⟨_, g, hc⟩ pa sl ty (fun b q => by cases q; exact ⟨_, g, hd⟩) h
  unfold methId at e
  dsimp only at e
  split at e
  · rename_i xs ex
    ((refine x1a2 (R.objs _ _ _ ex ea) (fun vs qt2 f => ?_)); (refine x1a1 (qt2) (fun n g => ?_)))
    split at e
    · rename_i hs
      cases e
      have := seq_name hs
      subst this
      exact one PySem.F.plainAttrs_list PySem.F.slot_list_append PySem.F.type_list_append g rfl rfl
    · have qq := qIf e
      · have hs := qq.1; have e := qq.2; clear qq
        cases e
        have := seq_name hs
        subst this
        exact one PySem.F.plainAttrs_list PySem.F.slot_list_remove PySem.F.type_list_remove g rfl rfl

  · rename_i kv ex
    ((refine x1a2 (R.objs _ _ _ ex ea) (fun kvs g f => ?_)))
    ((refine x1a3 (exact_parts g) (fun ob g1 g2 g3 => ?_)))
    split at e
    · rename_i hs
      cases e
      have := seq_name hs
      subst this
      exact one PySem.F.plainAttrs_dict PySem.F.slot_dict_pop PySem.F.type_dict_pop g1 g2 g3
    · have qq := qIf e
      · have hs := qq.1; have e := qq.2; clear qq
        cases e
        have := seq_name hs
        subst this
        exact one PySem.F.plainAttrs_dict PySem.F.slot_dict_get PySem.F.type_dict_get g1 g2 g3

  · rename_i kv ex
    ((refine x1a2 (R.objs _ _ _ ex ea) (fun xs qt3 f => ?_)); (refine x2a2 (qt3) (fun es ep g _ => ?_)))
    split at e
    · rename_i hs
      cases e
      have := seq_name hs
      subst this
      exact one PySem.F.plainAttrs_dict PySem.F.slot_dict_pop PySem.F.type_dict_pop g rfl rfl
    · have qq := qIf e
      · have hs := qq.1; have e := qq.2; clear qq
        cases e
        have := seq_name hs
        subst this
        exact one PySem.F.plainAttrs_dict PySem.F.slot_dict_get PySem.F.type_dict_get g rfl rfl

  · rename_i kv ex
    ((refine x1a2 (R.objs _ _ _ ex ea) (fun xs qt4 f => ?_)); (refine x2a2 (qt4) (fun es ep g _ => ?_)))
    have qq := qIf e
    · have hs := qq.1; have e := qq.2; clear qq
      cases e
      have := seq_name hs
      subst this
      exact one PySem.F.plainAttrs_dict PySem.F.slot_dict_get PySem.F.type_dict_get g rfl rfl

  · exact qN e
theorem methOf_keep (S : Stat C) {i : Nat} {name : Str} {fa : Nat} (e : methOf C.B σ i name = some fa) : keepIn C.K (.ref fa) = true := by
  unfold methOf at e
  split at e
  · split at e
    · rename_i k ek
      split at e
      · rename_i em _
        split at e
        · cases e
        · cases e; exact ((S.cls _ _ ek).meth _ _ em).2.2
      · cases e
    · exact qN e
  · cases e
theorem g_methodCall {o : Expr} {name : Str} {args : List Expr} {ks : List Keyword} {apos pos : Pos} {Q : Value → Shared → Prop} (hb : baseOk o = true) (hk : ks = []) (hn : args.length < 29) (hl : lineOk apos pos = true) (hno : (backTo pos (starEach args env)).any (·.1) = false)
    (h : G C.M A (eval o env) (fun ov s₁ => G C.M A (getMethod ov name (do return (← importBound o env).getD true)) (fun p s₂ => G C.M A (callWith pos p.1 p.2 (backTo pos (starEach args env)) []) Q s₂) s₁) s) :
    G C.M A (eval (.Call (.Attribute o name apos) args ks pos) env) Q s := by
  subst hk
  rw [arm_eval_Call, base_eq hb]
  refine G.bind (G.mono h fun ov s1 h1 => G.bind (G.standAt ?_))
  have hform : methodCallForm (args.length + ([] : List Keyword).length) (backTo pos (starEach args env)) (backToKw pos (keywordEach [] env)) = true := by
    show ((backTo pos (starEach args env)).all (fun x => !x.1) && (backToKw pos (keywordEach [] env)).all (fun x => x.1.isSome) && decide (args.length + 0 + 0 < 30)) = true
    have a1 : (backTo pos (starEach args env)).all (fun x => !x.1) = true := by
      rw [List.all_eq_not_any_not]
      simp only [Bool.not_not]
      rw [hno]; rfl
    rw [a1, decide_eq_true (by omega)]; rfl
  have hpos : methodCallPos true o env apos pos = pure pos := by
    unfold methodCallPos
    have : (apos.endLine == pos.line) = true := by
      have : Nat.beq apos.endLine pos.line = true := hl
      exact beq_iff_eq.mpr (Nat.eq_of_beq_eq_true this)
    simp [this]
  unfold methodCall
  rw [hform]
  refine G.bind (G.holding (G.mono h1 fun p s2 h2 => ?_))
  exact G.bind (G.eq hpos h2)
theorem okArgs_parts {args : List Expr} {ks : List Keyword} (h : okArgs args ks = true) : args.length < 29 ∧ ks = [] := by
  unfold okArgs at h
  have qp := Bool.and_eq_true_iff.mp h; have h1 := qp.1; have h2 := qp.2; clear qp
  refine ⟨Nat.le_of_ble_eq_true h1, ?_⟩
  cases ks with
  | nil => rfl
  | cons => cases h2
theorem E_CallA (S : Stat C) (hE : SE C d r.E) (hC : SC C d r.C) (O : Ok C) (rm : Room A d) {o : Expr} {name : Str} {apos p : Pos} {args : List Expr} {ks : List Keyword} (e : stepE C.B C.T r (.Call (.Attribute o name apos) args ks p) ns l σ = some (v, σ')) (R : Rel C ρ σ s.heap) (F : FrameOk C env ns ρ l s.heap)
    (h : ∀ ρ' s' val, Rel C ρ' σ' s'.heap → Ext NoX ρ s ρ' s' → VRel C ρ' v val → Q val s') : G C.M A (eval (.Call (.Attribute o name apos) args ks p) env) Q s := by
  unfold stepE at e
  dsimp only at e
  unfold eCall at e
  try dsimp only at e
  split at e
  · cases e
  · rename_i ho
    have qp := okArgs_parts ho; have ho1 := qp.1; have ho2 := qp.2; clear qp
    split at e
    · cases e
    · rename_i hlb
      have qp := Bool.and_eq_true_iff.mp hlb; have hl := qp.1; have hb := qp.2; clear qp
      split at e
      · rename_i i σ1 e1
        split at e
        · rename_i fa ef
          split at e
          · rename_i vs σ2 e2
            refine g_methodCall hb ho2 ho1 hl (noStar e2) (hE e1 rm R F fun ρ1 s1 ov R1 x1 h1 => ?_)
            ((refine x1a2 (vown h1) (fun a qr5 ea => ?_)); subst qr5)
            refine G.of (meth_sound S R1 ef ea ?_)
            refine g_callWith (noStar e2) (evL_sound hE rm e2 R1 (F.extE x1) fun ρ2 s2 vals R2 x2 h2 => ⟨?_, ?_⟩)
            · exact looks_keep (methOf_keep S ef) (S.kinAt R2)
            · exact hC (fval := .ref fa) e rm R2 (.glob _) (.cons (.own (x2.at ea)) h2) fun ρ3 s3 val R3 x3 h3 => h _ _ _ R3 ((x1.trans x2).trans x3) h3
          · cases e
        · split at e
          · rename_i id ei
            split at e
            · rename_i vs σ2 e2
              refine g_methodCall hb ho2 ho1 hl (noStar e2) (hE e1 rm R F fun ρ1 s1 ov R1 x1 h1 => ?_)
              ((refine x1a2 (vown h1) (fun a qr6 ea => ?_)); subst qr6)
              refine G.of (methId_sound R1 ei ea ?_)
              refine g_callWith (noStar e2) (evL_sound hE rm e2 R1 (F.extE x1) fun ρ2 s2 vals R2 x2 h2 => ⟨⟨.machine, .inr rfl, .now⟩, G.of ?_⟩)
              exact methCall_sound O R2 rm.units e (x2.at ea) h2 fun s3 val R3 x3 h3 => h _ _ _ R3 ((x1.trans x2).trans x3) h3
            · cases e
          · cases e
      · cases e
theorem E_Call (S : Stat C) (hE : SE C d r.E) (hC : SC C d r.C) (rm : Room A d) {f : Expr} {p : Pos} {args : List Expr} {ks : List Keyword} (hf : ∀ o n q, f ≠ .Attribute o n q) (e : stepE C.B C.T r (.Call f args ks p) ns l σ = some (v, σ')) (R : Rel C ρ σ s.heap) (F : FrameOk C env ns ρ l s.heap)
    (h : ∀ ρ' s' val, Rel C ρ' σ' s'.heap → Ext NoX ρ s ρ' s' → VRel C ρ' v val → Q val s') : G C.M A (eval (.Call f args ks p) env) Q s := by
  unfold stepE at e
  dsimp only at e
  unfold eCall at e
  try dsimp only at e
  split at e
  · cases e
  · rename_i ho
    ((refine x0a2 (okArgs_parts ho) (fun ho1 qr7 => ?_)); subst qr7)
    split at e
    · exact absurd rfl (hf _ _ _)
    · split at e
      · rename_i fv σ1 e1
        have qq := qIf e
        · have hfun := qq.1; have e := qq.2; clear qq
          split at e
          · rename_i vs σ2 e2
            have ev : eval (.Call f args [] p) env = (do callWith p (← eval f env) [] (backTo p (starEach args env)) (backToKw p (keywordEach [] env))) := by
              cases f <;> first | rfl | exact absurd rfl (hf _ _ _)
            rw [ev]
            refine G.bind (hE e1 rm R F fun ρ1 s1 fval R1 x1 h1 => ?_)
            refine g_callWith (noStar e2) (evL_sound hE rm e2 R1 (F.extE x1) fun ρ2 s2 vals R2 x2 h2 => ⟨keeper_of S R2 hfun (x2.v h1), ?_⟩)
            rw [List.nil_append]
            exact hC e rm R2 (x2.v h1) h2 fun ρ3 s3 val R3 x3 h3 => h _ _ _ R3 ((x1.trans x2).trans x3) h3
          · cases e

      · cases e
end
end Mine
-- M43
namespace Mine
open PySem PySem.W PySem.Calls PyProof.Rows PyProof PyProof.V PySem.SeqAt
section
variable {C : Cx} {A : Around} {s : Shared} {ρ : List Addr} {σ σ' : AS} {env : Env} {ns : List (Str × NameKind)} {l : Loc} {d : Nat} {r : Run} {v : AV} {Q : Value → Shared → Prop}
theorem Rel.adopt {h : Heap} (R : Rel C ρ σ h) {a : Addr} {o : AO} (hna : a ∉ ρ) (hl : C.h₁.objs.size ≤ a) (ho : ORel C (ρ ++ [a]) (σ ++ [o]) o a h) : Rel C (ρ ++ [a]) (σ ++ [o]) h := by
  refine ⟨by simp [R.len], ?_, fun x hx => ?_, R.base, fun i x b ei eb => ?_⟩
  · exact List.nodup_append.mpr ⟨R.nodup, by simp, fun x hx y hy e => by
      obtain rfl := List.mem_singleton.mp hy; exact hna (e ▸ hx)⟩
  · rcases List.mem_append.mp hx with q | q
    · exact R.new x q
    · obtain rfl := List.mem_singleton.mp q; exact hl
  · rw [at_push] at ei eb
    rw [R.len] at eb
    by_cases q : i = σ.length
    · rw [if_pos q] at ei eb; cases ei; cases eb; exact ho
    · rw [if_neg q] at ei eb
      exact (R.objs i x b ei eb).keep (TupsIn.push _ _) fun x hx => hx
theorem Ext.adopt {X : Addr → Prop} {ρ1 : List Addr} {s1 : Shared} (x : Ext X ρ s ρ1 s1) {a : Addr} (hn : s.heap.get? a = none) : Ext X ρ s (ρ1 ++ [a]) s1 := by
  ((refine x1a1 (x.pre) (fun r hr => ?_)))
  refine ⟨⟨r ++ [a], by rw [hr, List.append_assoc]⟩, fun b hb => ?_, x.alive, x.keep, x.gens, x.drawn, x.os⟩
  rcases List.mem_append.mp hb with q | q
  · exact x.new b q
  · obtain rfl := List.mem_singleton.mp q; exact .inr (.inl hn)
theorem own_last (R : Rel C ρ σ s.heap) (a : Addr) : VRel C (ρ ++ [a]) (.own σ.length) (.ref a) := push_own R a

theorem evDict_sound {f : Expr → List (Str × NameKind) → Loc → AS → Option (AV × AS)} (hE : SE C d f) (rm : Room A d) {pos : Pos} : ∀ {ks : List (Option Expr)} {vs : List Expr} {ρ : List Addr} {σ σ' : AS} {s : Shared} {kv : List (List Str × Nat × AV)} {Q : List (Value × Value) → Shared → Prop},
    evDict (fun e σ => f e ns l σ) ks vs σ = some (kv, σ') → Rel C ρ σ s.heap → FrameOk C env ns ρ l s.heap →
    (∀ ρ' s' xs, Rel C ρ' σ' s'.heap → Ext NoX ρ s ρ' s' → KRel C ρ' (skey σ') kv xs → Q (xs.map fun x => (.ref x.2.1, x.2.2)) s') → G C.M A (evalPairs (pairTrees ks vs env pos)) Q s
  | [], [], ρ, σ, σ', s, kv, Q, e, R, F, h => by
    (revert h; apply q2 e; intro h)
    exact G.pure (h ρ s [] R Ext.refl .nil)
  | [], _ :: _, ρ, σ, σ', s, kv, Q, e, R, F, h => by cases e
  | none :: _, [], ρ, σ, σ', s, kv, Q, e, R, F, h => by cases e
  | none :: _, _ :: _, ρ, σ, σ', s, kv, Q, e, R, F, h => by cases e
  | some _ :: _, [], ρ, σ, σ', s, kv, Q, e, R, F, h => by cases e
  | some k :: ks, v :: vs, ρ, σ, σ', s, kv, Q, e, R, F, h => by
    unfold evDict at e
    split at e
    · rename_i i σ1 e1
      split at e
      · rename_i a σ2 e2
        split at e
        · rename_i r σ3 e3
          split at e
          · rename_i st es
            (revert h; apply q2 e; intro h)
            show G C.M A (eval k env >>= fun kv => holding [kv] (do let x ← eval v env; standAt pos; pure x) >>= fun vv => holding [kv, vv] (evalPairs (pairTrees ks vs env pos)) >>= fun r => pure ((kv, vv) :: r)) Q s
            refine G.bind (hE e1 rm R F fun ρ1 s1 kval R1 x1 h1 => ?_)
            ((refine x1a2 (vown h1) (fun ka qr1 eka => ?_)); subst qr1)
            refine G.bind (G.holding (G.bind (hE e2 rm R1 (F.extE x1) fun ρ2 s2 vval R2 x2 h2 => G.bind (G.standAt (G.pure ?_)))))
            refine G.bind (G.holding (evDict_sound hE rm e3 R2 (F.extE (x1.trans x2)) fun ρ3 s3 xs R3 x3 h3 => G.pure ?_))
            exact h ρ3 s3 ((st, ka, vval) :: xs) R3 ((x1.trans x2).trans x3) (.cons es (x3.at (x2.at eka)) (x3.v h2) h3)
          · cases e
        · cases e
      · cases e
    · cases e
theorem evDict_len {f : Expr → AS → Option (AV × AS)} : ∀ {ks : List (Option Expr)} {vs : List Expr} {σ σ' : AS} {kv : List (List Str × Nat × AV)}, evDict f ks vs σ = some (kv, σ') → ks.all (·.isSome) = true ∧ ks.length = vs.length ∧ kv.length = vs.length
  | [], [], _, _, _, e => by cases e; exact ⟨rfl, rfl, rfl⟩
  | [], _ :: _, _, _, _, e => by cases e
  | none :: _, [], _, _, _, e => by cases e
  | none :: _, _ :: _, _, _, _, e => by cases e
  | some _ :: _, [], _, _, _, e => by cases e
  | some k :: ks, v :: vs, σ, σ', kv, e => by
    unfold evDict at e
    split at e
    · split at e
      · split at e
        · rename_i e3
          split at e
          · cases e
            have qp := evDict_len e3; have a := qp.1; have b := qp.2.1; have c := qp.2.2; clear qp
            exact ⟨by simpa using a, by simp [b], by simp [c]⟩
          · cases e
        · cases e
      · exact qN e
    · cases e
theorem dupS_nodup : ∀ {kv : List (List Str × Nat × AV)}, dupS kv = false → (kv.map (·.1)).Nodup
  | [], _ => List.nodup_nil
  | p :: r, h => by
    unfold dupS at h
    split at h
    · cases h
    · rename_i hl
      rw [List.map_cons, List.nodup_cons]
      refine ⟨fun hm => ?_, dupS_nodup h⟩
      ((refine x1a2 (List.mem_map.mp hm) (fun q hq e => ?_)))
      have : ∀ {r : List (List Str × Nat × AV)}, q ∈ r → Mine.look sEq r p.1 = none → False := by
        intro r
        induction r with
        | nil => intro h; cases h
        | cons x r ih =>
          intro hq hl
          have hl : (match sEq x.1 p.1 with | true => some x.2 | false => Mine.look sEq r p.1) = none := hl
          rcases List.mem_cons.mp hq with rfl | hq
          · rw [(sEq_iff _ _).mpr e] at hl; cases hl
          · cases z : sEq x.1 p.1 with
            | true => rw [z] at hl; cases hl
            | false => rw [z] at hl; exact ih hq hl
      exact this hq hl
theorem KRel.keysEq {κ : Type} {key : Nat → Option κ} {l : List (κ × Nat × AV)} {xs : List (κ × Addr × Value)} (r : KRel C ρ key l xs) : xs.map (·.1) = l.map (·.1) := by
  induction r with
  | nil => rfl
  | cons _ _ _ _ ih => simp [ih]
theorem storeAll_sound (hu : A.units + 70 < cLine) {D : Addr} : ∀ (rest done : List (List Str × Addr × Value)) {s : Shared} {Q : PUnit → Shared → Prop}, s.heap.DictOfH (sKnd C.prog C.w) D done → (∀ x ∈ rest, (sKnd C.prog C.w).is s.heap x.1 x.2.1) → ((done ++ rest).map (·.1)).Nodup → done.length + rest.length < 4096 →
    (∀ h' t, h'.DictOfH (sKnd C.prog C.w) D (done ++ rest) → Heap.SameBut D s.heap h' → Q ⟨⟩ { s with heap := h', toks := t }) →
    wpAny C.M A (storeAll D (rest.map fun x => (.ref x.2.1, x.2.2))) Q NoE s
  | [], done, s, Q, hD, hk, hn, hl, h => by
    unfold storeAll
    rw [List.map_nil, List.forIn_nil]
    exact wpAny_pure (by have := h s.heap s.toks (by simpa using hD) (.refl ..); exact this)
  | x :: rest, done, s, Q, hD, hk, hn, hl, h => by
    obtain ⟨k, a, v⟩ := x
    unfold storeAll
    rw [List.map_cons, List.forIn_cons]
    have hnew : atKey done k = none := by
      unfold atKey
      have : done.find? (fun x => decide (x.1 = k)) = none := by
        rw [List.find?_eq_none]
        intro y hy
        simp only [decide_eq_true_eq]
        intro e
        rw [List.map_append] at hn
        exact (List.nodup_append.mp hn).2.2 y.1 (List.mem_map.mpr ⟨y, hy, rfl⟩) k (List.mem_map.mpr ⟨(k, a, v), List.mem_cons_self, rfl⟩) e
      first | rw [this]; rfl | simp [this]
    refine wpAny_bind (wpAny_bind (wpAny_dictSet_heap (knd := sKnd C.prog C.w) (show A.units < cLine by omega) (hk _ List.mem_cons_self) hD (fun h' hm' hs => wpAny_pure ?_) (by rw [sizeLine_eq]; omega)))
    rw [storedH_new hnew] at hm'
    ((refine x3a4 (hD) (fun o es ep g hX hd _ => ?_)))
    have := storeAll_sound hu rest (done ++ [(k, a, v)]) (s := { s with heap := h', toks := s.toks + (sKnd C.prog C.w).draws k }) (Q := Q) hm' (fun y hy => (sKnd C.prog C.w).keeps (hk y (List.mem_cons_of_mem _ hy)) g hd hs) (by simpa using hn) (by simp only [List.length_append, List.length_cons, List.length_nil] at hl ⊢; omega)
      fun h'' t hm'' hs'' => h h'' t (by simpa using hm'') (hs.trans hs'')
    exact this
theorem E_Dict (hE : SE C d r.E) (O : Ok C) (rm : Room A d) {ks : List (Option Expr)} {vs : List Expr} {p : Pos} (e : stepE C.B C.T r (.Dict ks vs p) ns l σ = some (v, σ')) (R : Rel C ρ σ s.heap) (F : FrameOk C env ns ρ l s.heap)
    (h : ∀ ρ' s' val, Rel C ρ' σ' s'.heap → Ext NoX ρ s ρ' s' → VRel C ρ' v val → Q val s') : G C.M A (eval (.Dict ks vs p) env) Q s := by
  have empty : ks = [] → vs = [] → G C.M A (eval (.Dict ks vs p) env) Q s := by
    rintro rfl rfl
    have e : some (alloc σ (.idict [])) = some (v, σ') := e
    rw [alloc_eq] at e
    (revert h; apply q2 e; intro h)
    refine G.of (wpAny_Dict_empty (h _ _ _ (push_rel O R (x := .idict []) ⟨[], ⟨_, #[], 0, Heap.get?_push_size _ rfl, ⟨rfl, rfl, rfl⟩, rfl, ?_, .nil, List.nodup_nil⟩, .nil⟩) push_ext (push_own R _)))
    intro e he
    simp at he
  by_cases h0 : ks = [] ∧ vs = []
  · exact empty h0.1 h0.2
  have e : (match Nat.blt vs.length 15 with
      | true => (match evDict (fun e σ => r.E e ns l σ) ks vs σ with
        | some (kv, σ1) => (match dupS kv with
          | true => none
          | false => some (alloc σ1 (.sdict kv)))
        | none => none)
      | false => none) = some (v, σ') := by
    unfold stepE at e
    dsimp only at e
    unfold eDict at e
    try dsimp only at e
    split at e
    · exact absurd ⟨rfl, rfl⟩ h0
    · exact e
  have qq := qIf e
  · have hlen := qq.1; have e := qq.2; clear qq
    split at e
    · rename_i kv σ1 e1
      have qq := qIfN e

      · have hdup := qq.1; have e := qq.2; clear qq
        rw [alloc_eq] at e
        (revert h; apply q2 e; intro h)
        have qp := evDict_len e1; have l1 := qp.1; have l2 := qp.2.1; have l3 := qp.2.2; clear qp
        have hlen : vs.length < 15 := Nat.le_of_ble_eq_true hlen
        have hn := pairTrees_length ks vs env p l1 l2
        have hk0 : ks ≠ [] := fun q => h0 ⟨q, by rw [q] at l2; exact List.length_eq_zero_iff.mp l2.symm⟩
        have hp0 : pairTrees ks vs env p ≠ [] := by
          intro he
          rw [he] at hn
          exact hk0 (List.length_eq_zero_iff.mp hn.symm)
        rw [arm_eval_Dict, zip_pairTrees ks vs env p l1 l2, dictDisplay_pairs _ hp0 (by rw [hn]; omega)]
        refine G.bind (G.standAt (G.bind ?_))
        unfold subDict
        refine G.bind (G.of (wpAny_alloc ?_))
        refine G.bind (G.holding ?_)
        rw [if_pos (by rw [hn]; omega)]
        have k0 := push_keeps s.heap { cls := .type "dict", data := .dict #[] }
        have R0 : Rel C ρ σ (s.heap.push { cls := .type "dict", data := .dict #[] }) := R.keeps k0
        have x0 : Ext NoX ρ s ρ { s with heap := s.heap.push { cls := .type "dict", data := .dict #[] } } := Ext.kept (t := s.toks) k0
        have hDn : s.heap.get? s.heap.objs.size = none := none_at _
        have hD0 : (s.heap.push { cls := .type "dict", data := .dict #[] }).get? s.heap.objs.size = some { cls := .type "dict", data := .dict #[] } := Heap.get?_push_size _ rfl
        have hDρ : s.heap.objs.size ∉ ρ := fun hm => absurd (R.lt hm) (Nat.lt_irrefl _)
        refine G.bind (evDict_sound hE rm e1 R0 (F.extE x0) fun ρ1 s1 xs R1 x1 h1 => G.holding ?_)
        have hD1 : s1.heap.get? s.heap.objs.size = some { cls := .type "dict", data := .dict #[] } := x1.keep _ _ hD0 hDρ fun q => q
        have hD1ρ : s.heap.objs.size ∉ ρ1 := notin_of_ext x1 hDρ hD0 fun q => q
        have hxl : xs.length = kv.length := h1.length
        refine G.bind (G.of ?_)
        change wpAny C.M A (storeAll s.heap.objs.size (xs.map fun x => (.ref x.2.1, x.2.2))) _ NoE s1
        refine storeAll_sound rm.units xs [] ?_ (fun x hx => ?_) ?_ ?_ fun h2 t2 hm hs => ?_
        · exact ⟨_, #[], 0, hD1, ⟨rfl, rfl, rfl⟩, rfl, rfl, fun x hx => (nomatch hx), List.nodup_nil⟩
        · ((refine x1a2 (h1.keys x hx) (fun i a1 a2 => ?_)))
          exact skey_is R1 a1 a2
        · rw [List.nil_append, h1.keysEq]; exact dupS_nodup hdup
        · simp only [List.length_nil]; omega
        · refine G.pure (G.pure (G.pure ?_))
          have R2 : Rel C ρ1 σ1 h2 := R1.heap (fun a x ha e => (hs.2 a fun q => hD1ρ (q ▸ ha)).trans e) fun b o e => (hs.2 b fun q => by
              have := Heap.lt_size e
              rw [q] at this
              exact absurd (R.low O) (Nat.not_le.mpr this)).trans (R1.base b o e)
          have x2 : Ext (fun b => b = s.heap.objs.size) ρ1 s1 ρ1 { s1 with heap := h2, toks := t2 } :=
            ⟨⟨[], by simp⟩, fun a h => .inl h, fun b o e _ => by
              by_cases q : b = s.heap.objs.size
              · ((refine x3a2 (hm) (fun ob _ _ g _ => ?_))); exact ⟨ob, q ▸ g⟩
              · exact ⟨o, (hs.2 b q).trans e⟩, fun b o e _ h2 => (hs.2 b h2).trans e, rfl, rfl, rfl⟩
          have x3 : Ext NoX ρ s ρ1 { s1 with heap := h2, toks := t2 } := (((x0.trans x1).weaken fun b q => q.elim).trans x2).fresh fun b q => .inr (q ▸ hDn)
          have hm' : RawH C (sKnd C.prog C.w) h2 s.heap.objs.size xs := RawH.of (by simpa using hm)
          have R3 := R2.adopt (o := .sdict kv) hD1ρ (R.low O) ⟨xs, hm', h1.app fun i k => skey_mono (TupsIn.push _ _) i k⟩
          exact h _ _ _ R3 (x3.adopt hDn) (push_own (s := { s1 with heap := h2, toks := t2 }) R2 _)
    · cases e

end
end Mine
-- M44
namespace Mine
open PySem PySem.W PySem.Calls PyProof.Rows PyProof PyProof.V PySem.SeqAt
section
variable {C : Cx} {A : Around} {s : Shared} {ρ : List Addr} {σ σ' : AS} {env : Env} {ns : List (Str × NameKind)} {l : Loc}
theorem FrameOk.congr {h : Heap} {l1 l2 : Loc} (F : FrameOk C env ns ρ l1 h) (e : ∀ x, lk l2 x = lk l1 x) : FrameOk C env ns ρ l2 h := by
  refine ⟨F.kind, F.names, F.fine, F.gl, F.bl, ?_, fun x hx => ?_, F.apart, F.outL, F.outC, F.oldL, F.oldC⟩
  · ((refine x1a2 (F.loc) (fun m hm hl => ?_)))
    exact ⟨m, hm, fun x v hv k => hl x v (by rw [← e]; exact hv) k⟩
  · ((refine x2a3 (F.cell x hx) (fun c v₀ h1 h2 h3 => ?_)))
    exact ⟨c, v₀, h1, h2, fun v hv => h3 v (by rw [← e]; exact hv)⟩
noncomputable abbrev Sto := Str × AV × Value
noncomputable def putAll (l : Loc) (ps : List Sto) : Loc := ps.foldl (fun l p => putL l p.1 p.2.1) l
theorem lk_putAll : ∀ (ps : List Sto) (l : Loc) (y : Str), lk (putAll l ps) y = (lk (ps.map fun p => (p.1, p.2.1)).reverse y).or (lk l y)
  | [], l, y => by simp [putAll, lk_nil]
  | p :: r, l, y => by
    show lk (putAll (putL l p.1 p.2.1) r) y = _
    rw [lk_putAll r, lk_putL, List.map_cons, List.reverse_cons, lk_append, lk_cons, lk_nil]
    cases lk (r.map fun p => (p.1, p.2.1)).reverse y with
    | some v => rfl
    | none => by_cases q : y = p.1 <;> simp [q]
theorem storeAll_keep : ∀ (ps : List Sto) (fs : List (Value → Sem Unit)) {l : Loc} {s : Shared} {Q : Unit → Shared → Prop}, fs.length = ps.length →
    (∀ (i : Nat) (p : Sto) (f : Value → Sem Unit), ps[i]? = some p → fs[i]? = some f → ∀ (s : Shared) (Q : Unit → Shared → Prop), wpAny C.M A (storeName env p.1 p.2.2) Q NoE s → wpAny C.M A (f p.2.2) Q NoE s) →
    (∀ p ∈ ps, (lk ns p.1 = some .local ∨ lk ns p.1 = some .cell) ∧ VRel C ρ p.2.1 p.2.2) →
    Rel C ρ σ s.heap → FrameOk C env ns ρ l s.heap →
    (∀ s', Rel C ρ σ s'.heap → Ext (FX env ns) [] s [] s' → FrameOk C env ns ρ (putAll l ps) s'.heap → Q () s') → wpAny C.M A (assignInOrder fs (ps.map fun p => p.2.2)) Q NoE s
  | [], [], l, s, Q, _, _, _, R, F, h => wpAny_pure (h s R Ext.refl F)
  | [], _ :: _, l, s, Q, hl, _, _, R, F, h => by cases hl
  | _ :: _, [], l, s, Q, hl, _, _, R, F, h => by cases hl
  | p :: ps, f :: fs, l, s, Q, hl, hf, hp, R, F, h => by
    have qp := hp p List.mem_cons_self; have hk := qp.1; have hv := qp.2; clear qp
    have hset : setName ns p.1 p.2.1 l = some (putL l p.1 p.2.1) := by
      unfold setName
      rcases hk with k | k <;> rw [k] <;> rfl
    refine assignInOrder_cons (hf 0 p f rfl rfl _ _ (setName_keep R F hset hv fun s1 R1 x1 F1 => ?_))
    exact storeAll_keep ps fs (by simpa using hl) (fun i q g e1 e2 => hf (i + 1) q g e1 e2) (fun q hq => hp q (List.mem_cons_of_mem _ hq)) R1 F1 fun s2 R2 x2 F2 => h s2 R2 (x1.trans x2) F2
/-- targets that are names -/
noncomputable def namesOf : List Expr → List Str
  | [] => []
  | e :: r => match isName e with
    | some x => x :: namesOf r
    | none => []
theorem namesOf_cons {t : Expr} {ts : List Expr} {x : Str} (h : isName t = some x) : namesOf (t :: ts) = x :: namesOf ts := by
  show (match isName t with | some x => x :: namesOf ts | none => []) = _
  rw [h]
theorem namesC {t : Expr} {ts : List Expr} (h : (namesOf (t :: ts)).length = (t :: ts).length) {P : Prop} (k : ∀ x, isName t = some x → (namesOf ts).length = ts.length → P) : P := by
  cases e : isName t with
  | some x =>
    rw [namesOf_cons e] at h
    exact k x e (Nat.succ.inj h)
  | none =>
    have h : (match isName t with | some x => x :: namesOf ts | none => []).length = ts.length + 1 := h
    rw [e] at h
    cases h
theorem setNames_put {ts : List Expr} : ∀ {vs : List AV} {vals : List Value} {l l1 : Loc}, setNames ns ts vs l = some l1 → VsRel C ρ vs vals →
    ∃ ps : List Sto, l1 = putAll l ps ∧ ps.map (fun p => p.2.2) = vals ∧ ps.map (·.1) = namesOf ts ∧ (namesOf ts).length = ts.length ∧ (∀ p ∈ ps, (lk ns p.1 = some .local ∨ lk ns p.1 = some .cell) ∧ VRel C ρ p.2.1 p.2.2) := by
  induction ts with
  | nil =>
    intro vs vals l l1 e r
    refine thenC e fun u e1 e => ?_
    have z := r.rNil (P := fun vals => vals = []) e1 rfl
    subst z
    exact ⟨[], (Option.some.inj e).symm, rfl, rfl, rfl, fun p hp => (nomatch hp)⟩
  | cons t ts ih =>
    intro vs vals l l1 e r
    cases r with
    | nil => exact qN e
    | cons hv r =>
      refine thenC e fun x ex e => thenC e fun l2 e2 e => x1a5 (ih e r) fun ps h1 h2 h3 h4 h5 => ?_
      have k := setName_is e2
      have en : namesOf (t :: ts) = x :: namesOf ts := namesOf_cons ex
      exact ⟨(x, _, _) :: ps, h1.trans (by rw [← k.2]; rfl), by rw [List.map_cons, h2], by rw [List.map_cons, h3, en], by rw [en, List.length_cons, List.length_cons, h4], fun q hq => memC hq (fun e => e ▸ ⟨k.1, hv⟩) (h5 q)⟩
theorem assignEach_name {x : Str} {p : Pos} {r : List Expr} : assignEach (.Name x p :: r) env = (false, assign (.Name x p) env) :: assignEach r env := rfl
theorem each_names {ts : List Expr} : (namesOf ts).length = ts.length → (assignEach ts env).length = ts.length ∧ (assignEach ts env).findIdx? (·.1) = none ∧
    ∀ (i : Nat) (x : Str) (f : Value → Sem Unit), (namesOf ts)[i]? = some x → ((assignEach ts env).map (·.2))[i]? = some f → ∀ (v : Value) (s : Shared) (Q : Unit → Shared → Prop), wpAny C.M A (storeName env x v) Q NoE s → wpAny C.M A (f v) Q NoE s := by
  induction ts with
  | nil => exact fun _ => ⟨rfl, rfl, fun i x f h => nomatch h⟩
  | cons t ts ih =>
    intro h
    refine namesC h fun x ex h => ?_
    have q := ih h
    have ea : ∃ p, t = .Name x p := isNameC (P := fun t => ∃ p, t = .Name x p) ex fun p => ⟨p, rfl⟩
    obtain ⟨p, ea⟩ := ea
    subst ea
    rw [assignEach_name, namesOf_cons ex]
    refine ⟨congrArg Nat.succ q.1, by simp [List.findIdx?_cons, q.2.1], fun i y f h1 h2 v s Q hq => ?_⟩
    cases i with
    | zero =>
      have h1 : some x = some y := h1
      have h2 : some (assign (.Name x p) env) = some f := h2
      cases h1; cases h2
      exact wpAny_assign_Name hq
    | succ i => exact q.2.2 i y f h1 h2 v s Q hq
theorem ExtBut.old {h h' : Heap} (he : Heap.ExtBut h.objs.size h h') : ∀ b o, h.get? b = some o → h'.get? b = some o := fun b o e => he b o (Nat.ne_of_lt (Heap.lt_size e)) e
theorem tup_is {h : Heap} {a : Addr} {vs : List Value} (g : PlainTup h a vs) : h.IsTuple a vs.toArray := by obtain ⟨n, g⟩ := g; exact ⟨_, g, rfl, n, rfl⟩
theorem names_len {ps : List Sto} {ts : List Expr} (h3 : ps.map (·.1) = namesOf ts) (h4 : (namesOf ts).length = ts.length) : ps.length = ts.length := by rw [← h4, ← h3, List.length_map]
theorem parts_at (R : Rel C ρ σ s.heap) {v : AV} {val : Value} {vs : List AV} (e : parts σ v = some vs) (hv : VRel C ρ v val) : ∃ a vals, val = .ref a ∧ PlainTup s.heap a vals ∧ VsRel C ρ vs vals :=
  thenC e fun i e1 e => hv.rOwn (P := fun val => ∃ a vals, val = .ref a ∧ PlainTup s.heap a vals ∧ VsRel C ρ vs vals) e1 fun a ea => x1a3 (R.objs _ _ _ (atTup e) ea) fun vals g f _ => ⟨a, vals, rfl, g, f⟩
theorem storeAll_names (ps : List Sto) (fs : List (Value → Sem Unit)) {l : Loc} {s : Shared} {Q : Unit → Shared → Prop} (a1 : fs.length = ps.length)
    (a2 : ∀ (i : Nat) (p : Sto) (f : Value → Sem Unit), ps[i]? = some p → fs[i]? = some f → ∀ (s : Shared) (Q : Unit → Shared → Prop), wpAny C.M A (storeName env p.1 p.2.2) Q NoE s → wpAny C.M A (f p.2.2) Q NoE s)
    (a3 : ∀ p ∈ ps, (lk ns p.1 = some .local ∨ lk ns p.1 = some .cell) ∧ VRel C ρ p.2.1 p.2.2)
    (a4 : Rel C ρ σ s.heap) (a5 : FrameOk C env ns ρ l s.heap)
    (h : ∀ s', Rel C ρ σ s'.heap → Ext (FX env ns) ρ s ρ s' → FrameOk C env ns ρ (putAll l ps) s'.heap → Q () s') : wpAny C.M A (assignInOrder fs (ps.map fun p => p.2.2)) Q NoE s :=
  storeAll_keep ps fs a1 a2 a3 a4 a5 fun s' R' x' F' => h s' R' x'.more F'
theorem assign_keep (R : Rel C ρ σ s.heap) (F : FrameOk C env ns ρ l s.heap) (hh : A.handled = none) {t : Expr} {v : AV} {val : Value} {l1 : Loc} {Q : Unit → Shared → Prop} (e : assignN ns σ t v l = some l1) (hv : VRel C ρ v val)
    (h : ∀ s', Rel C ρ σ s'.heap → Ext (FX env ns) [] s [] s' → FrameOk C env ns ρ l1 s'.heap → Q () s') : wpAny C.M A (assign t env val) Q NoE s := by
  refine orC e (fun e => thenC e fun x ex e => isNameC (P := fun t => wpAny C.M A (assign t env val) Q NoE s) ex fun p => wpAny_assign_Name (setName_keep R F e hv h)) fun e => thenC e fun ts et e => thenC e fun vs ev e => tupOfC (P := fun t => wpAny C.M A (assign t env val) Q NoE s) et fun k p => ?_
  obtain ⟨a, vals, qr, g, f⟩ := parts_at R ev hv
  subst qr
  refine x1a5 (setNames_put e f) fun ps h1 h2 h3 h4 h5 => ?_
  have qp := each_names (C := C) (A := A) (env := env) h4; have e1 := qp.1; have e2 := qp.2.1; have e3 := qp.2.2; clear qp
  have hlen : ps.length = vals.length := by rw [← h2, List.length_map]
  have hps := names_len h3 h4
  refine PySem.wpAny_assign_Tuple hh (tup_is g) (by rw [e1, List.size_toArray]; omega) e2 fun h' he => ?_
  rw [List.toList_toArray, ← h2]
  have k := ExtBut.old he
  have R1 : Rel C ρ σ h' := R.keeps k
  have x0 : Ext NoX [] s [] { s with heap := h' } := Ext.kept (t := s.toks) k
  have x1 : Ext NoX ρ s ρ { s with heap := h' } := x0.more
  refine storeAll_keep ps _ (by rw [List.length_map]; omega) (fun i p f q1 q2 s Q hq => ?_) h5 (s := { s with heap := h' }) R1 (F.extE x1) fun s2 R2 x2 F2 => h s2 R2 ((x0.weaken fun b q => q.elim).trans x2) (h1 ▸ F2)
  exact e3 i p.1 f (by rw [← h3, List.getElem?_map, q1]; rfl) q2 p.2.2 s Q hq
theorem assign_sound (R : Rel C ρ σ s.heap) (F : FrameOk C env ns ρ l s.heap) (hh : A.handled = none) {t : Expr} {v : AV} {val : Value} {l1 : Loc} {Q : Unit → Shared → Prop} (e : assignN ns σ t v l = some l1) (hv : VRel C ρ v val)
    (h : ∀ s', Rel C ρ σ s'.heap → Ext (FX env ns) ρ s ρ s' → FrameOk C env ns ρ l1 s'.heap → Q () s') : wpAny C.M A (assign t env val) Q NoE s :=
  assign_keep R F hh e hv fun s' R' x' F' => h s' R' x'.more F'
end
end Mine
-- M45
namespace Mine
open PySem PySem.W PySem.Calls PyProof.Rows PyProof PyProof.V PySem.SeqAt
section
variable {C : Cx} {A : Around} {s : Shared} {ρ : List Addr} {σ σ' : AS} {env : Env} {ns : List (Str × NameKind)} {l : Loc}
noncomputable def pickName (env : Env) (line : Nat) (e : Expr) : Option Str := match e with
  | .Name id pos => if env.kindOf id == some .local && pos.line == line then some id else none
  | _ => none
noncomputable def isStarredE (e : Expr) : Bool := match e with
  | .Starred .. => true
  | _ => false
theorem pick_is {env : Env} {line : Nat} {t : Expr} {y : Str} (q : pickName env line t = some y) : isName t = some y ∧ env.kindOf y = some .local := by
  cases t with
  | Name id pos =>
    have q : (if (env.kindOf id == some .local && pos.line == line) = true then some id else none) = some y := q
    by_cases k : (env.kindOf id == some .local && pos.line == line) = true
    · rw [if_pos k] at q
      cases q
      exact ⟨rfl, eq_of_beq (Bool.and_eq_true_iff.mp k).1⟩
    · rw [if_neg k] at q; exact qN q
  | _ => exact qN q
theorem pick_all {env : Env} {line : Nat} {ts : List Expr} : (ts.filterMap (pickName env line)).length = ts.length → ts.filterMap (pickName env line) = namesOf ts ∧ (namesOf ts).length = ts.length ∧ ∀ x ∈ namesOf ts, env.kindOf x = some .local := by
  induction ts with
  | nil => exact fun _ => ⟨rfl, rfl, fun x hx => (nomatch hx)⟩
  | cons t ts ih =>
    intro h
    have le : (ts.filterMap (pickName env line)).length ≤ ts.length := List.length_filterMap_le ..
    rw [List.filterMap_cons] at h ⊢
    cases q : pickName env line t with
    | none => rw [q] at h; exact absurd ((show (ts.filterMap (pickName env line)).length = ts.length + 1 from h) ▸ le) (Nat.not_succ_le_self _)
    | some y =>
      rw [q] at h
      have k := ih (Nat.succ.inj h)
      have z := pick_is q
      rw [namesOf_cons z.1]
      exact ⟨congrArg (y :: ·) k.1, congrArg Nat.succ k.2.1, fun x hx => memC hx (fun e => e ▸ z.2) (k.2.2 x)⟩
theorem swapped_cases {env : Env} {ts vs : List Expr} {k k' : Nat} {p p' : Pos} (hc : vs.all (constantsAlone 8) = false) :
    swappedStores [.Tuple ts k p] (.Tuple vs k' p') env = pure none ∨ (swappedStores [.Tuple ts k p] (.Tuple vs k' p') env = pure (some (namesOf ts)) ∧ (namesOf ts).length = ts.length ∧ ∀ x ∈ namesOf ts, env.kindOf x = some .local) := by
  have key : swappedStores [.Tuple ts k p] (.Tuple vs k' p') env = (if (!(ts.length == 2 || ts.length == 3) || vs.length != ts.length || env.blockKind != .function) = true then pure none else
      if (vs.any isStarredE) = true then pure none else
      if ((ts.filterMap (pickName env ((ts.head?.map (·.pos.line)).getD 0))).length != ts.length || (ts.filterMap (pickName env ((ts.head?.map (·.pos.line)).getD 0))).eraseDups.length != (ts.filterMap (pickName env ((ts.head?.map (·.pos.line)).getD 0))).length) = true then pure none else
      if vs.all (foldedForSure 8) = true then pure none else
      if vs.all (constantsAlone 8) = true then (unsupported "assign.tuple-of-constant-expressions:order-of-the-stores" >>= fun _ => pure (some (ts.filterMap (pickName env ((ts.head?.map (·.pos.line)).getD 0))))) else
      pure (some (ts.filterMap (pickName env ((ts.head?.map (·.pos.line)).getD 0))))) := rfl
  rw [key]
  split
  · left; rfl
  · split
    · left; rfl
    · split
      · left; rfl
      · rename_i h3
        simp only [Bool.or_eq_true, bne_iff_ne, ne_eq, not_or, Decidable.not_not] at h3
        have qp := pick_all h3.1; have a := qp.1; have b := qp.2.1; have c := qp.2.2; clear qp
        split
        · left; rfl
        · right
          rw [if_neg (by rw [hc]; decide), a]
          exact ⟨rfl, b, c⟩
theorem swap_none {env : Env} {ts : List Expr} {v : Expr} {k : Nat} {p : Pos} (h : tupOf v = none) : swappedStores [.Tuple ts k p] v env = pure none := by
  cases v with
  | Tuple => cases h
  | _ => rfl
theorem orFalse {a b : Bool} (h : a.or b = false) : a = false ∧ b = false := by cases a <;> cases b <;> first | exact ⟨rfl, rfl⟩ | exact qTF h
theorem nameIn_mem {r : List Expr} {x : Str} : nameIn x r = false → (namesOf r).length = r.length → x ∉ namesOf r := by
  induction r with
  | nil => exact fun _ _ q => nomatch q
  | cons t r ih =>
    intro h hl
    refine namesC hl fun y ey hl => ?_
    have z := orFalse h
    rw [ey] at z
    rw [namesOf_cons ey]
    exact fun hm => memC hm (fun e => seq_false z.1 e) (ih z.2 hl)
theorem apart_nodup {ts : List Expr} : apartN ts = true → (namesOf ts).length = ts.length → (namesOf ts).Nodup := by
  induction ts with
  | nil => exact fun _ _ => List.nodup_nil
  | cons t r ih =>
    intro h hl
    refine namesC hl fun y ey hl => ?_
    have h : (match isName t with | some x => (nameIn x r).not.and (apartN r) | none => false) = true := h
    rw [ey] at h
    rw [namesOf_cons ey]
    exact and2 h fun h1 h2 => List.nodup_cons.mpr ⟨nameIn_mem (not_true h1) hl, ih h2 hl⟩
theorem lk_of_mem {α : Type} : ∀ {l : List (Str × α)} {x : Str} {v : α}, (l.map (·.1)).Nodup → (x, v) ∈ l → lk l x = some v
  | (k, w) :: r, x, v, hn, hm => by
    rw [lk_cons]
    have qp := List.nodup_cons.mp hn; have h1 := qp.1; have h2 := qp.2; clear qp
    rcases List.mem_cons.mp hm with e | hm
    · cases e; rw [if_pos rfl]
    · have : x ≠ k := fun q => h1 (q ▸ List.mem_map.mpr ⟨(x, v), hm, rfl⟩)
      rw [if_neg this]; exact lk_of_mem h2 hm
theorem lk_reverse {α : Type} {l : List (Str × α)} (hn : (l.map (·.1)).Nodup) (x : Str) : lk l.reverse x = lk l x := by
  have hn' : (l.reverse.map (·.1)).Nodup := by rw [List.map_reverse]; exact (List.pairwise_reverse.mpr (List.Pairwise.imp (fun h q => h q.symm) hn))
  cases h : lk l x with
  | some v => exact lk_of_mem hn' (List.mem_reverse.mpr (lk_mem h))
  | none =>
    cases q : lk l.reverse x with
    | none => rfl
    | some v =>
      have := lk_of_mem hn (List.mem_reverse.mp (lk_mem q))
      rw [h] at this; cases this
theorem putAll_reverse {ps : List Sto} (hn : (ps.map (·.1)).Nodup) (l : Loc) (y : Str) : lk (putAll l ps.reverse) y = lk (putAll l ps) y := by
  rw [lk_putAll, lk_putAll, List.map_reverse, List.reverse_reverse]
  rw [lk_reverse (l := ps.map fun p => (p.1, p.2.1)) (by rw [List.map_map]; exact hn)]
/-- what is to be shown of the stores of an assignment -/
noncomputable def SwG (C : Cx) (A : Around) (env : Env) (val : Value) (Q : Flow → Shared → Prop) (s : Shared) (t v : Expr) : Prop := G C.M A (swappedStores [t] v env >>= fun w => assignStores env val w ((assignEach [t] env).map (·.2))) Q s
theorem sw_plain (R : Rel C ρ σ s.heap) (F : FrameOk C env ns ρ l s.heap) (hh : A.handled = none) {t v : Expr} {a : AV} {val : Value} {l1 : Loc} {Q : Flow → Shared → Prop} (e : assignN ns σ t a l = some l1) (hv : VRel C ρ a val)
    (h : ∀ s', Rel C ρ σ s'.heap → Ext (FX env ns) ρ s ρ s' → FrameOk C env ns ρ l1 s'.heap → Q .next s') (q : swappedStores [t] v env = pure none) (ea : (assignEach [t] env).map (·.2) = [assign t env]) : SwG C A env val Q s t v := by
  unfold SwG
  rw [q, ea]
  refine G.bind (G.pure ?_)
  show G C.M A (assign t env val >>= fun _ => pure .next) Q s
  exact G.bind (G.of (assign_sound R F hh e hv fun s1 R1 x1 F1 => G.pure (h s1 R1 x1 F1)))
theorem sw_tup (R : Rel C ρ σ s.heap) (F : FrameOk C env ns ρ l s.heap) (hh : A.handled = none) {ts vs : List Expr} {k k' : Nat} {p p' : Pos} {a : AV} {val : Value} {l1 : Loc} {vs' : List AV} {Q : Flow → Shared → Prop} (ev : parts σ a = some vs') (e : setNames ns ts vs' l = some l1) (ha : apartN ts = true) (hv : VRel C ρ a val)
    (h : ∀ s', Rel C ρ σ s'.heap → Ext (FX env ns) ρ s ρ s' → FrameOk C env ns ρ l1 s'.heap → Q .next s') (q : swappedStores [.Tuple ts k p] (.Tuple vs k' p') env = pure (some (namesOf ts))) : SwG C A env val Q s (.Tuple ts k p) (.Tuple vs k' p') := by
  unfold SwG
  rw [q]
  refine G.bind (G.pure ?_)
  obtain ⟨ad, vals, qr1, g, f⟩ := parts_at R ev hv
  subst qr1
  refine x1a5 (setNames_put e f) fun ps h1 h2 h3 h4 h5 => ?_
  have hps := names_len h3 h4
  have hlen : ps.length = vals.length := by rw [← h2, List.length_map]
  have hn : (namesOf ts).length = vals.toArray.size := by rw [List.size_toArray]; omega
  show G C.M A (rule "assign.swapped-stores" >>= fun _ => unpackItems (.ref ad) (namesOf ts).length none >>= fun items => assignInOrder ((namesOf ts).reverse.map fun n => bindName env n) items.reverse >>= fun _ => pure .next) Q s
  refine G.bind (G.rule (G.bind ?_))
  rw [hn]
  refine G.of (wpAny_unpackItems_tuple hh (tup_is g) fun h' he => ?_)
  rw [List.toList_toArray, ← h2, ← List.map_reverse]
  have kk := ExtBut.old he
  have R1 : Rel C ρ σ h' := R.keeps kk
  have x1 : Ext NoX ρ s ρ { s with heap := h' } := Ext.kept (t := s.toks) kk
  refine G.bind (G.of (storeAll_names ps.reverse _ (by rw [List.length_map, List.length_reverse, List.length_reverse]; omega) (fun i p f q3 q4 s Q hq => ?_) (fun p hp => h5 p (List.mem_reverse.mp hp)) (s := { s with heap := h' }) R1 (F.extE x1) fun s2 R2 x2 F2 => G.pure ?_))
  · have e1 : (namesOf ts).reverse[i]? = some p.1 := by rw [← h3, ← List.map_reverse, List.getElem?_map, q3]; rfl
    rw [List.getElem?_map, e1] at q4
    cases q4
    exact wpAny_bindName hq
  · refine h s2 R2 ((x1.weaken fun b q => q.elim).trans x2) (F2.congr fun y => ?_)
    rw [h1]
    exact (putAll_reverse (by rw [h3]; exact apart_nodup ha h4) l y).symm
theorem g_assignStores (R : Rel C ρ σ s.heap) (F : FrameOk C env ns ρ l s.heap) (hh : A.handled = none) {t v : Expr} {a : AV} {val : Value} {l1 : Loc} {Q : Flow → Shared → Prop} (e : assignN ns σ t a l = some l1) (hs : swapOk t v = true) (hv : VRel C ρ a val)
    (h : ∀ s', Rel C ρ σ s'.heap → Ext (FX env ns) ρ s ρ s' → FrameOk C env ns ρ l1 s'.heap → Q .next s') :
    G C.M A (swappedStores [t] v env >>= fun w => assignStores env val w ((assignEach [t] env).map (·.2))) Q s := by
  show SwG C A env val Q s t v
  refine orC e (fun e' => thenC e' fun x ex e' => isNameC (P := fun t => assignN ns σ t a l = some l1 → SwG C A env val Q s t v) ex (fun p e => sw_plain R F hh e hv h rfl rfl) e) fun e' => thenC e' fun ts et e' => thenC e' fun vs' ev e' => ?_
  refine tupOfC (P := fun t => assignN ns σ t a l = some l1 → swapOk t v = true → SwG C A env val Q s t v) et (fun k p e hs => ?_) e hs
  cases ev2 : tupOf v with
  | none => exact sw_plain R F hh e hv h (swap_none ev2) rfl
  | some vs =>
    refine tupOfC (P := fun v => swapOk (.Tuple ts k p) v = true → SwG C A env val Q s (.Tuple ts k p) v) ev2 (fun k' p' hs => and2 (show ((vs.all (constantsAlone 8)).not.and (apartN ts)) = true from hs) fun h1 h2 => ?_) hs
    rcases swapped_cases (env := env) (ts := ts) (k := k) (k' := k') (p := p) (p' := p') (not_true h1) with q | ⟨q, q1, q2⟩
    · exact sw_plain R F hh e hv h q rfl
    · exact sw_tup R F hh ev e' h2 hv h q
end
end Mine
-- M46
namespace Mine
open PySem PySem.W PySem.Calls PyProof.Rows PyProof PyProof.V PySem.SeqAt
section
variable {C : Cx} {A : Around} {s : Shared} {ρ : List Addr} {σ σ' : AS} {env : Env} {ns : List (Str × NameKind)} {l l' : Loc} {d : Nat} {r : Run} {fl : Fl} {Q : Flow → Shared → Prop}
theorem evS_sound {f : Stmt → List (Str × NameKind) → Loc → AS → Option (Fl × Loc × AS)} (hX : SX C d f) (rm : Room A d) : ∀ {b : List Stmt} {ρ : List Addr} {σ σ' : AS} {l l' : Loc} {s : Shared} {fl : Fl} {Q : Flow → Shared → Prop},
    evS (fun s l σ => f s ns l σ) b l σ = some (fl, l', σ') → Rel C ρ σ s.heap → FrameOk C env ns ρ l s.heap →
    (∀ ρ' s' fv, Rel C ρ' σ' s'.heap → Ext (FX env ns) ρ s ρ' s' → FrameOk C env ns ρ' l' s'.heap → FlRel C ρ' fl fv → Q fv s') → G C.M A (execs b env) Q s
  | [], ρ, σ, σ', l, l', s, fl, Q, e, R, F, h => by
    (revert h; apply q3 e; intro h)
    exact G.pure (h ρ s .next R Ext.refl F .next)
  | st :: b, ρ, σ, σ', l, l', s, fl, Q, e, R, F, h => by
    rw [execs_cons]
    unfold evS at e
    split at e
    · rename_i l1 σ1 e1
      refine G.bind (hX e1 rm R F fun ρ1 s1 fv R1 x1 F1 h1 => ?_)
      cases h1
      exact evS_sound hX rm e R1 F1 fun ρ2 s2 fv R2 x2 F2 h2 => h _ _ _ R2 (x1.trans x2) F2 h2
    · rename_i fl1 l1 σ1 hne e1
      (revert h; apply q3 e; intro h)
      refine G.bind (hX e1 rm R F fun ρ1 s1 fv R1 x1 F1 h1 => ?_)
      have go : G C.M A (pure fv) Q s1 := G.pure (h _ _ _ R1 x1 F1 h1)
      cases h1 with
      | next => exact absurd rfl (hne)
      | _ => exact go
    · exact qN e
theorem g_drop {e : Expr} {pos : Pos} {v : Value} {Q : Flow → Shared → Prop} (h : Q .next s) : G C.M A (dropValue e pos v) Q s := by
  unfold dropValue
  split
  · exact G.pure h
  · exact G.bind (G.standAt (G.bind (G.of (wpAny_runValue (codeAny_builtin entry_let_go (show wpAny _ _ (ret .none) _ _ s from wpAny_pure (G.pure h)))))))
  · exact G.pure h
theorem fun_not_interactive (F : FrameOk C env ns ρ l s.heap) : interactive env = false := by
  unfold interactive
  rw [F.kind]; rfl
theorem swaps_off {v : Expr} {t : Option Expr} {n : Nat} (h : isComp v = false) : swapsWith v t n env = pure false := by
  cases v <;> first | rfl | cases h
theorem X_Expr (hE : SE C d r.E) (rm : Room A d) {e : Expr} {p : Pos} (ev : stepX C.B C.T r (.Expr e p) ns l σ = some (fl, l', σ')) (R : Rel C ρ σ s.heap) (F : FrameOk C env ns ρ l s.heap)
    (h : ∀ ρ' s' fv, Rel C ρ' σ' s'.heap → Ext (FX env ns) ρ s ρ' s' → FrameOk C env ns ρ' l' s'.heap → FlRel C ρ' fl fv → Q fv s') : G C.M A (exec (.Expr e p) env) Q s := by
  unfold stepX at ev
  dsimp only at ev
  have qq := qIfN ev

  · have hc := qq.1; have ev := qq.2; clear qq
    split at ev
    · rename_i v σ1 e1
      (revert h; apply q3 ev; intro h)
      have ee : exec (.Expr e p) env = (do
        standAt p
        if interactive env then printExpr (eval e env)
        else if ← swapsWith e none p.line env then do evalThenUse e env fun _ => point; pure .next
        else do dropValue e p (← eval e env)) := rfl
      rw [ee, fun_not_interactive F, swaps_off hc]
      refine G.bind (G.standAt ?_)
      rw [if_neg (by decide)]
      refine G.bind (G.pure ?_)
      rw [if_neg (by decide)]
      exact G.bind (hE e1 rm R F fun ρ1 s1 val R1 x1 h1 => g_drop (h ρ1 s1 .next R1 (x1.weaken fun b q => q.elim) (F.extE x1) .next))
    · cases ev
theorem X_Return (hE : SE C d r.E) (rm : Room A d) {e : Option Expr} {p : Pos} (ev : stepX C.B C.T r (.Return e p) ns l σ = some (fl, l', σ')) (R : Rel C ρ σ s.heap) (F : FrameOk C env ns ρ l s.heap)
    (h : ∀ ρ' s' fv, Rel C ρ' σ' s'.heap → Ext (FX env ns) ρ s ρ' s' → FrameOk C env ns ρ' l' s'.heap → FlRel C ρ' fl fv → Q fv s') : G C.M A (exec (.Return e p) env) Q s := by
  unfold stepX at ev
  dsimp only at ev
  cases e with
  | none =>
    (revert h; apply q3 ev; intro h)
    rw [exec_Return_none]
    exact G.bind (G.standAt (G.pure (h ρ s _ R Ext.refl F (.ret .none))))
  | some e =>
    dsimp only at ev
    split at ev
    · rename_i v σ1 e1
      (revert h; apply q3 ev; intro h)
      rw [exec_Return_some]
      exact G.bind (G.standAt (G.bind (hE e1 rm R F fun ρ1 s1 val R1 x1 h1 => G.pure (h ρ1 s1 _ R1 (x1.weaken fun b q => q.elim) (F.extE x1) (.ret h1)))))
    · cases ev
theorem X_If (hT : ST C d r.T) (hX : SX C d r.X) (rm : Room A d) {t : Expr} {a b : List Stmt} {p : Pos} (ev : stepX C.B C.T r (.If t a b p) ns l σ = some (fl, l', σ')) (R : Rel C ρ σ s.heap) (F : FrameOk C env ns ρ l s.heap)
    (h : ∀ ρ' s' fv, Rel C ρ' σ' s'.heap → Ext (FX env ns) ρ s ρ' s' → FrameOk C env ns ρ' l' s'.heap → FlRel C ρ' fl fv → Q fv s') : G C.M A (exec (.If t a b p) env) Q s := by
  unfold stepX at ev
  dsimp only at ev
  rw [exec_If]
  split at ev
  · rename_i σ1 e1
    refine G.bind (G.standAt (G.bind (hT e1 rm R F fun ρ1 s1 R1 x1 => ?_)))
    rw [if_pos rfl]
    exact evS_sound hX rm ev R1 (F.extE x1) fun ρ2 s2 fv R2 x2 F2 h2 => h _ _ _ R2 ((x1.weaken fun b q => q.elim).trans x2) F2 h2
  · rename_i σ1 e1
    refine G.bind (G.standAt (G.bind (hT e1 rm R F fun ρ1 s1 R1 x1 => ?_)))
    rw [if_neg (by decide)]
    exact evS_sound hX rm ev R1 (F.extE x1) fun ρ2 s2 fv R2 x2 F2 h2 => h _ _ _ R2 ((x1.weaken fun b q => q.elim).trans x2) F2 h2
  · exact qN ev
theorem swapsSole_off {t v : Expr} {n : Nat} (h : isComp v = false ∨ ∀ x p, t ≠ .Name x p) : swapsWithSole [t] v n env = pure false := by
  show swapsWith v (some t) n env = _
  rcases h with h | h
  · exact swaps_off h
  · unfold swapsWith
    split
    · rename_i q
      cases t <;> first | rfl | exact absurd rfl (h _ _)
    · rfl
theorem asg_start {t v : Expr} {p : Pos} (hc : isComp v = false ∨ ∀ x p, t ≠ .Name x p) (g : G C.M A (eval v env >>= fun val => swappedStores [t] v env >>= fun w => assignStores env val w ((assignEach [t] env).map (·.2))) Q s) : G C.M A (exec (.Assign [t] v p) env) Q s := by
  rw [arm_exec_Assign, swapsSole_off hc]
  refine G.bind (G.standAt (G.bind (G.pure ?_)))
  rw [if_neg (by decide)]
  exact g
theorem asg_attr (S : Stat C) (hE : SE C d r.E) (O : Ok C) (rm : Room A d) {o v : Expr} {name : Str} {p ap : Pos} {a : AV} {σ1 σ3 : AS} {w : AV × AS} (e1 : r.E v ns l σ = some (a, σ1)) (e2 : r.E o ns l σ1 = some w) (e3 : setField C.B w.2 w.1 name a = some σ3) (R : Rel C ρ σ s.heap) (F : FrameOk C env ns ρ l s.heap)
    (h : ∀ ρ' s' fv, Rel C ρ' σ3 s'.heap → Ext (FX env ns) ρ s ρ' s' → FrameOk C env ns ρ' l s'.heap → FlRel C ρ' .next fv → Q fv s') : G C.M A (exec (.Assign [.Attribute o name ap] v p) env) Q s := by
  refine asg_start (.inr fun _ _ z => nomatch z) (G.bind (hE e1 rm R F fun ρ1 s1 val R1 x1 h1 => ?_))
  show G C.M A (assign (.Attribute o name ap) env val >>= fun _ => pure .next) Q s1
  rw [arm_assign_Attribute]
  refine G.bind (G.bind (G.holding (hE e2 rm R1 (F.extE x1) fun ρ2 s2 oval R2 x2 h2 => G.bind (G.standAt (G.bind (G.holding (G.of ?_)))))))
  exact setField_sound S O R2 e3 h2 (x2.v h1) fun s3 R3 x3 => G.release (G.pure (h ρ2 s3 .next R3 (((x1.trans x2).trans x3).weaken fun b q => q.elim) (F.extE ((x1.trans x2).trans x3)) .next))
theorem asg_sub (hE : SE C d r.E) (O : Ok C) (rm : Room A d) {o i v : Expr} {p ap : Pos} {a : AV} {σ1 σ4 : AS} {w u : AV × AS} (e1 : r.E v ns l σ = some (a, σ1)) (e2 : r.E o ns l σ1 = some w) (e3 : r.E i ns l w.2 = some u) (e4 : store u.2 w.1 u.1 a = some σ4) (R : Rel C ρ σ s.heap) (F : FrameOk C env ns ρ l s.heap)
    (h : ∀ ρ' s' fv, Rel C ρ' σ4 s'.heap → Ext (FX env ns) ρ s ρ' s' → FrameOk C env ns ρ' l s'.heap → FlRel C ρ' .next fv → Q fv s') : G C.M A (exec (.Assign [.Subscript o i ap] v p) env) Q s := by
  refine asg_start (.inr fun _ _ z => nomatch z) (G.bind (hE e1 rm R F fun ρ1 s1 val R1 x1 h1 => ?_))
  show G C.M A (assign (.Subscript o i ap) env val >>= fun _ => pure .next) Q s1
  rw [arm_assign_Subscript]
  refine G.bind (G.bind (G.holding (hE e2 rm R1 (F.extE x1) fun ρ2 s2 oval R2 x2 h2 => G.bind (G.holding (hE e3 rm R2 (F.extE (x1.trans x2)) fun ρ3 s3 ival R3 x3 h3 => G.bind (G.standAt (G.bind (G.holding (G.of ?_)))))))))
  exact store_sound O R3 rm.units e4 (x3.v h2) h3 (x3.v (x2.v h1)) fun s4 R4 x4 => G.release (G.pure (h ρ3 s4 .next R4 ((((x1.trans x2).trans x3).trans x4).weaken fun b q => q.elim) (F.extE (((x1.trans x2).trans x3).trans x4)) .next))
theorem X_Assign (S : Stat C) (hE : SE C d r.E) (O : Ok C) (rm : Room A d) {ts : List Expr} {v : Expr} {p : Pos} (ev : stepX C.B C.T r (.Assign ts v p) ns l σ = some (fl, l', σ')) (R : Rel C ρ σ s.heap) (F : FrameOk C env ns ρ l s.heap)
    (h : ∀ ρ' s' fv, Rel C ρ' σ' s'.heap → Ext (FX env ns) ρ s ρ' s' → FrameOk C env ns ρ' l' s'.heap → FlRel C ρ' fl fv → Q fv s') : G C.M A (exec (.Assign ts v p) env) Q s := by
  refine thenC ev fun t et ev => oneC (P := fun ts => G C.M A (exec (.Assign ts v p) env) Q s) et (thenC ev fun q e1 ev => orC ev
    (fun ev => thenC ev fun z ez ev => thenC ev fun w e2 ev => thenC ev fun σ3 e3 ev => attrOfC (P := fun t => G C.M A (exec (.Assign [t] v p) env) Q s) ez fun ap => ?_) fun ev => orC ev
    (fun ev => thenC ev fun z ez ev => whenC ev fun hs ev => thenC ev fun w e2 ev => thenC ev fun u e3 ev => thenC ev fun σ4 e4 ev => subOfC (P := fun t => G C.M A (exec (.Assign [t] v p) env) Q s) ez fun ap => ?_)
    fun ev => whenC ev fun hq ev => and2 hq fun h1 h2 => thenC ev fun l1 e2 ev => ?_)
  · revert h; apply q3 ev; intro h
    exact asg_attr S hE O rm (σ1 := q.2) e1 e2 e3 R F h
  · revert h; apply q3 ev; intro h
    exact asg_sub hE O rm (σ1 := q.2) e1 e2 e3 e4 R F h
  · revert h; apply q3 ev; intro h
    exact asg_start (.inl (not_true h1)) (G.bind (hE (σ' := q.2) e1 rm R F fun ρ1 s1 val R1 x1 k1 =>
      g_assignStores R1 (F.extE x1) rm.2.2 e2 h2 k1 fun s2 R2 x2 F2 => h ρ1 s2 .next R2 ((x1.weaken fun b q => q.elim).trans x2) F2 .next))
end
end Mine
-- M47
namespace Mine
open PySem PySem.W PySem.Calls PyProof.Rows PyProof PyProof.V PySem.SeqAt
section
variable {C : Cx} {A : Around} {s : Shared} {ρ ρ' : List Addr} {σ σ' : AS} {env : Env} {ns : List (Str × NameKind)} {l l' : Loc} {kd : SKd} {i k : Nat} {it : Addr} {its : List Addr}
structure ItAt (C : Cx) (ρ : List Addr) (kd : SKd) (i k : Nat) (it : Addr) (its : List Addr) (h : Heap) : Prop where
  self : it ∈ its
  out : ∀ b ∈ its, b ∉ ρ ∧ C.h₁.objs.size ≤ b
  live : ∀ b ∈ its, ∃ o, h.get? b = some o
  at_ : ∃ a, at? ρ i = some a ∧ match kd with
    | .list => h.IsListIter it a k ∧ its = [it]
    | .tup => h.IsTupleIter it a k ∧ its = [it]
    | .enum => ∃ li old, its = [it, li] ∧ it ≠ li ∧ IsEnum h it li k old ∧ h.IsListIter li a k
    | .rng n => IsRangeIter h it k ((n : Int) - (k : Int)) 1 ∧ its = [it]
theorem ItAt.ext {X : Addr → Prop} {s' : Shared} (I : ItAt C ρ kd i k it its s.heap) (x : Ext X ρ s ρ' s') (hX : ∀ b ∈ its, ¬ X b) : ItAt C ρ' kd i k it its s'.heap := by
  have keep : ∀ b ∈ its, ∀ o, s.heap.get? b = some o → s'.heap.get? b = some o := fun b hb o e => x.keep b o e (I.out b hb).1 (hX b hb)
  refine ⟨I.self, fun b hb => ⟨?_, (I.out b hb).2⟩, fun b hb => let ⟨o, e⟩ := I.live b hb; ⟨o, keep b hb o e⟩, ?_⟩
  · ((refine x1a1 (I.live b hb) (fun o e => ?_)))
    exact notin_of_ext x (I.out b hb).1 e (hX b hb)
  · ((refine x1a2 (I.at_) (fun a ea q => ?_)))
    refine ⟨a, x.at ea, ?_⟩
    have ks := keep it I.self
    cases kd with
    | list => exact ⟨q.1.at ks, q.2⟩
    | tup => exact ⟨q.1.at ks, q.2⟩
    | rng n => exact ⟨ks _ q.1, q.2⟩
    | enum =>
      ((refine x2a4 (q) (fun li old q1 q2 q3 q4 => ?_)))
      exact ⟨li, old, q1, q2, ks _ q3, q4.at (keep li (by rw [q1]; simp))⟩
/-- ours stand where only what an iterator owns is changed -/
theorem Rel.beside {h' : Heap} (R : Rel C ρ σ s.heap) (out : ∀ b ∈ its, b ∉ ρ ∧ C.h₁.objs.size ≤ b) (k : ∀ b o, b ∉ its → s.heap.get? b = some o → h'.get? b = some o) : Rel C ρ σ h' :=
  R.heap (fun a x ha e => k a x (fun q => (out a q).1 ha) e) fun b o e => k b o (fun q => absurd (Heap.lt_size e) (Nat.not_lt.mpr (out b q).2)) (R.base b o e)
theorem let_plain {t : Expr} {it : Addr} {v : Value} {o : Obj} {T : String} {Q : Unit → Shared → Prop} (ho : s.heap.get? it = some o) (hc : o.cls = .type T)
    (hT : ["enumerate", "zip", "dict_itemiterator", "dict_reverseitemiterator", "odict_iterator", "itertools.zip_longest", "itertools.pairwise"].contains T = false) (h : Q () s) : wpAny C.M A (letOwnedTupleGo t (.ref it) v) Q NoE s := by
  have go : wpAny C.M A (do
      let (.ref r, .ref a) := ((Value.ref it, v) : Value × Value) | return
      let o ← load r
      match o.cls, o.data with
      | .type n, .fields vs =>
        if ["enumerate", "zip", "dict_itemiterator", "dict_reverseitemiterator", "odict_iterator", "itertools.zip_longest", "itertools.pairwise"].contains n && vs[0]? == some (rawInt a) then
          rule "for.unpacks-the-owned-tuple"
          updateField r 0 .none
      | _, _ => pure ()) Q NoE s := by
    cases v <;> first | exact wpAny_pure h | skip
    refine wpAny_bind (wpAny_load ho ?_)
    rw [hc]
    cases o.data <;> first | exact wpAny_pure h | skip
    dsimp only
    rw [hT]
    exact wpAny_pure h
  unfold letOwnedTupleGo
  split
  · exact go
  · exact go
  · exact wpAny_pure h
end
end Mine
-- M48
namespace Mine
open PySem PySem.W PySem.Calls PyProof.Rows PyProof PyProof.V PySem.SeqAt
section
variable {C : Cx} {A : Around} {s : Shared} {ρ ρ' : List Addr} {σ σ' : AS} {env : Env} {ns : List (Str × NameKind)} {l l' : Loc} {kd : SKd} {i k : Nat} {it : Addr} {its : List Addr}
/-- what is asked of a thing that was drawn -/
noncomputable def Drawn (C : Cx) (A : Around) (ρ : List Addr) (σ1 : AS) (kd : SKd) (i k : Nat) (it : Addr) (its : List Addr) (t : Expr) (val : Value) (s' : Shared) : Prop :=
  ∀ Q2 : Unit → Shared → Prop, (∀ s2, Rel C ρ σ1 s2.heap → Ext (· ∈ its) ρ s' ρ s2 → ItAt C ρ kd i (k + 1) it its s2.heap → Q2 () s2) → wpAny C.M A (letOwnedTupleGo t (.ref it) val) Q2 NoE s'
theorem one_list {h : Heap} {a : Addr} {vs : Array Value} (g : h.PlainList a vs) : h.IsList a vs := g.isList
theorem nextL {σ : AS} {i k : Nat} {res : Option (AV × AS)} {f : AV → AV × AS} {p : AO → Option (List AV)} (e : (bindO (atA p σ i) fun xs => some ((at? xs k).map f)) = some res) {P : Prop} (k1 : ∀ xs v, atA p σ i = some xs → at? xs k = some v → res = some (f v) → P) (k2 : ∀ xs, atA p σ i = some xs → at? xs k = none → res = none → P) : P :=
  thenC e fun xs ex e => by
    have e := (Option.some.inj e).symm
    cases ev : at? xs k with
    | some v => rw [ev] at e; exact k1 xs v ex ev e
    | none => rw [ev] at e; exact k2 xs ex ev e
theorem past {xs : List AV} {vs : List Value} (f : VsRel C ρ xs vs) (ev : at? xs k = none) : vs.length ≤ k := by
  rw [at_eq] at ev
  exact f.length ▸ List.getElem?_eq_none_iff.mp ev
theorem past_arr {xs : List AV} {vs : Array Value} (f : VsRel C ρ xs vs.toList) (ev : at? xs k = none) : vs[k]? = none := Array.getElem?_eq_none_iff.mpr (Array.length_toList (xs := vs) ▸ past f ev)
theorem turn_one {R' : Rel C ρ σ s.heap} (I : ItAt C ρ kd i k it its s.heap) (q : its = [it]) {t : Expr} {v : AV} {val : Value} {h' : Heap} {tk : Nat} {o : Obj} {T : String} {Q : Option Value → Shared → Prop} (hs : ∀ b, b ≠ it → h'.get? b = s.heap.get? b) (g : h'.get? it = some o) (hc : o.cls = .type T)
    (hT : ["enumerate", "zip", "dict_itemiterator", "dict_reverseitemiterator", "odict_iterator", "itertools.zip_longest", "itertools.pairwise"].contains T = false) (hv : VRel C ρ v val) (I' : ItAt C ρ kd i (k + 1) it its h')
    (h1 : ∀ ρ' s' val, Rel C ρ' σ s'.heap → Ext (· ∈ its) ρ s ρ' s' → VRel C ρ' v val → Drawn C A ρ' σ kd i k it its t val s' → Q (some val) s') : Q (some val) { s with heap := h', toks := tk } := by
  have no : ∀ b, b ∉ its → b ≠ it := fun b hb z => hb (by rw [q, z]; exact List.mem_singleton.mpr rfl)
  have R1 : Rel C ρ σ h' := R'.beside I.out fun b o hb e => (hs b (no b hb)).trans e
  exact h1 ρ { s with heap := h', toks := tk } val R1 (Ext.but fun b o hb e => (hs b (no b hb)).trans e) hv fun Q2 hQ => let_plain g hc hT (hQ _ R1 Ext.refl I')
theorem turn_end (R : Rel C ρ σ s.heap) (I : ItAt C ρ kd i k it its s.heap) (q : its = [it]) {h' : Heap} {Q : Option Value → Shared → Prop} (hs : Heap.ExtBut it s.heap h') (h0 : ∀ s', Rel C ρ σ s'.heap → Ext (· ∈ its) ρ s ρ s' → Q none s') : Q none { s with heap := h' } := by
  have no : ∀ b, b ∉ its → b ≠ it := fun b hb z => hb (by rw [q, z]; exact List.mem_singleton.mpr rfl)
  exact h0 _ (R.beside I.out fun b o hb e => hs b o (no b hb) e) (Ext.but (t := s.toks) fun b o hb e => hs b o (no b hb) e)
theorem live_one {h' : Heap} {o : Obj} (q : its = [it]) (g : h'.get? it = some o) : ∀ b ∈ its, ∃ o, h'.get? b = some o := fun b hb => by
  rw [q] at hb
  exact ⟨o, List.mem_singleton.mp hb ▸ g⟩
theorem next_sound (O : Ok C) (R : Rel C ρ σ s.heap) (hh : A.handled = none) (I : ItAt C ρ kd i k it its s.heap) {t : Expr} (ht : kd = .enum → ∃ ts a b, t = .Tuple ts a b) {res : Option (AV × AS)} (e : nextOf σ (.own i) kd k = some res) {Q : Option Value → Shared → Prop}
    (h0 : res = none → ∀ s', Rel C ρ σ s'.heap → Ext (· ∈ its) ρ s ρ s' → Q none s')
    (h1 : ∀ v σ1, res = some (v, σ1) → ∀ ρ' s' val, Rel C ρ' σ1 s'.heap → Ext (· ∈ its) ρ s ρ' s' → VRel C ρ' v val → Drawn C A ρ' σ1 kd i k it its t val s' → Q (some val) s') : wpAny C.M A (pyNext (.ref it)) Q NoE s := by
  refine x1a2 (I.at_) fun a ea I4 => ?_
  cases kd with
  | list =>
    refine nextL (p := aList) (f := fun v => (v, σ)) e (fun xs v ex ev eq => ?_) fun xs ex ev eq => ?_
    · refine x1a2 (R.objs _ _ _ (atList ex) ea) fun vs g f => x1a2 (f.at ev) fun val k1 k2 => wpAny_pyNext_list_item I4.1 g.isList (x := val) (by simpa using k1) fun h' hit' hs => ?_
      refine x1a3 (id hit') fun o g1 g2 g3 => turn_one (R' := R) I I4.2 (tk := s.toks) hs.2 g1 g2 (by decide) k2 ⟨I.self, I.out, live_one I4.2 g1, a, ea, hit', I4.2⟩ (h1 _ _ eq)
    · exact x1a2 (R.objs _ _ _ (atList ex) ea) fun vs g f => wpAny_pyNext_list_end hh I4.1 g.isList (past_arr f ev) fun h' hs => turn_end R I I4.2 hs (h0 eq)
  | tup =>
    refine nextL (p := aTup) (f := fun v => (v, σ)) e (fun xs v ex ev eq => ?_) fun xs ex ev eq => ?_
    · refine x1a3 (R.objs _ _ _ (atTup ex) ea) fun vs g f _ => x1a2 (f.at ev) fun val k1 k2 => wpAny_pyNext_tuple_item I4.1 (tup_is g) (x := val) (by simpa using k1) fun h' hit' hs => ?_
      refine x1a3 (id hit') fun o g1 g2 g3 => turn_one (R' := R) I I4.2 (tk := s.toks) hs.2 g1 g2 (by decide) k2 ⟨I.self, I.out, live_one I4.2 g1, a, ea, hit', I4.2⟩ (h1 _ _ eq)
    · exact x1a3 (R.objs _ _ _ (atTup ex) ea) fun vs g f _ => wpAny_pyNext_tuple_end hh I4.1 (tup_is g) (past_arr (vs := vs.toArray) f ev) fun h' hs => turn_end R I I4.2 hs (h0 eq)
  | rng n =>
    have e := (Option.some.inj (show some (match Nat.blt k n with | true => some (AV.int (.lit (.ofNat k)), σ) | false => none) = some res from e)).symm
    cases hlt : Nat.blt k n with
    | true =>
      rw [hlt] at e
      have hlt : k < n := Nat.le_of_ble_eq_true hlt
      refine wpAny_pyNext_range_item I4.1 (by omega) fun h' hit' hs => ?_
      have e1 : (k : Int) + 1 = ((k + 1 : Nat) : Int) := by push_cast; rfl
      have e2 : (n : Int) - (k : Int) - 1 = (n : Int) - ((k + 1 : Nat) : Int) := by push_cast; omega
      rw [e1, e2] at hit'
      exact turn_one (R' := R) I I4.2 (tk := s.toks + 1) hs.2 hit' rfl (by decide) (.int _ (show SI.rel _ (.lit _) _ by simp [SI.rel])) ⟨I.self, I.out, live_one I4.2 hit', a, ea, hit', I4.2⟩ (h1 _ _ e)
    | false =>
      rw [hlt] at e
      have hlt : ¬ k < n := fun z => by rw [show Nat.blt k n = true from Nat.ble_eq_true_of_le z] at hlt; exact qTF hlt
      exact wpAny_pyNext_range_end hh I4.1 (by omega) fun h' hs => turn_end R I I4.2 hs (h0 e)
  | enum =>
    refine x2a4 (I4) fun li old q hne he hit => ?_
    have no : ∀ b, b ∉ its → b ≠ it ∧ b ≠ li := fun b hb => ⟨fun z => hb (by rw [q, z]; exact List.mem_cons_self), fun z => hb (by rw [q, z]; exact List.mem_cons_of_mem _ (List.mem_singleton.mpr rfl))⟩
    refine nextL (p := aList) (f := fun v => alloc σ (.tup [.int (.lit (.ofNat k)), v])) e (fun xs v ex ev eq => ?_) fun xs ex ev eq => ?_
    · rw [alloc_eq] at eq
      refine x1a2 (R.objs _ _ _ (atList ex) ea) fun vs g f => ?_
      ((refine x1a2 (f.at ev) (fun val k1 k2 => ?_)))
      refine wpAny_pyNext_enum_item he hit g.isList (x := val) (by simpa using k1) hne fun h' he' hit' htup hsz hk => ?_
      have R1 : Rel C ρ σ h' := R.beside I.out fun b o hb e => hk b o (no b hb).1 (no b hb).2 e
      have x1 : Ext (· ∈ its) ρ s ρ { s with heap := h', toks := s.toks + 1 } := Ext.but fun b o hb e => hk b o (no b hb).1 (no b hb).2 e
      have hnρ : s.heap.objs.size ∉ ρ := fun hm => absurd (R.lt hm) (Nat.lt_irrefl _)
      have R2 := R1.adopt (a := s.heap.objs.size) (o := .tup [.int (.lit (.ofNat k)), v]) hnρ (R.low O) ⟨[.int k s.toks, val], ⟨_, htup⟩, .cons (.int _ (by simp [SI.rel])) (.cons k2.app .nil), by simp⟩
      refine h1 _ _ eq _ _ (.ref s.heap.objs.size) R2 (x1.adopt (none_at _)) (push_own (s := { s with heap := h', toks := s.toks + 1 }) R1 _) ?_
      have nn : s.heap.objs.size ∉ its := fun hm => by obtain ⟨o, g⟩ := I.live _ hm; exact absurd (Heap.lt_size g) (Nat.lt_irrefl _)
      have out' : ∀ b ∈ its, b ∉ ρ ++ [s.heap.objs.size] ∧ C.h₁.objs.size ≤ b := fun b hb => ⟨fun hm => by
        rcases List.mem_append.mp hm with z | z
        · exact (I.out b hb).1 z
        · simp at z; exact nn (z ▸ hb), (I.out b hb).2⟩
      intro Q2 hQ
      ((refine x3a1 (ht rfl) (fun ts b1 b2 qr1 => ?_)); subst qr1)
      have he2 : IsEnumOut h' it li (((k + 1 : Nat) : Int)) val s.heap.objs.size := by
        have e1 : (k : Int) + 1 = ((k + 1 : Nat) : Int) := by push_cast; rfl
        rw [← e1]; exact he'
      refine wpAny_letOwnedTupleGo_enum he2 fun h2 he3 hs => ?_
      have hin : it ∈ its := I.self
      have R3 : Rel C (ρ ++ [s.heap.objs.size]) (σ ++ [.tup [.int (.lit (.ofNat k)), v]]) h2 := R2.beside (s := { s with heap := h', toks := s.toks + 1 }) out' fun b o hb e => (hs.2 b (no b hb).1).trans e
      refine hQ { s with heap := h2, toks := s.toks + 1 } R3 (Ext.but (t := s.toks + 1) (s := { s with heap := h', toks := s.toks + 1 }) fun b o hb e => (hs.2 b (no b hb).1).trans e) ⟨hin, out', fun b hb => ?_, a, at_app ea, li, val, q, hne, he3, hit'.extBut hs.extBut (Ne.symm hne)⟩
      rw [q] at hb
      simp at hb
      rcases hb with rfl | rfl
      · exact ⟨_, he3⟩
      · ((refine x1a2 (hit') (fun o g _ => ?_)))
        exact ⟨o, (hs.2 _ (Ne.symm hne)).trans g⟩
    · exact x1a2 (R.objs _ _ _ (atList ex) ea) fun vs g f => wpAny_pyNext_enum_end hh he hit g.isList (past_arr f ev) fun h' hs =>
        h0 eq _ (R.beside I.out fun b o hb e => hs b o (no b hb).2 e) (Ext.but (t := s.toks) fun b o hb e => hs b o (no b hb).2 e)
end
end Mine
-- M49
namespace Mine
open PySem PySem.W PySem.Calls PyProof.Rows PyProof PyProof.V PySem.SeqAt
noncomputable def SW (C : Cx) (d : Nat) (f : Expr → List Stmt → List (Str × NameKind) → Loc → AS → Option (Fl × Loc × AS)) : Prop :=
  ∀ {A : Around} {env : Env} {ns : List (Str × NameKind)} {l : Loc} {ρ : List Addr} {σ : AS} {s : Shared} {t : Expr} {b : List Stmt} {fl : Fl} {l' : Loc} {σ' : AS} {Q : Flow → Shared → Prop}, f t b ns l σ = some (fl, l', σ') → Room A d → Rel C ρ σ s.heap → FrameOk C env ns ρ l s.heap →
    (∀ ρ' s' fv, Rel C ρ' σ' s'.heap → Ext (FX env ns) ρ s ρ' s' → FrameOk C env ns ρ' l' s'.heap → FlRel C ρ' fl fv → Q fv s') → CG C.M A (.whileLoop t b [] env) Q s
noncomputable def Apart (env : Env) (ns : List (Str × NameKind)) (its : List Addr) : Prop := ∀ b ∈ its, b ≠ env.locals ∧ ∀ y, lk ns y = some .cell ∨ lk ns y = some .free → env.cells.lookup y ≠ some b
noncomputable def FI (env : Env) (ns : List (Str × NameKind)) (its : List Addr) : Addr → Prop := fun b => FX env ns b ∨ b ∈ its
noncomputable def SF (C : Cx) (d : Nat) (f : Expr → AV → SKd → Nat → List Stmt → List (Str × NameKind) → Loc → AS → Option (Fl × Loc × AS)) : Prop :=
  ∀ {A : Around} {env : Env} {ns : List (Str × NameKind)} {l : Loc} {ρ : List Addr} {σ : AS} {s : Shared} {t : Expr} {i : Nat} {kd : SKd} {k : Nat} {it : Addr} {its : List Addr} {b : List Stmt} {fl : Fl} {l' : Loc} {σ' : AS} {Q : Flow → Shared → Prop}, f t (.own i) kd k b ns l σ = some (fl, l', σ') → Room A d → Rel C ρ σ s.heap → FrameOk C env ns ρ l s.heap →
    ItAt C ρ kd i k it its s.heap → Apart env ns its → (kd = .enum → ∃ ts a b, t = .Tuple ts a b) →
    (∀ ρ' s' fv, Rel C ρ' σ' s'.heap → Ext (FI env ns its) ρ s ρ' s' → FrameOk C env ns ρ' l' s'.heap → FlRel C ρ' fl fv → Q fv s') → CG C.M A (.forLoop t (.ref it) b [] env) Q s
section
variable {C : Cx} {A : Around} {s : Shared} {ρ ρ' : List Addr} {σ σ' : AS} {env : Env} {ns : List (Str × NameKind)} {l l' : Loc} {d : Nat} {r : Run} {fl : Fl} {Q : Flow → Shared → Prop} {t : Expr} {b : List Stmt} {its : List Addr}
theorem Apart.off (h : Apart env ns its) : ∀ b ∈ its, ¬ FX env ns b := fun b hb q => by
  rcases q with q | ⟨x, hk, q⟩
  · exact (h b hb).1 q
  · exact (h b hb).2 x (.inl hk) q
theorem g_while {test : Expr} {body : List Stmt}
    (h : G C.M A (isTrue test env (eval test env)) (fun c s₁ => if c then G C.M A (execs body env) (fun f s₂ => match f with
        | .next | .cont => CG C.M A (.whileLoop test body [] env) Q s₂
        | .brk => Q .next s₂
        | .ret v => Q (.ret v) s₂) s₁ else Q .next s₁) s) : CG C.M A (.whileLoop test body [] env) Q s := by
  refine CG.tree ?_
  show G _ A ((whileTurn test body [] env).onRaise (fun x => do noteFrame x env; theTreesLotGoes x)) _ s
  refine G.onRaise ?_
  unfold whileTurn
  refine G.bind (G.mono h fun c s₁ h₁ => ?_)
  cases c with
  | true =>
    rw [if_pos rfl] at h₁ ⊢
    refine G.bind (G.mono h₁ fun f s₂ h₂ => ?_)
    cases f with
    | next => exact G.pure ⟨rfl, rfl, h₂⟩
    | cont => exact G.pure ⟨rfl, rfl, h₂⟩
    | brk => exact G.pure h₂
    | ret v => exact G.pure h₂
  | false =>
    rw [if_neg (by decide)] at h₁ ⊢
    exact G.bind (G.pure (G.pure h₁))
theorem g_for {target : Expr} {it : Value} {body : List Stmt}
    (turn : G C.M A (pyNext it) (fun r s₁ => match r with
      | none => Q .next s₁
      | some v => G C.M A (letOwnedTupleGo target it v) (fun _ s₁' => G C.M A (assign target env v) (fun _ s₂ => G C.M A (execs body env) (fun f s₃ => match f with
          | .next | .cont => CG C.M A (.forLoop target it body [] env) Q s₃
          | .brk => Q .next s₃
          | .ret v => Q (.ret v) s₃) s₂) s₁') s₁) s) : CG C.M A (.forLoop target it body [] env) Q s := by
  refine CG.tree ?_
  show G _ A ((forTurn target it body [] env).onRaise (fun x => do noteFrame x env; theTreesLotGoes x)) _ s
  refine G.onRaise ?_
  simp only [forTurn]
  refine G.bind (G.standAt (G.bind (G.onRaise (G.mono turn fun r s₁ h₁ => ?_))))
  cases r with
  | none =>
    refine G.pure ⟨rfl, rfl, CG.tree ?_⟩
    show G _ A (do return Fin.done (← (execs [] env).onRaise (fun x => do noteFrame x env; theTreesLotGoes x))) _ s₁
    exact G.bind (G.onRaise (G.pure (G.pure h₁)))
  | some v =>
    refine G.bind (G.mono h₁ fun _ s₁' h₁' => G.bind (G.mono h₁' fun _ s₂ h₂ => G.bind (G.mono h₂ fun f s₃ h₃ => ?_)))
    cases f with
    | next => exact G.pure ⟨rfl, rfl, h₃⟩
    | cont => exact G.pure ⟨rfl, rfl, h₃⟩
    | brk => exact G.pure h₃
    | ret v => exact G.pure h₃
theorem W_sound (hT : ST C d r.T) (hX : SX C d r.X) (hW : SW C d r.W) : SW C (d + 1) (stepW C.B C.T r) := by
  intro A env ns l ρ σ s t b fl l' σ' Q e rm R F h
  have w : ∀ b, NoX b → FX env ns b := fun b q => q.elim
  unfold stepW at e
  split at e
  · rename_i σ1 e1
    refine g_while (hT e1 rm.low R F fun ρ1 s1 R1 x1 => ?_)
    rw [if_pos rfl]
    have F1 := F.extE x1
    have x1 := x1.weaken w
    split at e
    · rename_i l1 σ2 e2
      refine evS_sound hX rm.low e2 R1 F1 fun ρ2 s2 fv R2 x2 F2 h2 => ?_
      cases h2
      exact hW e rm.low R2 F2 fun ρ3 s3 fv R3 x3 F3 h3 => h _ _ _ R3 ((x1.trans x2).trans x3) F3 h3
    · rename_i l1 σ2 e2
      refine evS_sound hX rm.low e2 R1 F1 fun ρ2 s2 fv R2 x2 F2 h2 => ?_
      cases h2
      exact hW e rm.low R2 F2 fun ρ3 s3 fv R3 x3 F3 h3 => h _ _ _ R3 ((x1.trans x2).trans x3) F3 h3
    · rename_i v l1 σ2 e2
      (revert h; apply q3 e; intro h)
      refine evS_sound hX rm.low e2 R1 F1 fun ρ2 s2 fv R2 x2 F2 h2 => ?_
      have go := h _ _ _ R2 (x1.trans x2) F2 h2
      cases h2
      exact go
    · exact qN e
  · rename_i σ1 e1
    (revert h; apply q3 e; intro h)
    refine g_while (hT e1 rm.low R F fun ρ1 s1 R1 x1 => ?_)
    rw [if_neg (by decide)]
    exact h _ _ _ R1 (x1.weaken w) (F.extE x1) .next
  · exact qN e
theorem F_sound (O : Ok C) (hX : SX C d r.X) (hF : SF C d r.F) : SF C (d + 1) (stepF C.B C.T r) := by
  intro A env ns l ρ σ s t i kd k it its b fl l' σ' Q e rm R F I Ap ht h
  have w1 : ∀ b, (b ∈ its) → FI env ns its b := fun b q => .inr q
  have w2 : ∀ b, FX env ns b → FI env ns its b := fun b q => .inl q
  unfold stepF at e
  split at e
  · rename_i e1
    (revert h; apply q3 e; intro h)
    refine g_for (G.of (next_sound O R rm.2.2 I ht e1 (fun _ s1 R1 x1 => ?_) fun v σ1 q => by cases q))
    exact h _ _ _ R1 (x1.weaken w1) (F.ext x1 (fun b hb => Ap b hb)) .next
  · rename_i v σ1 e1
    refine g_for (G.of (next_sound O R rm.2.2 I ht e1 (fun q => by cases q) fun v' σ1' q ρ1 s1 val R1 x1 h1 D1 => ?_))
    cases q
    have F1 := F.ext x1 fun b hb => Ap b hb
    have y1 : Ext (FI env ns its) ρ s ρ1 s1 := x1.weaken w1
    split at e
    · rename_i l1 ea
      have body : ∀ {l2 : Loc} {σ2 : AS} {fl2 : Fl} {K : Flow → Shared → Prop}, evS (fun s l σ => r.X s ns l σ) b l1 σ1 = some (fl2, l2, σ2) →
          (∀ ρ' s' fv, Rel C ρ' σ2 s'.heap → Ext (FI env ns its) ρ s ρ' s' → FrameOk C env ns ρ' l2 s'.heap → ItAt C ρ' kd i (k + 1) it its s'.heap → FlRel C ρ' fl2 fv → K fv s') →
          G C.M A (letOwnedTupleGo t (.ref it) val) (fun _ s₁' => G C.M A (assign t env val) (fun _ s₂ => G C.M A (execs b env) K s₂) s₁') s1 := fun e2 hk => by
        refine G.of (D1 _ fun s2 R2 x2 I2 => ?_)
        have F2 := F1.ext x2 fun b hb => Ap b hb
        refine G.of (assign_sound R2 F2 rm.2.2 ea (x2.v h1) fun s3 R3 x3 F3 => ?_)
        have I3 := I2.ext x3 Ap.off
        refine evS_sound hX rm.low e2 R3 F3 fun ρ4 s4 fv R4 x4 F4 h4 => ?_
        exact hk _ _ _ R4 (((y1.trans (x2.weaken w1)).trans (x3.weaken w2)).trans (x4.weaken w2)) F4 (I3.ext x4 Ap.off) h4
      split at e
      · rename_i l2 σ2 e2
        refine body e2 fun ρ4 s4 fv R4 x4 F4 I4 h4 => ?_
        cases h4
        exact hF e rm.low R4 F4 I4 Ap ht fun ρ5 s5 fv R5 x5 F5 h5 => h _ _ _ R5 (x4.trans x5) F5 h5
      · rename_i l2 σ2 e2
        refine body e2 fun ρ4 s4 fv R4 x4 F4 I4 h4 => ?_
        cases h4
        exact hF e rm.low R4 F4 I4 Ap ht fun ρ5 s5 fv R5 x5 F5 h5 => h _ _ _ R5 (x4.trans x5) F5 h5
      · rename_i v2 l2 σ2 e2
        (revert h; apply q3 e; intro h)
        refine body e2 fun ρ4 s4 fv R4 x4 F4 I4 h4 => ?_
        have go := h _ _ _ R4 x4 F4 h4
        cases h4
        exact go
      · exact qN e
    · cases e
  · exact qN e
end
end Mine
-- M50
namespace Mine
open PySem PySem.W PySem.Calls PyProof.Rows PyProof PyProof.V PySem.SeqAt
/-! the turns over a dict, whatever its keys are -/
section
variable {prog : Program} {w : World} {A : Around} {E : Value → Shared → Prop} {s : Shared}
theorem raw_iter {d : Addr} {o : Obj} {es : Array DictEntry} {ep : Nat} {Q : Value → Shared → Prop} (hd : (d == sysModules) = false) (ho : s.heap.get? d = some o) (hc : o.cls = .type "dict") (hdat : o.data = .dict es ep)
    (hQ : Q (.ref s.heap.objs.size) { s with heap := s.heap.push { cls := .type "dict_keyiterator", data := .fields #[.ref d, .int 0 0, .int es.size 0, .int ep 0] } }) :
    wpAny (model prog w) A (pyIter (.ref d)) Q E s := by
  have hT : s.TypeIs (.ref d) "dict" := ⟨o, ho, hc⟩
  refine wpAny_pyIter_slot hT F.slot_dict_iter (wpAny_call_entry F.slot_dict_iter hT F.entry_dict_iter ?_ (F.args_dict_iter_1 _))
  unfold Builtin.«dict.__iter__»
  refine wpAny_bind ?_
  unfold Builtin.Dict.dictSlotNone
  refine wpAny_bind (wpAny_notOrdered_dict hT ?_)
  show wpAny _ _ (pure (Value.ref d)) _ _ s
  refine wpAny_pure ?_
  show wpAny _ _ (Builtin.Dict.showsAll d >>= _) _ _ s
  unfold Builtin.Dict.showsAll
  rw [if_neg (by rw [hd]; exact Bool.false_ne_true)]
  refine wpAny_bind (wpAny_pure ?_)
  refine wpAny_bind (wpAny_dictEntries ho hdat ?_)
  refine wpAny_bind (wpAny_dictEpoch ho hdat ?_)
  refine wpAny_bind (wpAny_newObj_type (wpAny_pure ⟨_, rfl, "dict_keyiterator", _, ⟨_, Heap.get?_push_size _ rfl, rfl⟩, F.slot_dict_keyiterator_next.lookup, ?_⟩))
  simpa [rawInt] using hQ
theorem raw_item {it d : Addr} {i ep : Nat} {od : Obj} {es : Array DictEntry} {e : DictEntry} {Q : Option Value → Shared → Prop} (hit : s.heap.IsKeyIter it d i es.size ep)
    (hod : s.heap.get? d = some od) (hdd : od.data = .dict es ep) (hx : es[i]? = some e)
    (hQ : ∀ h', h'.IsKeyIter it d (i + 1) es.size ep → Heap.SameBut it s.heap h' → Q (some e.key) { s with heap := h' }) :
    wpAny (model prog w) A (pyNext (.ref it)) Q E s := by
  ((refine x1a3 (id hit) (fun o ho hc hd => ?_)))
  unfold pyNext
  refine wpAny_bind (wpAny_attempt (wpAny_callSpecial?_slot (name := Str.ofString "__next__") hit.typeIs F.slot_dict_keyiterator_next
    (wpAny_call_entry F.slot_dict_keyiterator_next hit.typeIs F.entry_dict_keyiterator_next ?_ (F.args_dict_keyiterator_next_1 _))))
  refine wpAny_bind (wpAny_pure ?_)
  refine wpAny_bind ?_
  refine wpAny_bind ?_
  first | refine wpAny_bind (wpAny_typeNameOfWhole_keyiter hit.typeIs (wpAny_pure ?_)) | refine wpAny_bind (wpAny_typeNameOf_keyiter hit.typeIs (wpAny_pure ?_))
  refine wpAny_bind (wpAny_fieldsOf ho hd ?_)
  have hown : Builtin.Dict_items.ownsTuple "dict_keyiterator" = false := by decide
  simp only [hown, Bool.false_eq_true, if_false]
  show wpAny _ _ (if (Value.ref d == Value.none) = true then _ else _) _ _ s
  rw [if_neg (show ¬ ((Value.ref d == Value.none) = true) from Bool.false_ne_true)]
  refine wpAny_bind (wpAny_pure ?_)
  refine wpAny_bind (wpAny_dictEntries hod hdd ?_)
  rw [if_neg (by simp)]
  refine wpAny_bind (wpAny_pure ?_)
  refine wpAny_bind (wpAny_dictEpoch hod hdd ?_)
  rw [if_neg (by simp)]
  refine wpAny_pure ?_
  have hlt' : i < es.size := by
    rcases Nat.lt_or_ge i es.size with h | h
    · exact h
    · simp [Array.getElem?_eq_none h] at hx
  have he : es[i] = e := by rw [Array.getElem?_eq_getElem hlt'] at hx; exact Option.some.inj hx
  simp only [show ¬ ((i : Int) < 0) from by omega, if_false, Int.toNat_natCast, Array.getElem?_eq_getElem hlt']
  refine wpAny_bind ?_
  first | refine wpAny_bind (wpAny_typeNameOfWhole_keyiter hit.typeIs (wpAny_pure ?_)) | refine wpAny_bind (wpAny_typeNameOf_keyiter hit.typeIs (wpAny_pure ?_))
  refine wpAny_bind (wpAny_isOneOf_keyiter hit.typeIs ?_)
  show wpAny _ _ (PySem.setField (.ref it) 1 (rawInt ((i : Int) + 1)) >>= _) _ _ s
  refine wpAny_bind (wpAny_setField ho hd (by simp) ?_)
  have hit' : (s.heap.update it (Obj.mapFields (·.setIfInBounds 1 (rawInt ((i : Int) + 1))))).IsKeyIter it d (i + 1) es.size ep :=
    ⟨_, Heap.get?_update_self _ ho (Obj.isFreed_of_fields (Obj.data_mapFields hd _)), (Obj.cls_mapFields ..).trans hc, by rw [Obj.data_mapFields hd]; simp [rawInt]⟩
  refine wpAny_bind (wpAny_holding ?_)
  refine wpAny_bind (wpAny_isOneOf_keyiter (s := { s with heap := s.heap.update it (Obj.mapFields (·.setIfInBounds 1 (rawInt ((i : Int) + 1)))) }) hit'.typeIs ?_)
  show wpAny _ _ (pure es[i].key) _ _ _
  rw [he]
  exact wpAny_pure (wpAny_pure ⟨_, rfl, wpAny_pure (hQ _ hit' (Heap.SameBut.update ..))⟩)
theorem raw_end {it d : Addr} {i ep : Nat} {od : Obj} {es : Array DictEntry} {Q : Option Value → Shared → Prop} (hh : A.handled = none) (hit : s.heap.IsKeyIter it d i es.size ep)
    (hod : s.heap.get? d = some od) (hdd : od.data = .dict es ep) (hx : es[i]? = none)
    (hQ : ∀ h', Heap.ExtBut it s.heap h' → Q none { s with heap := h' }) : wpAny (model prog w) A (pyNext (.ref it)) Q E s := by
  ((refine x1a3 (id hit) (fun o ho hc hd => ?_)))
  unfold pyNext
  refine wpAny_bind (wpAny_attempt (wpAny_callSpecial?_slot (name := Str.ofString "__next__") hit.typeIs F.slot_dict_keyiterator_next
    (wpAny_call_entry F.slot_dict_keyiterator_next hit.typeIs F.entry_dict_keyiterator_next ?_ (F.args_dict_keyiterator_next_1 _))))
  refine wpAny_bind (wpAny_pure ?_)
  refine wpAny_bind ?_
  refine wpAny_bind ?_
  first | refine wpAny_bind (wpAny_typeNameOfWhole_keyiter hit.typeIs (wpAny_pure ?_)) | refine wpAny_bind (wpAny_typeNameOf_keyiter hit.typeIs (wpAny_pure ?_))
  refine wpAny_bind (wpAny_fieldsOf ho hd ?_)
  have hown : Builtin.Dict_items.ownsTuple "dict_keyiterator" = false := by decide
  simp only [hown, Bool.false_eq_true, if_false]
  show wpAny _ _ (if (Value.ref d == Value.none) = true then _ else _) _ _ s
  rw [if_neg (show ¬ ((Value.ref d == Value.none) = true) from Bool.false_ne_true)]
  refine wpAny_bind (wpAny_pure ?_)
  refine wpAny_bind (wpAny_dictEntries hod hdd ?_)
  rw [if_neg (by simp)]
  refine wpAny_bind (wpAny_pure ?_)
  refine wpAny_bind (wpAny_dictEpoch hod hdd ?_)
  rw [if_neg (by simp)]
  refine wpAny_pure ?_
  have hge : es.size ≤ i := by simpa using hx
  simp only [show ¬ ((i : Int) < 0) from by omega, if_false, Int.toNat_natCast, Array.getElem?_eq_none hge]
  refine wpAny_bind ?_
  first | refine wpAny_bind (wpAny_typeNameOfWhole_keyiter hit.typeIs (wpAny_pure ?_)) | refine wpAny_bind (wpAny_typeNameOf_keyiter hit.typeIs (wpAny_pure ?_))
  show wpAny _ _ (PySem.setField (.ref it) 0 .none >>= _) _ _ s
  refine wpAny_bind (wpAny_setField ho hd (by simp) ?_)
  show wpAny _ _ (newExc (.type "StopIteration") [] >>= _) _ _ _
  refine wpAny_bind ?_
  simp only [newExc, newTuple]
  refine wpAny_bind (wpAny_newObj_type ?_ (by size_fits))
  refine wpAny_bind (m := firstArgMember _ _) (wpAny_of_eq (a := Value.none) (by first | rfl | (simp only [firstArgMember]; rfl)) ?_)
  refine wpAny_newObj_type ?_ (by size_fits)
  simp only [raiseNew]
  refine wpAny_bind (wpAny_handled ?_)
  rw [show A.in1.handled = none from hh]
  refine wpAny_bind (wpAny_pure (wpAny_throw ?_))
  refine wpAny_bind (wpAny_isInstance (T := "StopIteration") (b := true) ⟨_, Heap.get?_push_size _ rfl, rfl⟩ isSubtype_stop ?_)
  exact wpAny_pure (hQ _ (((Heap.SameBut.update ..).extBut.push _).push _))
theorem keyiter_again {it d : Addr} {i n ep : Nat} {Q : Value → Shared → Prop} (hit : s.heap.IsKeyIter it d i n ep) (h : Q (.ref it) s) : wpAny (model prog w) A (pyIter (.ref it)) Q E s :=
  wpAny_pyIter_keyiter hit h
end
end Mine
-- M51
namespace Mine
open PySem PySem.W PySem.Calls PyProof.Rows PyProof PyProof.V PySem.SeqAt
section
variable {C : Cx} {A : Around} {s : Shared} {ρ ρ' : List Addr} {σ σ' : AS} {env : Env} {ns : List (Str × NameKind)} {l l' : Loc} {d : Nat} {r : Run} {fl : Fl} {t : Expr} {b : List Stmt} {its : List Addr}
theorem apart_of (F : FrameOk C env ns ρ l s.heap) (fresh : ∀ b ∈ its, s.heap.get? b = none) : Apart env ns its := fun b hb => by
  refine ⟨fun q => ?_, fun y hy q => ?_⟩
  · ((refine x1a2 (F.loc) (fun m hm _ => ?_)))
    ((refine x1a1 (ns_at hm) (fun o g => ?_)))
    have := fresh b hb
    rw [q, g] at this; cases this
  · ((refine x2a3 (F.cell y hy) (fun c v₀ h1 qt1 _ => ?_)); (refine x1a2 (qt1) (fun o g _ => ?_)))
    rw [q] at h1
    cases h1
    have := fresh b hb
    rw [g] at this; cases this
theorem rng_size (n : Nat) : Builtin.Range.rangeSize 0 n 1 = n := by
  unfold Builtin.Range.rangeSize
  simp
  omega
theorem rng_small {n : Nat} (h : n < 4096) : Builtin.Range.small 0 n 1 = true := by
  have h1 := rng_size n
  unfold Builtin.Range.small Builtin.Range.rangeFitsLong
  rw [h1]
  have a1 : (-(2:Int)^63 ≤ 0) := by decide
  simp
  omega
theorem folded_off {it : Expr} {x : Value} (hn : notSet it = true) : foldedSetIterable it env x = pure x := by
  cases it with
  | Set => exact qFT hn
  | _ => rfl
theorem g_For {it : Expr} {p : Pos} {Q : Flow → Shared → Prop} (hn : notSet it = true) (h : G C.M A (eval it env) (fun x s₁ => G C.M A (pyIter x) (fun iv s₂ => CG C.M A (.forLoop t iv b [] env) Q s₂) s₁) s) : G C.M A (exec (.For t it b [] p) env) Q s := by
  rw [exec_For]
  refine G.bind (G.standAt (G.bind (G.mono h fun x s1 h1 => ?_)))
  have e : foldedSetIterable it env x = pure x := folded_off hn
  exact G.bind (G.eq e (G.bind (G.standAt (G.bind (G.holding (G.mono h1 fun iv s2 h2 => G.runOwn rfl h2))))))
theorem fresh_none (s : Shared) : s.heap.get? s.heap.objs.size = none := none_at _
theorem kindC {o : AO} {kd : SKd} {P : AO → SKd → Prop} (e : kindOfO o = some kd) (k1 : ∀ xs, P (.list xs) .list) (k2 : ∀ xs, P (.tup xs) .tup) (k3 : ∀ n, Nat.blt n 4096 = true → P (.rng n) (.rng n)) : P o kd := by
  cases o with
  | list xs => exact q1 (P := P _) e (k1 xs)
  | tup xs => exact q1 (P := P _) e (k2 xs)
  | rng n => exact whenC e fun h e => q1 (P := P _) e (k3 n h)
  | _ => exact qN e
theorem kind_list {o : AO} (e : kindOfO o = some .list) : ∃ xs, o = .list xs :=
  kindC (P := fun o kd => kd = .list → ∃ xs, o = .list xs) e (fun xs _ => ⟨xs, rfl⟩) (fun xs h => nomatch h) (fun n _ h => nomatch h) rfl
theorem vOwn_is {a : AV} {i : Nat} (e : vOwn a = some i) : a = .own i := by
  cases a with
  | own j => exact congrArg AV.own (Option.some.inj e)
  | _ => exact qN e
theorem single {α : Type} {x b : α} {P : α → Prop} (h : b ∈ [x]) (k : P x) : P b := List.mem_singleton.mp h ▸ k
/-- an iterator is made -/
theorem iter_sound (O : Ok C) (R : Rel C ρ σ s.heap) {src : AV} {val : Value} {kd : SKd} (h1 : VRel C ρ src val) (e : kindOfSrc σ src = some kd) {Q : Value → Shared → Prop}
    (h : ∀ i it s', src = .own i → kd ≠ .enum → Rel C ρ σ s'.heap → Ext NoX ρ s ρ s' → s.heap.get? it = none → ItAt C ρ kd i 0 it [it] s'.heap → Q (.ref it) s') : wpAny C.M A (pyIter val) Q NoE s := by
  refine thenC e fun i e1 e => h1.rOwn (P := fun val => wpAny C.M A (pyIter val) Q NoE s) e1 fun a ea => thenC e fun o ex e => ?_
  have out : ∀ b ∈ [s.heap.objs.size], b ∉ ρ ∧ C.h₁.objs.size ≤ b := fun b hb => single (P := fun b => b ∉ ρ ∧ C.h₁.objs.size ≤ b) hb ⟨fun hm => absurd (R.lt hm) (Nat.lt_irrefl _), R.low O⟩
  have live : ∀ {o : Obj}, o.isFreed = false → ∀ b ∈ [s.heap.objs.size], ∃ o', (s.heap.push o).get? b = some o' := fun {o} hf b hb => single (P := fun b => ∃ o', (s.heap.push o).get? b = some o') hb ⟨_, Heap.get?_push_size _ hf⟩
  have go : ∀ {o : Obj}, kd ≠ .enum → ItAt C ρ kd i 0 s.heap.objs.size [s.heap.objs.size] (s.heap.push o) → Q (.ref s.heap.objs.size) { s with heap := s.heap.push o } := fun hk I =>
    h i _ _ (vOwn_is e1) hk (R.keeps (push_keeps _ _)) (Ext.kept (t := s.toks) (push_keeps _ _)) (fresh_none s) I
  clear h
  revert go ex
  refine kindC (P := fun o kd => at? σ i = some o → (∀ {o : Obj}, kd ≠ .enum → ItAt C ρ kd i 0 s.heap.objs.size [s.heap.objs.size] (s.heap.push o) → Q (.ref s.heap.objs.size) { s with heap := s.heap.push o }) → wpAny C.M A (pyIter (.ref a)) Q NoE s) e (fun xs ex go => ?_) (fun xs ex go => ?_) fun n hn ex go => ?_
  · exact x1a2 (R.objs _ _ _ ex ea) fun vs g f => wpAny_pyIter_list g.isList (go (fun z => nomatch z) ⟨List.mem_singleton.mpr rfl, out, live rfl, a, ea, ⟨_, Heap.get?_push_size _ rfl, rfl, rfl⟩, rfl⟩)
  · exact x1a3 (R.objs _ _ _ ex ea) fun vs g f _ => wpAny_pyIter_tuple (tup_is g) (go (fun z => nomatch z) ⟨List.mem_singleton.mpr rfl, out, live rfl, a, ea, ⟨_, Heap.get?_push_size _ rfl, rfl, rfl⟩, rfl⟩)
  · refine x3a1 (R.objs _ _ _ ex ea) fun t' u v g => wpAny_pyIter_range g (rng_small (Nat.le_of_ble_eq_true hn)) (go (fun z => nomatch z) ⟨List.mem_singleton.mpr rfl, out, live rfl, a, ea, ?_, rfl⟩)
    rw [rng_size]
    simpa [rawInt, IsRangeIter] using Heap.get?_push_size s.heap (o := { cls := .type "range_iterator", data := .fields #[rawInt 0, rawInt n, rawInt 1] }) rfl

/-- the loop over what is made so -/
theorem loop_sound (O : Ok C) (hF : SF C d r.F) (rm : Room A d) (R : Rel C ρ σ s.heap) (F : FrameOk C env ns ρ l s.heap) {src : AV} {val : Value} {kd : SKd} (h1 : VRel C ρ src val) (e : kindOfSrc σ src = some kd)
    (ev : r.F t src kd 0 b ns l σ = some (fl, l', σ')) {Q : Flow → Shared → Prop}
    (h : ∀ ρ' s' fv, Rel C ρ' σ' s'.heap → Ext (FX env ns) ρ s ρ' s' → FrameOk C env ns ρ' l' s'.heap → FlRel C ρ' fl fv → Q fv s') : G C.M A (pyIter val) (fun iv s₂ => CG C.M A (.forLoop t iv b [] env) Q s₂) s := by
  refine G.of (iter_sound O R h1 e fun i it s2 q hk R2 x2 hf I => ?_)
  subst q
  have fr : ∀ b ∈ [it], s.heap.get? b = none := fun b hb => by obtain rfl := List.mem_singleton.mp hb; exact hf
  refine hF ev rm R2 (F.extE x2) I (apart_of F fr) (fun q => absurd q hk) fun ρ3 s3 fv R3 x3 F3 h3 => h ρ3 s3 fv R3 ?_ F3 h3
  refine Ext.fresh ((x2.weaken fun b q => q.elim).trans x3) fun b hb => ?_
  rcases hb with q | q
  · exact .inl q
  · exact .inr (fr b q)
theorem enum_sound (S : Stat C) (O : Ok C) (hE : SE C d r.E) (hF : SF C d r.F) (rm : Room A d) {f : Str} {e : Expr} {p p' : Pos} (hn : seq f "enumerate" = true) (hk : lk ns f = some .globalImplicit) (hst : starred e = false) (R : Rel C ρ σ s.heap) (F : FrameOk C env ns ρ l s.heap)
    {src : AV} {σ1 : AS} (e1 : r.E e ns l σ = some (src, σ1)) (ek : kindOfSrc σ1 src = some .list) (ht : ∃ ts a b, t = .Tuple ts a b)
    (ev : r.F t src .enum 0 b ns l σ1 = some (fl, l', σ')) {Q : Flow → Shared → Prop}
    (h : ∀ ρ' s' fv, Rel C ρ' σ' s'.heap → Ext (FX env ns) ρ s ρ' s' → FrameOk C env ns ρ' l' s'.heap → FlRel C ρ' fl fv → Q fv s') : G C.M A (eval (.Call (.Name f p') [e] [] p) env) (fun x s₁ => G C.M A (pyIter x) (fun iv s₂ => CG C.M A (.forLoop t iv b [] env) Q s₂) s₁) s := by
  have hf : f = "enumerate" := seq_name hn
  have ev' : eval (.Call (.Name f p') [e] [] p) env = (do callWith p (← eval (.Name f p') env) [] (backTo p (starEach [e] env)) (backToKw p (keywordEach [] env))) := rfl
  rw [ev']
  ((refine x2a5 (S.glob) (fun mg mb g1 g2 _ g4 g5 => ?_)))
  have n1 : s.heap.Ns env.globals mg := by rw [F.gl]; exact Ns.base g1 R.base
  have n2 : s.heap.Ns env.builtins mb := by rw [F.bl]; exact Ns.base g2 R.base
  have hkq : lk env.scope.names f = some .globalImplicit := by
    rcases F.names f with q | ⟨_, q⟩
    · rw [q, hk]
    · rw [hk] at q; cases q
  have ld : ∀ {Q : Value → Shared → Prop}, Q (.type "enumerate") s → wpAny C.M A (loadName env f) Q NoE s := fun {Q} hq => by
    have go : wpAny C.M A (loadGlobal env f) Q NoE s := by
      subst hf
      exact loadGlobal_builtin n1 g4 n2 g5 hq
    unfold loadName
    simp only [Env.blockKind, F.kind, look_eq, hkq, ScopeKind.isAnnotationScope, Bool.false_and, Bool.false_eq_true, if_false]
    exact go
  refine G.bind (G.of (wpAny_Name (ld ?_) (F.fine f _ hk).1))
  have e2 : evL (fun e σ => r.E e ns l σ) [e] σ = some ([src], σ1) := by
    unfold evL
    rw [hst]
    dsimp only
    rw [e1]
    rfl
  refine g_callWith (noStar e2) (evL_sound hE rm e2 R F fun ρ2 s2 vals R2 x2 h2 => ⟨⟨.machine, .inr rfl, .now⟩, ?_⟩)
  cases h2 with
  | cons h2 h2' =>
    cases h2'
    rename_i val
    refine thenC ek fun i ei ek => h2.rOwn (P := fun val => G C.M A (call _ [val]) _ s2) ei fun a ea => thenC ek fun o ex ek => ?_
    obtain ⟨xs, eo⟩ := kind_list ek
    subst eo
    have es := vOwn_is ei
    subst es
    ((refine x1a2 (R2.objs _ _ _ ex ea) (fun vs g f' => ?_)))
    refine G.of (call_enumerate_list g.isList fun h' he hit hsz hk' => ?_)
    have R3 : Rel C ρ2 σ1 h' := R2.keeps hk'
    have x3 : Ext NoX ρ2 s2 ρ2 { s2 with heap := h' } := Ext.kept (t := s2.toks) hk'
    refine G.of (wpAny_pyIter_enum (s := { s2 with heap := h' }) he ?_)
    have fr : ∀ b ∈ [s2.heap.objs.size + 1, s2.heap.objs.size], s2.heap.get? b = none := fun b hb => by
      simp at hb
      rcases hb with rfl | rfl
      · cases z : s2.heap.get? (s2.heap.objs.size + 1) with
        | none => rfl
        | some o => exact absurd (Heap.lt_size z) (Nat.not_lt.mpr (Nat.le_succ _))
      · exact none_at _
    have F2 := F.extE x2
    have I : ItAt C ρ2 .enum i 0 (s2.heap.objs.size + 1) [s2.heap.objs.size + 1, s2.heap.objs.size] h' := by
      refine ⟨by simp, fun b hb => ?_, fun b hb => ?_, a, ea, s2.heap.objs.size, .none, rfl, Nat.succ_ne_self _, he, hit⟩
      · have hlo := R2.low O
        refine ⟨fun hm => ?_, ?_⟩
        · ((refine x1a1 (R2.at_heap hm) (fun o g => ?_)))
          rw [fr b hb] at g; cases g
        · simp at hb
          rcases hb with rfl | rfl
          · exact Nat.le_succ_of_le hlo
          · exact hlo
      · simp at hb
        rcases hb with rfl | rfl
        · exact ⟨_, he⟩
        · ((refine x1a2 (hit) (fun o g _ => ?_))); exact ⟨o, g⟩
    refine hF ev rm (s := { s2 with heap := h' }) R3 (F2.extE x3) I (apart_of F2 fr) (fun _ => ht) fun ρ4 s4 fv R4 x4 F4 h4 => h ρ4 s4 fv R4 ?_ F4 h4
    refine (x2.weaken fun b q => q.elim).trans (Ext.fresh ((x3.weaken fun b q => q.elim).trans x4) fun b hb => ?_)
    rcases hb with q | q
    · exact .inl q
    · exact .inr (fr b q)
end
end Mine
-- M52
namespace Mine
open PySem PySem.W PySem.Calls PyProof.Rows PyProof PyProof.V PySem.SeqAt
section
variable {C : Cx} {A : Around} {s : Shared} {ρ ρ' : List Addr} {σ σ' : AS} {env : Env} {ns : List (Str × NameKind)} {l l' : Loc} {d : Nat} {r : Run} {fl : Fl} {t : Expr} {b : List Stmt} {its : List Addr}
/-! what asks for no call -/
/-- what is to be shown of an expression without calls -/
noncomputable def PureOk (C : Cx) (A : Around) (env : Env) (ns : List (Str × NameKind)) (l : Loc) (σ : AS) (ρ : List Addr) (s : Shared) (e : Expr) : Prop := ∀ {v : AV} {k : Nat} {Q : Value → Shared → Prop}, pureV ns l σ e = some v → (∀ t val, VRel C ρ v val → Q val { s with toks := t }) → G C.M A (eval e env) Q { s with toks := k }
theorem pure_sub (O : Ok C) (R : Rel C ρ σ s.heap) (hu : A.units + 70 < cLine) {o i : Expr} {p : Pos} (h1 : PureOk C A env ns l σ ρ s o) (h2 : PureOk C A env ns l σ ρ s i) : PureOk C A env ns l σ ρ s (.Subscript o i p) := by
  intro v k Q ev h
  have ev := (qIfN (b := isSlice i) ev).2
  cases ea : pureV ns l σ o with
  | none => rw [ea] at ev; exact qN ev
  | some a =>
    rw [ea] at ev
    cases eb : pureV ns l σ i with
    | none => rw [eb] at ev; exact qN ev
    | some b =>
      rw [eb] at ev
      exact g_Subscript (h1 ea fun t1 val1 k1 => h2 eb fun t2 val2 k2 => G.of (item_sound O (s := { s with toks := t2 }) R hu ev k1 k2 fun val t hv => h t val hv))
theorem pure_name (S : Stat C) (R : Rel C ρ σ s.heap) (F : FrameOk C env ns ρ l s.heap) {x : Str} {p : Pos} : PureOk C A env ns l σ ρ s (.Name x p) := by
  intro v k Q ev h
  have ev : (match lk ns x with | some .local => lk l x | some .cell => lk l x | some .free => lk l x | _ => none) = some v := ev
  have key : (match lk ns x with | some .local => lk l x | some .cell => lk l x | some .free => lk l x | some .globalImplicit => lk C.B.glob x | _ => none) = some v ∧ ∃ k, lk ns x = some k := by
    cases q : lk ns x with
    | none => rw [q] at ev; exact qN ev
    | some k =>
      rw [q] at ev
      cases k <;> first | exact ⟨ev, _, rfl⟩ | exact qN ev
  obtain ⟨k1, k', k2⟩ := key
  exact G.of (wpAny_Name (name_sound S (s := { s with toks := k }) R F k1 fun val hv => h k val hv) (F.fine x k' k2).1)
theorem pure_const {c : Const} {d : Nat} {p : Pos} : PureOk C A env ns l σ ρ s (.Constant c d p) := by
  intro v k Q ev h
  cases c with
  | int i => exact G.of (wpAny_mkInt (h _ _ (Option.some.inj ev ▸ .int _ (show SI.rel _ (.lit _) _ by simp [SI.rel]))))
  | _ => exact qN ev
theorem pure_no {e : Expr} (h : pureV ns l σ e = none) : PureOk C A env ns l σ ρ s e := by
  intro v k Q ev _
  exact qN (h.symm.trans ev)
theorem pure_ok (S : Stat C) (O : Ok C) (R : Rel C ρ σ s.heap) (F : FrameOk C env ns ρ l s.heap) (hu : A.units + 70 < cLine) (e : Expr) : PureOk C A env ns l σ ρ s e := by
  cases e with
  | Constant c d p => exact pure_const
  | Subscript o i p => exact pure_sub O R hu (pure_ok S O R F hu o) (pure_ok S O R F hu i)
  | Name x p => exact pure_name S R F
  | _ => exact pure_no rfl
termination_by sizeOf e
decreasing_by all_goals (subst_vars; simp; omega)
theorem pureV_sound (S : Stat C) (O : Ok C) (R : Rel C ρ σ s.heap) (F : FrameOk C env ns ρ l s.heap) (hu : A.units + 70 < cLine) (e : Expr) {v : AV} {k : Nat} {Q : Value → Shared → Prop} (ev : pureV ns l σ e = some v)
    (h : ∀ t val, VRel C ρ v val → Q val { s with toks := t }) : G C.M A (eval e env) Q { s with toks := k } := pure_ok S O R F hu e ev h
theorem pureT_sound (S : Stat C) (O : Ok C) (R : Rel C ρ σ s.heap) (F : FrameOk C env ns ρ l s.heap) (hu : A.units + 70 < cLine) {e : Expr} {b : Bool} {Q : Bool → Shared → Prop} (ev : pureT C.T ns l σ e = some b)
    (h : ∀ t, Q b { s with toks := t }) : G C.M A (isTrue e env (eval e env)) Q s := by
  unfold pureT at ev
  split at ev
  · rename_i a ops rs p
    split at ev
    · rename_i op
      split at ev
      · rename_i b'
        split at ev
        · rename_i x ex
          split at ev
          · rename_i y ey
            have hn : notSet b' = true := by cases b' <;> first | rfl | cases ey
            have e1 : isTrue (.Compare a [op] [b'] p) env (eval (.Compare a [op] [b'] p) env) = (do testChain p (← eval a env) [op] (markedEach [op] [b'] (evalEach [b'] env))) := rfl
            rw [e1]
            refine G.bind (pureV_sound (k := s.toks) S O R F hu a ex fun t1 val1 h1 => ?_)
            rw [show evalEach [b'] env = [eval b' env] from rfl, marked_one hn]
            show G C.M A (holding [val1] (eval b' env) >>= fun rv => standAt p >>= fun _ => operate [val1, rv] (compareOp op val1 rv) >>= fun c => holding [c] (truthy c)) Q _
            refine G.bind (G.holding (pureV_sound S O R F hu b' ey fun t2 val2 h2 => G.bind (G.standAt (G.bind (G.operate (G.of ?_))))))
            exact cmp_sound O (s := { s with toks := t2 }) R hu ev h1 h2 fun t => G.holding (g_truthy (h t))
          · cases ev
        · cases ev
      · cases ev
    · cases ev
  · cases ev
end
end Mine
-- M53
namespace Mine
open PySem PySem.W PySem.Calls PyProof.Rows PyProof PyProof.V PySem.SeqAt
section
variable {C : Cx} {A : Around} {s : Shared} {ρ ρ' : List Addr} {σ σ' : AS} {env : Env} {ns : List (Str × NameKind)} {l l' : Loc} {d : Nat} {r : Run} {fl : Fl} {t : Expr} {b : List Stmt} {its : List Addr}
/-- where the turns over a dict with keys on the heap stand -/
structure KeyAt (C : Cx) (ρ : List Addr) (a it k ep : Nat) (es : Array DictEntry) (h : Heap) : Prop where
  mem : a ∈ ρ
  dict : h.get? a = some { cls := .type "dict", data := .dict es ep }
  out : it ∉ ρ
  low : C.h₁.objs.size ≤ it
  iter : h.IsKeyIter it a k es.size ep
theorem KeyAt.keep {a it k ep : Nat} {es : Array DictEntry} {s' : Shared} {X : Addr → Prop} (K : KeyAt C ρ a it k ep es s.heap) (x : Ext X [] s [] s') (h1 : ¬ X a) (h2 : ¬ X it) : KeyAt C ρ a it k ep es s'.heap := by
  refine ⟨K.mem, x.keep _ _ K.dict (fun h => nomatch h) h1, K.out, K.low, ?_⟩
  ((refine x1a2 (K.iter) (fun o g q => ?_)))
  exact ⟨o, x.keep _ _ g (fun h => nomatch h) h2, q⟩
theorem key_of {κ : Type} [DecidableEq κ] {knd : HeapKind C.prog C.w κ} {key : Nat → Option κ} {kv : List (κ × Nat × AV)} {p : κ × Nat × AV} {xs : List (κ × Addr × Value)} {es : Array DictEntry} {k : Nat} (he : es.toList = xs.map (entryOfKey knd)) (K : KRel C ρ key (p :: kv) (xs.drop k)) :
    ∃ e a, es[k]? = some e ∧ e.key = .ref a ∧ at? ρ p.2.1 = some a ∧ KRel C ρ key kv (xs.drop (k + 1)) := by
  generalize hx : xs.drop k = ys at K
  cases K with
  | @cons kk i a v x l r e1 e2 e3 K' =>
    have h1 : xs[k]? = some (kk, a, x) := by
      have := congrArg (fun z => z[0]?) hx
      simpa [List.getElem?_drop] using this
    have h2 : xs.drop (k + 1) = r := by
      rw [← List.drop_drop, hx]; rfl
    refine ⟨entryOfKey knd (kk, a, x), a, ?_, rfl, e2, h2 ▸ K'⟩
    rw [← Array.getElem?_toList, he, List.getElem?_map, h1]; rfl
theorem key_end {κ : Type} [DecidableEq κ] {knd : HeapKind C.prog C.w κ} {key : Nat → Option κ} {xs : List (κ × Addr × Value)} {es : Array DictEntry} {k : Nat} (he : es.toList = xs.map (entryOfKey knd)) (K : KRel C ρ key [] (xs.drop k)) : es[k]? = none := by
  generalize hx : xs.drop k = ys at K
  cases K
  have : xs.length ≤ k := by simpa using hx
  rw [← Array.getElem?_toList, he, List.getElem?_map, List.getElem?_eq_none this]; rfl
/-- a key is drawn -/
theorem KeyAt.next (R : Rel C ρ σ s.heap) {a it k ep : Nat} {es : Array DictEntry} (K : KeyAt C ρ a it k ep es s.heap) {e : DictEntry} (hx : es[k]? = some e) {Q : Option Value → Shared → Prop}
    (h : ∀ s', Rel C ρ σ s'.heap → Ext (· = it) [] s [] s' → KeyAt C ρ a it (k + 1) ep es s'.heap → Q (some e.key) s') : wpAny C.M A (pyNext (.ref it)) Q NoE s := by
  refine raw_item K.iter K.dict rfl hx fun h' hit hs => h { s with heap := h' } ?_ (Ext.but (t := s.toks) fun b o hb e => (hs.2 b hb).trans e) ⟨K.mem, (hs.2 _ fun q => K.out (q ▸ K.mem)).trans K.dict, K.out, K.low, hit⟩
  exact R.beside (its := [it]) (fun b hb => by obtain rfl := List.mem_singleton.mp hb; exact ⟨K.out, K.low⟩) fun b o hb e => (hs.2 b fun q => hb (by simp [q])).trans e
theorem KeyAt.end (R : Rel C ρ σ s.heap) (hh : A.handled = none) {a it k ep : Nat} {es : Array DictEntry} (K : KeyAt C ρ a it k ep es s.heap) (hx : es[k]? = none) {Q : Option Value → Shared → Prop}
    (h : ∀ s', Rel C ρ σ s'.heap → Ext (· = it) [] s [] s' → Q none s') : wpAny C.M A (pyNext (.ref it)) Q NoE s := by
  refine raw_end hh K.iter K.dict rfl hx fun h' hs => h { s with heap := h' } ?_ (Ext.but (t := s.toks) fun b o hb e => hs b o hb e)
  exact R.beside (its := [it]) (fun b hb => by obtain rfl := List.mem_singleton.mp hb; exact ⟨K.out, K.low⟩) fun b o hb e => hs b o (fun q => hb (by simp [q])) e
theorem KeyAt.let_ {a it k ep : Nat} {es : Array DictEntry} (K : KeyAt C ρ a it k ep es s.heap) {v : Value} {Q : Unit → Shared → Prop} (h : Q () s) : wpAny C.M A (letOwnedTupleGo t (.ref it) v) Q NoE s := by
  ((refine x1a3 (K.iter) (fun o g hc _ => ?_)))
  exact let_plain g hc (by decide) h
theorem callOf_is {e : Expr} {q : Expr × List Expr × List Keyword} (h : callOf e = some q) : ∃ p, e = .Call q.1 q.2.1 q.2.2 p := by
  cases e with
  | Call f a ks p => cases h; exact ⟨p, rfl⟩
  | _ => exact qN h
theorem ifOf_is {e : Stmt} {q : Expr × List Stmt × List Stmt} (h : ifOf e = some q) : ∃ p, e = .If q.1 q.2.1 q.2.2 p := by
  cases e with
  | If f a ks p => cases h; exact ⟨p, rfl⟩
  | _ => exact qN h
theorem retOf_is {e : Stmt} {q : Option Expr} (h : retOf e = some q) : ∃ p, e = .Return q p := by
  cases e with
  | Return v p => cases h; exact ⟨p, rfl⟩
  | _ => exact qN h
theorem boolOf_is {e : Expr} {q : Bool} (h : boolOf e = some q) : ∃ c p, e = .Constant (.bool q) c p := by
  cases e with
  | Constant c d p =>
    cases c with
    | bool b => cases h; exact ⟨d, p, rfl⟩
    | _ => exact qN h
  | _ => exact qN h
theorem one_is {α : Type} {l : List α} {a : α} (h : one? l = some a) : l = [a] := oneC (P := fun l => l = [a]) h rfl
theorem nil_is {α : Type} {l : List α} {u : Unit} (h : nil? l = some u) : l = [] := nilC (P := fun l => l = []) h rfl
theorem oneIf_is {test : Expr} {v : Bool} (h : oneIf b = some (test, v)) : ∃ k p1 p2 p3, b = [.If test [.Return (some (.Constant (.bool v) k p1)) p2] [] p3] :=
  thenC h fun s e1 h => thenC h fun q e2 h => thenC h fun u e3 h => thenC h fun r e4 h => thenC h fun w e5 h => thenC h fun x e6 h => thenC h fun c e7 h => by
    have h := Prod.mk.inj (Option.some.inj h)
    obtain ⟨p3, z1⟩ := ifOf_is e2
    obtain ⟨p2, z2⟩ := retOf_is e5
    obtain ⟨k, p1, z3⟩ := boolOf_is e7
    exact ⟨k, p1, p2, p3, by rw [one_is e1, z1, one_is e4, z2, e6, z3, nil_is e3, h.1, h.2]⟩
theorem notin_FX (F : FrameOk C env ns ρ l s.heap) {a : Addr} (ha : a ∈ ρ) : ¬ FX env ns a := fun h => by
  rcases h with q | ⟨x, hx, hc⟩
  · exact F.outL (q ▸ ha)
  · exact (F.outC x a (.inl hx) hc).1 ha
theorem scanF_sound (S : Stat C) (O : Ok C) (hh : A.handled = none) (hu : A.units + 70 < cLine) {test : Expr} {bv : Bool} (hb : oneIf b = some (test, bv)) {a it ep : Nat} {es : Array DictEntry} {xs : List (List (List Int) × Addr × Value)} (he : es.toList = xs.map (entryOfKey (pKnd C.prog C.w))) (Ap : Apart env ns [it]) :
    ∀ {kv : List (List (List Int) × Nat × AV)} {k : Nat} {l l' : Loc} {s : Shared} {fl : Fl} {Q : Flow → Shared → Prop}, scanF C.T ns σ t test bv kv l = some (fl, l') → Rel C ρ σ s.heap → FrameOk C env ns ρ l s.heap → KeyAt C ρ a it k ep es s.heap → KRel C ρ (pkey σ) kv (xs.drop k) →
    (∀ s' fv, Rel C ρ σ s'.heap → Ext (FI env ns [it]) ρ s ρ s' → FrameOk C env ns ρ l' s'.heap → FlRel C ρ fl fv → Q fv s') → CG C.M A (.forLoop t (.ref it) b [] env) Q s
  | [], k, l, l', s, fl, Q, e, R, F, K, KR, h => by
    (revert h; apply q2 e; intro h)
    refine g_for (G.of (K.end R hh (key_end he KR) fun s1 R1 x1 => ?_))
    have x1 : Ext (· ∈ [it]) ρ s ρ s1 := x1.more.weaken fun b q => by simp [q]
    exact h s1 .next R1 (x1.weaken fun b q => .inr q) (F.ext x1 fun b hb => Ap b hb) .next
  | p :: kv, k, l, l', s, fl, Q, e, R, F, K, KR, h => by
    ((refine x2a4 (key_of he KR) (fun en ak e1 e2 e3 K' => ?_)))
    refine g_for (G.of (K.next R e1 fun s1 R1 x1 K1 => ?_))
    have y1 : Ext (· ∈ [it]) ρ s ρ s1 := x1.more.weaken fun b q => by simp [q]
    have F1 := F.ext y1 fun b hb => Ap b hb
    rw [e2]
    refine G.of (K1.let_ ?_)
    unfold scanF at e
    split at e
    · rename_i l1 ea
      refine G.of (assign_keep R1 F1 hh ea (.own e3) fun s2 R2 x2 F2 => ?_)
      have K2 := K1.keep x2 (notin_FX F1 K.mem) fun q => Ap.off it (by simp) q
      ((refine x4a1 (oneIf_is hb) (fun k' p1 p2 p3 hbe => ?_)))
      have ex : execs b env = execs [.If test [.Return (some (.Constant (.bool bv) k' p1)) p2] [] p3] env := by rw [hbe]
      have y2 : Ext (FI env ns [it]) ρ s ρ s2 := (y1.weaken fun b q => .inr q).trans (x2.more.weaken fun b q => .inl q)
      rw [ex, execs_cons, exec_If]
      split at e
      · rename_i et
        (revert h; apply q2 e; intro h)
        refine G.bind (G.bind (G.standAt (G.bind (pureT_sound S O R2 F2 hu et fun tk => ?_))))
        rw [if_pos rfl, execs_cons, exec_Return_some]
        refine G.bind (G.bind (G.standAt (G.bind (G.pure (G.pure ?_)))))
        exact G.pure (G.pure (h _ _ R2 (y2.trans (Ext.tok tk)) F2 (.ret (.bool _))))
      · rename_i et
        refine G.bind (G.bind (G.standAt (G.bind (pureT_sound S O R2 F2 hu et fun tk => ?_))))
        rw [if_neg (by decide)]
        refine G.pure (G.pure ?_)
        exact scanF_sound S O hh hu hb he Ap e R2 F2 K2 K' fun s' fv R' x' F' h' => h s' fv R' ((y2.trans (Ext.tok tk)).trans x') F' h'
      · exact qN e
    · cases e
end
end Mine
-- M54
namespace Mine
open PySem PySem.W PySem.Calls PyProof.Rows PyProof PyProof.V PySem.SeqAt
section
variable {C : Cx} {A : Around} {s : Shared} {ρ ρ' : List Addr} {σ σ' : AS} {env : Env} {ns : List (Str × NameKind)} {l l' : Loc} {d : Nat} {r : Run} {fl : Fl} {t : Expr} {b : List Stmt} {its : List Addr}
theorem not_modules (O : Ok C) (R : Rel C ρ σ s.heap) {a : Addr} (ha : a ∈ ρ) : (a == sysModules) = false := by
  have h1 := R.new a ha
  have h2 := O.low
  exact beq_eq_false_iff_ne.mpr fun q => absurd h2 (Nat.not_lt.mpr (q ▸ h1))
/-- an iterator over the keys is made -/
theorem keys_start (O : Ok C) (R : Rel C ρ σ s.heap) {a : Addr} (ha : a ∈ ρ) {es : Array DictEntry} {ep : Nat} {o : Obj} (g : s.heap.get? a = some o) (hc : o.cls = .type "dict") (hd : o.data = .dict es ep) {Q : Value → Shared → Prop}
    (h : ∀ it s', Rel C ρ σ s'.heap → Ext NoX ρ s ρ s' → s.heap.get? it = none → it ∉ ρ → C.h₁.objs.size ≤ it → s'.heap.get? a = some o → s'.heap.IsKeyIter it a 0 es.size ep → Q (.ref it) s') : wpAny C.M A (pyIter (.ref a)) Q NoE s := by
  refine raw_iter (not_modules O R ha) g hc hd (h _ _ (R.keeps (push_keeps _ _)) (Ext.kept (t := s.toks) (push_keeps _ _)) (fresh_none s) (fun hm => absurd (R.lt hm) (Nat.lt_irrefl _)) (R.low O) (push_keeps _ _ _ _ g) ?_)
  exact ⟨_, Heap.get?_push_size _ rfl, rfl, rfl⟩
theorem fresh_FI {X : Addr → Prop} {s1 s2 : Shared} (x : Ext NoX ρ s ρ' s1) (y : Ext (FI env ns its) ρ' s1 ρ s2) (fr : ∀ b ∈ its, s.heap.get? b = none) : Ext (FX env ns) ρ s ρ s2 :=
  Ext.fresh ((x.weaken fun b q => q.elim).trans y) fun b hb => by
    rcases hb with q | q
    · exact .inl q
    · exact .inr (fr b q)
theorem empty_sound (O : Ok C) (hh : A.handled = none) (R : Rel C ρ σ s.heap) (F : FrameOk C env ns ρ l s.heap) {i : Nat} {a : Addr} (ex : at? σ i = some (.idict [])) (ea : at? ρ i = some a) {Q : Flow → Shared → Prop}
    (h : ∀ s', Rel C ρ σ s'.heap → Ext NoX ρ s ρ s' → Q .next s') : G C.M A (pyIter (.ref a)) (fun iv s₂ => CG C.M A (.forLoop t iv b [] env) Q s₂) s := by
  ((refine x1a2 (R.objs _ _ _ ex ea) (fun kvs qt1 f => ?_)); (refine x3a6 (qt1) (fun o es ep g qt2 hd _ hp _ => ?_)); (refine x0a2 (qt2) (fun hc _ => ?_)))
  cases f
  have hz : es.size = 0 := by rw [← Array.length_toList, hp.length]; rfl
  refine G.of (keys_start O R (mem_at ea) g hc hd fun it s2 R2 x2 hf ho hl g2 hit => ?_)
  have hn : es[0]? = none := by simp [hz]
  refine g_for (G.of (raw_end hh hit g2 hd hn fun h' hs => h { s2 with heap := h' } ?_ ?_))
  · exact R2.beside (its := [it]) (fun b hb => by obtain rfl := List.mem_singleton.mp hb; exact ⟨ho, hl⟩) fun b o hb e => hs b o (fun q => hb (by simp [q])) e
  · refine Ext.fresh (X := (· = it)) ((x2.weaken fun b q => q.elim).trans (Ext.but (t := s2.toks) fun b o hb e => hs b o hb e)) fun b q => .inr (q ▸ hf)
theorem dict_sound (S : Stat C) (O : Ok C) (rm : Room A d) (R : Rel C ρ σ s.heap) (F : FrameOk C env ns ρ l s.heap) {i : Nat} {a : Addr} {kv : List (List (List Int) × Nat × AV)} (ex : at? σ i = some (.pdict kv)) (ea : at? ρ i = some a) {test : Expr} {bv : Bool} (hb : oneIf b = some (test, bv))
    (e : scanF C.T ns σ t test bv kv l = some (fl, l')) {Q : Flow → Shared → Prop}
    (h : ∀ s' fv, Rel C ρ σ s'.heap → Ext (FX env ns) ρ s ρ s' → FrameOk C env ns ρ l' s'.heap → FlRel C ρ fl fv → Q fv s') : G C.M A (pyIter (.ref a)) (fun iv s₂ => CG C.M A (.forLoop t iv b [] env) Q s₂) s := by
  ((refine x1a2 (R.objs _ _ _ ex ea) (fun xs qt3 f => ?_)); (refine x2a3 (qt3) (fun es ep g he hn => ?_)))
  refine G.of (keys_start O R (mem_at ea) g rfl rfl fun it s2 R2 x2 hf ho hl g2 hit => ?_)
  have fr : ∀ b ∈ [it], s.heap.get? b = none := fun b hb => by obtain rfl := List.mem_singleton.mp hb; exact hf
  exact scanF_sound S O rm.2.2 rm.units hb he (apart_of F fr) e R2 (F.extE x2) ⟨mem_at ea, g2, ho, hl, hit⟩ (by simpa using f) fun s3 fv R3 x3 F3 h3 => h s3 fv R3 (fresh_FI (X := NoX) x2 x3 fr) F3 h3
theorem X_While (hW : SW C d r.W) (rm : Room A d) {a : Expr} {o : List Stmt} {p : Pos} (ev : stepX C.B C.T r (.While a b o p) ns l σ = some (fl, l', σ')) (R : Rel C ρ σ s.heap) (F : FrameOk C env ns ρ l s.heap) {Q : Flow → Shared → Prop}
    (h : ∀ ρ' s' fv, Rel C ρ' σ' s'.heap → Ext (FX env ns) ρ s ρ' s' → FrameOk C env ns ρ' l' s'.heap → FlRel C ρ' fl fv → Q fv s') : G C.M A (exec (.While a b o p) env) Q s := by
  cases o with
  | cons => cases ev
  | nil =>
    rw [exec_While]
    exact G.bind (G.standAt (G.runOwn rfl (hW ev rm R F h)))
theorem isGlobal_is {o : Option NameKind} (h : isGlobal o = true) : o = some .globalImplicit := by
  cases o with
  | none => exact qFT h
  | some k => cases k <;> first | rfl | exact qFT h
theorem enumArg_is {it e : Expr} (h : enumArg ns it = some e) : ∃ f p1 p2, it = .Call (.Name f p1) [e] [] p2 ∧ seq f "enumerate" = true ∧ lk ns f = some .globalImplicit ∧ starred e = false :=
  thenC h fun q e1 h => thenC h fun f e2 h => thenC h fun e' e3 h => thenC h fun u e4 h => whenC h fun k h => and3 k fun k1 k2 k3 => by
    obtain ⟨p2, z1⟩ := callOf_is e1
    have z2 := isNameC (P := fun e => ∃ p, e = .Name f p) e2 fun p => ⟨p, rfl⟩
    obtain ⟨p1, z2⟩ := z2
    have h := Option.some.inj h
    exact ⟨f, p1, p2, by rw [z1, z2, one_is e3, nil_is e4, h], k1, isGlobal_is k2, not_true (h ▸ k3)⟩
theorem X_For (S : Stat C) (O : Ok C) (hE : SE C d r.E) (hF : SF C d r.F) (rm : Room A d) {a : Expr} {o : List Stmt} {p : Pos} (ev : stepX C.B C.T r (.For t a b o p) ns l σ = some (fl, l', σ')) (R : Rel C ρ σ s.heap) (F : FrameOk C env ns ρ l s.heap) {Q : Flow → Shared → Prop}
    (h : ∀ ρ' s' fv, Rel C ρ' σ' s'.heap → Ext (FX env ns) ρ s ρ' s' → FrameOk C env ns ρ' l' s'.heap → FlRel C ρ' fl fv → Q fv s') : G C.M A (exec (.For t a b o p) env) Q s := by
  have w : ∀ b, NoX b → FX env ns b := fun b q => q.elim
  unfold stepX at ev
  dsimp only at ev
  split at ev
  · split at ev
    · rename_i e he
      ((refine x3a4 (enumArg_is he) (fun f p1 p2 qr4 q1 q2 q3 => ?_)); subst qr4)
      split at ev
      · rename_i src σ1 e1
        split at ev
        · rename_i ek
          split at ev
          · exact g_For rfl (enum_sound S O hE hF rm q1 q2 q3 R F e1 ek ⟨_, _, _, rfl⟩ ev h)
          · cases ev
        · cases ev
      · cases ev
    · split at ev
      · cases ev
      · rename_i hn
        split at ev
        · rename_i src σ1 e1
          refine g_For hn (hE e1 rm R F fun ρ1 s1 val R1 x1 h1 => ?_)
          have x1' := x1.weaken w
          have F1 := F.extE x1
          split at ev
          · rename_i ex
            (revert h; apply q3 ev; intro h)
            unfold sourceOf at ex
            split at ex
            · obtain ⟨ad, rfl, ea⟩ := vown h1
              exact empty_sound O rm.2.2 R1 F1 ex ea fun s2 R2 x2 => h ρ1 s2 .next R2 (x1'.trans (x2.weaken w)) (F1.extE x2) .next
            · cases ex
          · rename_i kv ex
            unfold sourceOf at ex
            split at ex
            · obtain ⟨ad, rfl, ea⟩ := vown h1
              split at ev
              · rename_i test bv hb
                split at ev
                · rename_i fl1 l1 es
                  (revert h; apply q3 ev; intro h)
                  exact dict_sound S O rm R1 F1 ex ea hb es fun s2 fv R2 x2 F2 h2 => h ρ1 s2 fv R2 (x1'.trans x2) F2 h2
                · cases ev
              · cases ev
            · cases ex
          · split at ev
            · rename_i kd ek
              exact loop_sound O hF rm R1 F1 h1 ek ev fun ρ2 s2 fv R2 x2 F2 h2 => h ρ2 s2 fv R2 (x1'.trans x2) F2 h2
            · cases ev
        · cases ev
  · cases ev
end
end Mine
-- M55
namespace Mine
open PySem PySem.W PySem.Calls PyProof.Rows PyProof PyProof.V PySem.SeqAt
section
variable {C : Cx} {A : Around} {s : Shared} {ρ ρ' : List Addr} {σ σ' : AS} {env : Env} {ns : List (Str × NameKind)} {l l' : Loc} {d : Nat} {r : Run} {fl : Fl} {t : Expr} {b : List Stmt} {its : List Addr}
/-! comprehensions: the rules -/
theorem g_comprehension {e : Expr} {scope : Scope} {pos : Pos} {newAcc first : Sem Value} {g : Comprehension} {gs : List Comprehension} {cl : List (Str × Addr)} {Q : Value → Shared → Prop}
    (hcl : clausesOf e = g :: gs) (hs : ∀ x, foldedSetIterable g.iter env x = pure x) (hclos : closureFor scope env = pure cl)
    (hkind : scope.kind = .function) (hnames : ∀ x ∈ scope.names, x.2 = .local → scope.names.lookup x.1 = some .local)
    (h : G C.M A first (fun x s₁ => G C.M A (pyIter x) (fun it s₂ => G C.M A newAcc (fun acc s₃ =>
      G C.M A (newFunctionEnv scope env.globals cl [] env.qual none .none (some env)) (fun cenv s₄ =>
        CG C.M A (.compStart e 0 it acc { cenv with scope := relabel scope env }) (fun _ s' => ∃ m, s'.heap.Ns cenv.locals m ∧ ∀ h', Heap.SameBut cenv.locals s'.heap h' → Q acc { s' with heap := h' }) s₄) s₃) s₂) s₁) s) :
    G C.M A (comprehension e scope env pos newAcc false first none) Q s := by
  unfold comprehension
  rw [hclos, hcl]
  refine G.bind (G.mono h fun x s₁ h₁ => G.bind (G.standAt (G.bind (G.eq (hs x) (G.bind (G.holding (G.mono h₁ fun it s₂ h₂ => ?_)))))))
  refine G.bind (G.mono h₂ fun acc s₃ h₃ => G.bind (G.pure (G.bind (G.mono h₃ fun cenv s₄ h₄ => ?_))))
  have hv : ∀ x ∈ (scope.names.filter fun x => (x.2 == .local || x.2 == .cell) && x.1 != (".0" : Str)).reverse, x.2 = .local →
      Env.kindOf { cenv with scope := relabel scope env } x.1 = some .local := fun x hx hl => lookup_relabel_local (hnames x (List.mem_filter.mp (List.mem_reverse.mp hx)).1 hl)
  refine G.holding (G.bind (G.attempt (G.holding (G.run rfl (CG.mono h₄ fun f s' hr => ?_)))))
  ((refine x1a2 (hr) (fun m hn hr => ?_)))
  exact G.bind (G.holding (G.of (wpAny_comp_letGo (cenv := { cenv with scope := relabel scope env }) hkind _ s' m hv hn fun h' m' _ hs' => G.pure (hr h' hs'))))
theorem g_compStart {elt iter : Expr} {ifs : List Expr} {scope : Scope} {pos : Pos} {it acc : Value} {P : Flow → Shared → Prop}
    (h0 : CG C.M A (.compLoop (.ListComp elt [⟨t, iter, ifs, 0⟩] scope pos) 0 it acc env) P s)
    (h : G C.M A (pyIter it) (fun it' s' => CG C.M A (.compLoop (.ListComp elt [⟨t, iter, ifs, 0⟩] scope pos) 0 it' acc env) P s') s) :
    CG C.M A (.compStart (.ListComp elt [⟨t, iter, ifs, 0⟩] scope pos) 0 it acc env) P s := by
  refine CG.tree ?_
  show G _ _ ((compStart (.ListComp elt [⟨t, iter, ifs, 0⟩] scope pos) 0 it acc env).onRaise (fun x => do noteFrame x env; standAt theWindowsPlace)) _ s
  refine G.onRaise ?_
  unfold compStart
  show G _ _ (ask >>= _) _ s
  refine G.bind (G.ask ?_)
  dsimp only
  split
  · exact G.bind (G.pure (G.pure ⟨rfl, rfl, h0⟩))
  · refine G.bind (G.rule ?_)
    show G _ _ (standAt iter.pos >>= _) _ s
    exact G.bind (G.standAt (G.bind (G.mono h fun it' s' h' => G.pure ⟨rfl, rfl, h'⟩)))
noncomputable abbrev testsOf (ifs : List Expr) (env : Env) : Sem Bool := forIn ifs true fun c r => if r = true then do let ok ← isTrue c env (eval c env); pure (ForInStep.yield ok) else pure (ForInStep.yield r)
theorem g_tests_nil {Q : Bool → Shared → Prop} (h : Q true s) : G C.M A (testsOf [] env) Q s := G.pure h
theorem g_tests_one {c : Expr} {Q : Bool → Shared → Prop} (h : G C.M A (isTrue c env (eval c env)) Q s) : G C.M A (testsOf [c] env) Q s := by
  unfold testsOf
  simp only [List.forIn_cons, List.forIn_nil, if_true]
  exact G.bind (G.bind (G.mono h fun b s' hb => G.pure (G.pure hb)))
theorem g_compLoop {elt iter : Expr} {ifs : List Expr} {scope : Scope} {pos : Pos} {it acc : Value} {Q : Shared → Prop}
    (turn : G C.M A (pyNext it) (fun r s₁ => match r with
      | none => Q s₁
      | some v => G C.M A (letOwnedTupleGo t it v) (fun _ s₂ => G C.M A (assign t env v) (fun _ s₃ => G C.M A (testsOf ifs env) (fun ok s₄ =>
          if ok = true then G C.M A (eval elt env) (fun x s₅ => G C.M A (call (.builtin "list.append") [acc, x]) (fun _ s₆ => CG C.M A (.compLoop (.ListComp elt [⟨t, iter, ifs, 0⟩] scope pos) 0 it acc env) (fun _ => Q) s₆) s₅) s₄
          else CG C.M A (.compLoop (.ListComp elt [⟨t, iter, ifs, 0⟩] scope pos) 0 it acc env) (fun _ => Q) s₄) s₃) s₂) s₁) s) :
    CG C.M A (.compLoop (.ListComp elt [⟨t, iter, ifs, 0⟩] scope pos) 0 it acc env) (fun _ => Q) s := by
  refine CG.tree ?_
  show G _ _ ((compTurn (.ListComp elt [⟨t, iter, ifs, 0⟩] scope pos) 0 it acc env).onRaise (fun x => do noteFrame x env; theTreesLotGoes x)) _ s
  refine G.onRaise ?_
  rw [compTurn_list]
  refine G.bind (G.standAt (G.bind (G.mono turn fun r s₁ h₁ => ?_)))
  cases r with
  | none => exact G.pure h₁
  | some v =>
    refine G.bind (G.mono h₁ fun _ s₂ h₂ => G.bind (G.mono h₂ fun _ s₃ h₃ => G.bind (G.mono h₃ fun ok s₄ h₄ => ?_)))
    cases ok with
    | true =>
      rw [if_pos rfl] at h₄ ⊢
      exact G.bind (G.bind (G.mono h₄ fun x s₅ h₅ => G.bind (G.mono h₅ fun _ s₆ h₆ => G.pure (G.pure ⟨rfl, rfl, h₆⟩))))
    | false =>
      rw [if_neg (by decide)] at h₄ ⊢
      exact G.bind (G.pure (G.pure ⟨rfl, rfl, h₄⟩))
/-! the frame -/
theorem closure_of : ∀ (names : List (Str × NameKind)) (acc : List (Str × Addr)), (∀ x, (x, NameKind.free) ∈ names → ∃ c, env.cells.lookup x = some c) →
    ∃ cl, (forIn names acc fun x r => if (x.2 == NameKind.free) = true then do let c ← cellOf env x.1; pure (ForInStep.yield ((x.1, c) :: r)) else pure (ForInStep.yield r) : Sem (List (Str × Addr))) = pure cl ∧
      (∀ x c, (x, c) ∈ cl → (x, c) ∈ acc ∨ env.cells.lookup x = some c) ∧ (∀ x, (x, NameKind.free) ∈ names → ∃ c, (x, c) ∈ cl) ∧ (∀ p ∈ acc, p ∈ cl)
  | [], acc, _ => ⟨acc, rfl, fun x c h => .inl h, fun x h => (nomatch h), fun p h => h⟩
  | (n, k) :: names, acc, hc => by
    rw [List.forIn_cons]
    by_cases hk : k = .free
    · subst hk
      ((refine x1a1 (hc n (by simp)) (fun c e => ?_)))
      obtain ⟨cl, h1, h2, h3, h4⟩ := closure_of names ((n, c) :: acc) fun x hx => hc x (by simp [hx])
      refine ⟨cl, ?_, fun x c' hx => ?_, fun x hx => ?_, fun p hp => h4 p (by simp [hp])⟩
      · have : cellOf env n = pure c := by unfold cellOf; rw [e]
        simp only [beq_self_eq_true, if_true, this, pure_bind]
        exact h1
      · rcases h2 x c' hx with q | q
        · rcases List.mem_cons.mp q with z | z
          · cases z; exact .inr e
          · exact .inl z
        · exact .inr q
      · rcases List.mem_cons.mp hx with z | z
        · cases z; exact ⟨c, h4 _ (by simp)⟩
        · exact h3 x z
    · have hk' : (k == NameKind.free) = false := beq_eq_false_iff_ne.mpr hk
      obtain ⟨cl, h1, h2, h3, h4⟩ := closure_of names acc fun x hx => hc x (by simp [hx])
      refine ⟨cl, ?_, h2, fun x hx => ?_, h4⟩
      · simp only [hk', Bool.false_eq_true, if_false, pure_bind]
        exact h1
      · rcases List.mem_cons.mp hx with z | z
        · cases z; exact absurd rfl hk
        · exact h3 x z
theorem closureFor_of {scope : Scope} (hc : ∀ x, (x, NameKind.free) ∈ scope.names → ∃ c, env.cells.lookup x = some c) :
    ∃ cl, closureFor scope env = pure cl ∧ (∀ x c, cl.lookup x = some c → env.cells.lookup x = some c) ∧ (∀ x, (x, NameKind.free) ∈ scope.names → ∃ c, cl.lookup x = some c) := by
  ((refine x1a4 (closure_of (env := env) scope.names [] hc) (fun cl h1 h2 h3 _ => ?_)))
  refine ⟨cl, ?_, fun x c h => ?_, fun x hx => ?_⟩
  · unfold closureFor
    have : ∀ (t : Sem (List (Str × Addr))), t = pure cl → (t >>= fun r => pure r) = pure cl := fun t e => by rw [e]; rfl
    refine this _ ?_
    rw [← h1]
  · rcases h2 x c (mem_of_lookup h) with q | q
    · cases q
    · exact q
  · ((refine x1a1 (h3 x hx) (fun c h => ?_)))
    exact Option.isSome_iff_exists.mp (lookup_of_mem h)
end
end Mine
-- M56
namespace Mine
open PySem PySem.W PySem.Calls PyProof.Rows PyProof PyProof.V PySem.SeqAt
section
variable {C : Cx} {A : Around} {s : Shared} {ρ ρ' : List Addr} {σ σ' : AS} {env : Env} {ns : List (Str × NameKind)} {l l' : Loc} {d : Nat} {r : Run} {fl : Fl} {t : Expr} {b : List Stmt} {its : List Addr}
theorem okComp_mem {all : List (Str × NameKind)} : ∀ {names : List (Str × NameKind)}, okComp ns all names = true → ∀ x k, (x, k) ∈ names →
    ((x == ("__debug__" : Str)) = false ∧ (x == ("__classdict__" : Str)) = false) ∧ (k = .local → lk all x = some .local) ∧ (k = .free → lk ns x = some .cell ∨ lk ns x = some .free) ∧ k ≠ .cell
  | [], _, x, k, h => by cases h
  | (y, k') :: names, e, x, k, h => by
    unfold okComp at e
    ((refine x0a2 (Bool.and_eq_true_iff.mp e) (fun e1 e2 => ?_)))
    ((refine x0a2 (Bool.and_eq_true_iff.mp e1) (fun e3 e4 => ?_)))
    ((refine x0a2 (Bool.and_eq_true_iff.mp e4) (fun e5 e6 => ?_)))
    rcases List.mem_cons.mp h with z | z
    · cases z
      have f1 : ∀ {u w : Str}, (seq u w).not = true → (u == w) = false := fun {u w} q => by
        refine beq_eq_false_iff_ne.mpr (seq_false ?_)
        cases z : seq u w with
        | true => rw [z] at q; cases q
        | false => rfl
      refine ⟨⟨f1 e3, f1 e5⟩, fun q => ?_, fun q => ?_, fun q => ?_⟩
      · subst q
        dsimp only at e6
        unfold isLocal at e6
        split at e6
        · assumption
        · cases e6
      · subst q
        dsimp only at e6
        split at e6
        · left; assumption
        · right; assumption
        · cases e6
      · subst q; cases e6
    · exact okComp_mem e2 x k z
theorem lk_strip {names : List (Str × NameKind)} : ∀ {l : Loc} {x : Str} {v : AV}, lk (strip names l) x = some v → ∃ v', lk l x = some v' ∧ lk names x ≠ some .local
  | [], x, v, h => by cases h
  | (y, w) :: l, x, v, h => by
    have h : lk (match isLocal (lk names y) with | true => strip names l | false => (y, w) :: strip names l) x = some v := h
    rw [lk_cons]
    by_cases q : x = y
    · subst q
      rw [if_pos rfl]
      split at h
      · ((refine x1a2 (lk_strip h) (fun v' _ h2 => ?_)))
        exact ⟨w, rfl, h2⟩
      · rename_i hl
        refine ⟨w, rfl, fun z => ?_⟩
        rw [z] at hl
        cases hl
    · rw [if_neg q]
      split at h
      · exact lk_strip h
      · rw [lk_cons, if_neg q] at h
        exact lk_strip h
theorem strip_eq {names : List (Str × NameKind)} : ∀ {l : Loc} {x : Str}, lk names x ≠ some .local → lk (strip names l) x = lk l x
  | [], x, h => rfl
  | (y, w) :: l, x, h => by
    show lk (match isLocal (lk names y) with | true => strip names l | false => (y, w) :: strip names l) x = _
    rw [lk_cons]
    by_cases q : x = y
    · subst q
      have : isLocal (lk names x) = false := by
        unfold isLocal
        split
        · rename_i z; exact absurd z h
        · rfl
      rw [this, if_pos rfl, lk_cons, if_pos rfl]
    · rw [if_neg q]
      split
      · exact strip_eq h
      · rw [lk_cons, if_neg q]; exact strip_eq h
theorem relabel_rel {scope : Scope} (x : Str) : KindRel (lk (relabel scope env).names x) (lk scope.names x) := by
  unfold relabel
  dsimp only
  generalize scope.names = names
  induction names with
  | nil => exact .inl rfl
  | cons p names ih =>
    obtain ⟨n, k⟩ := p
    rw [List.map_cons, lk_cons]
    by_cases hc : (k == NameKind.free && env.scope.kind == .function && env.kindOf n == some .cell) = true
    · have hk : k = .free := by
        simp only [Bool.and_eq_true, beq_iff_eq] at hc
        exact hc.1.1
      simp only [hc, if_true]
      rw [lk_cons]
      by_cases q : x = n
      · rw [if_pos q, if_pos q, hk]; exact .inr ⟨rfl, rfl⟩
      · rw [if_neg q, if_neg q]; exact ih
    · have hc' : (k == NameKind.free && env.scope.kind == .function && env.kindOf n == some .cell) = false := by simpa using hc
      simp only [hc', Bool.false_eq_true, if_false]
      rw [lk_cons]
      by_cases q : x = n
      · rw [if_pos q, if_pos q]; exact .inl rfl
      · rw [if_neg q, if_neg q]; exact ih
theorem comp_frame (F : FrameOk C env ns ρ l s.heap) {scope : Scope} {cl : List (Str × Addr)} (hk : scope.kind = .function) (ho : okComp ns scope.names scope.names = true) (hcl : ∀ x c, cl.lookup x = some c → env.cells.lookup x = some c)
    (hcl2 : ∀ x, (x, NameKind.free) ∈ scope.names → ∃ c, cl.lookup x = some c) {h' : Heap} {L : Addr} (hL : s.heap.get? L = none) (hLρ : L ∉ ρ) (hLo : C.h₁.objs.size ≤ L) (keep : ∀ b o, s.heap.get? b = some o → h'.get? b = some o) {m : Str → Option Value} (hn : h'.Ns L m) :
    FrameOk C (compEnvC scope cl L env) scope.names ρ (strip scope.names l) h' := by
  have free : ∀ x, lk scope.names x = some .cell ∨ lk scope.names x = some .free → lk scope.names x = some .free ∧ (lk ns x = some .cell ∨ lk ns x = some .free) := fun x hx => by
    rcases hx with q | q
    · exact absurd rfl (okComp_mem ho x _ (lk_mem q)).2.2.2
    · exact ⟨q, (okComp_mem ho x _ (lk_mem q)).2.2.1 rfl⟩
  refine ⟨hk, fun x => relabel_rel x, fun x k e => (okComp_mem ho x k (lk_mem e)).1, F.gl, F.bl, ⟨m, hn, fun x v e k => ?_⟩, fun x hx => ?_, fun x y c e1 e2 => F.apart x y c (hcl x c e1) (hcl y c e2), hLρ, fun x c hx e => ?_, hLo, fun x c hx e => F.oldC x c (free x hx).2 (hcl x c e)⟩
  · ((refine x1a2 (lk_strip e) (fun _ _ h2 => ?_)))
    exact absurd k h2
  · ((refine x0a2 (free x hx) (fun q q' => ?_)))
    ((refine x2a3 (F.cell x q') (fun c v₀ h1 h2 h3 => ?_)))
    ((refine x1a1 (hcl2 x (lk_mem q)) (fun c' e' => ?_)))
    have := hcl x c' e'
    rw [h1] at this; cases this
    ((refine x1a2 (h2) (fun o g z => ?_)))
    refine ⟨c, v₀, e', ⟨o, keep _ _ g, z⟩, fun v hv => h3 v ?_⟩
    rw [strip_eq (by rw [q]; simp)] at hv
    exact hv
  · ((refine x0a2 (free x hx) (fun q q' => ?_)))
    refine ⟨(F.outC x c q' (hcl x c e)).1, fun z => ?_⟩
    ((refine x2a3 (F.cell x q') (fun c' v₀ h1 qt1 _ => ?_)); (refine x1a2 (qt1) (fun o g _ => ?_)))
    rw [hcl x c e] at h1
    cases h1
    rw [z] at g
    have g : s.heap.get? L = some o := g
    rw [hL] at g; cases g
end
end Mine
-- M57
namespace Mine
open PySem PySem.W PySem.Calls PyProof.Rows PyProof PyProof.V PySem.SeqAt
/-- what stands at the head of a turn of a comprehension -/
structure CompAt (C : Cx) (env : Env) (ns : List (Str × NameKind)) (ρ : List Addr) (l : Loc) (acc : List AV) (D : Addr) (h : Heap) : Prop where
  frame : FrameOk C env ns ρ l h
  list : ∃ items, h.PlainList D items ∧ VsRel C ρ acc items.toList
  out : D ∉ ρ
  low : C.h₁.objs.size ≤ D
  apart : Apart env ns [D]
noncomputable def GX (env : Env) (ns : List (Str × NameKind)) (its : List Addr) (D : Addr) : Addr → Prop := fun b => FX env ns b ∨ b ∈ its ∨ b = D
noncomputable def SG (C : Cx) (d : Nat) (f : Expr → Expr → List Expr → AV → SKd → Nat → List AV → List (Str × NameKind) → Loc → AS → Option (List AV × AS)) : Prop :=
  ∀ {A : Around} {env : Env} {ns : List (Str × NameKind)} {l : Loc} {ρ : List Addr} {σ : AS} {s : Shared} {elt t iter : Expr} {ifs : List Expr} {scope : Scope} {pos : Pos} {i : Nat} {kd : SKd} {k : Nat} {it : Addr} {its : List Addr} {D : Addr} {acc vs : List AV} {σ' : AS} {Q : Shared → Prop},
    f elt t ifs (.own i) kd k acc ns l σ = some (vs, σ') → Room A d → Rel C ρ σ s.heap → CompAt C env ns ρ l acc D s.heap → (∀ x v, lk l x = some v → lk ns x ≠ some .local) → (∀ x, lk ns x ≠ some .cell) →
    ItAt C ρ kd i k it its s.heap → Apart env ns its → D ∉ its → (kd = .enum → ∃ ts a b, t = .Tuple ts a b) →
    (∀ ρ' s', Rel C ρ' σ' s'.heap → Ext (GX env ns its D) ρ s ρ' s' → CompAt C env ns ρ' l vs D s'.heap → Q s') → CG C.M A (.compLoop (.ListComp elt [⟨t, iter, ifs, 0⟩] scope pos) 0 (.ref it) (.ref D) env) (fun _ => Q) s
section
variable {C : Cx} {A : Around} {s : Shared} {ρ ρ' : List Addr} {σ σ' : AS} {env : Env} {ns : List (Str × NameKind)} {l l' : Loc} {d : Nat} {r : Run} {fl : Fl} {t : Expr} {b : List Stmt} {its : List Addr} {acc : List AV} {D : Addr}
theorem FrameOk.less {h : Heap} {l1 l2 : Loc} (F : FrameOk C env ns ρ l1 h) (e : ∀ x v, lk l2 x = some v → lk l1 x = some v) : FrameOk C env ns ρ l2 h := by
  refine ⟨F.kind, F.names, F.fine, F.gl, F.bl, ?_, fun x hx => ?_, F.apart, F.outL, F.outC, F.oldL, F.oldC⟩
  · ((refine x1a2 (F.loc) (fun m hm hl => ?_)))
    exact ⟨m, hm, fun x v hv k => hl x v (e x v hv) k⟩
  · ((refine x2a3 (F.cell x hx) (fun c v₀ h1 h2 h3 => ?_)))
    exact ⟨c, v₀, h1, h2, fun v hv => h3 v (e x v hv)⟩
theorem setName_other {x : Str} {v : AV} {l1 : Loc} (e : setName ns x v l = some l1) {y : Str} (h1 : lk ns y ≠ some .local) (h2 : lk ns y ≠ some .cell) : lk l1 y = lk l y := by
  have k := setName_is e
  rw [← k.2, lk_putL, if_neg fun q : y = x => k.1.elim (fun z => h1 (q ▸ z)) fun z => h2 (q ▸ z)]
theorem setNames_other {y : Str} (h1 : lk ns y ≠ some .local) (h2 : lk ns y ≠ some .cell) {ts : List Expr} : ∀ {vs : List AV} {l l1 : Loc}, setNames ns ts vs l = some l1 → lk l1 y = lk l y := by
  induction ts with
  | nil => exact fun {vs l l1} e => thenC e fun u e1 e => by rw [Option.some.inj e]
  | cons t ts ih =>
    intro vs l l1 e
    cases vs with
    | nil => exact qN e
    | cons v vs => exact thenC e fun x ex e => thenC e fun l2 e2 e => (ih e).trans (setName_other e2 h1 h2)
theorem assignN_other {v : AV} {l1 : Loc} (e : assignN ns σ t v l = some l1) {y : Str} (h1 : lk ns y ≠ some .local) (h2 : lk ns y ≠ some .cell) : lk l1 y = lk l y :=
  orC e (fun e => thenC e fun x ex e => setName_other e h1 h2) fun e => thenC e fun ts et e => thenC e fun vs ev e => setNames_other h1 h2 e
theorem CompAt.ext {X : Addr → Prop} {s' : Shared} (K : CompAt C env ns ρ l acc D s.heap) (x : Ext X ρ s ρ' s') (hX : ∀ b, X b → b ≠ env.locals ∧ ∀ y, lk ns y = some .cell ∨ lk ns y = some .free → env.cells.lookup y ≠ some b) (hD : ¬ X D) : CompAt C env ns ρ' l acc D s'.heap := by
  ((refine x1a2 (K.list) (fun items qt1 f => ?_)); (refine x1a1 (qt1) (fun n g => ?_)))
  exact ⟨K.frame.ext x hX, ⟨items, ⟨n, x.keep _ _ g K.out hD⟩, x.vs f⟩, notin_of_ext x K.out g hD, K.low, K.apart⟩
theorem CompAt.extE {s' : Shared} (K : CompAt C env ns ρ l acc D s.heap) (x : Ext NoX ρ s ρ' s') : CompAt C env ns ρ' l acc D s'.heap := K.ext x (fun b q => q.elim) fun q => q
theorem CompAt.offD (K : CompAt C env ns ρ l acc D s.heap) : ¬ FX env ns D := K.apart.off D (by simp)
/-- a store to the frame's own names -/
theorem CompAt.store {s' : Shared} {l1 : Loc} (K : CompAt C env ns ρ l acc D s.heap) (x : Ext (FX env ns) ρ s ρ s') (F : FrameOk C env ns ρ l1 s'.heap) : CompAt C env ns ρ l1 acc D s'.heap := by
  ((refine x1a2 (K.list) (fun items qt2 f => ?_)); (refine x1a1 (qt2) (fun n g => ?_)))
  exact ⟨F, ⟨items, ⟨n, x.keep _ _ g K.out K.offD⟩, f⟩, K.out, K.low, K.apart⟩
theorem CompAt.less {h : Heap} {l1 l2 : Loc} (K : CompAt C env ns ρ l1 acc D h) (e : ∀ x v, lk l2 x = some v → lk l1 x = some v) : CompAt C env ns ρ l2 acc D h := ⟨K.frame.less e, K.list, K.out, K.low, K.apart⟩
/-- one more is put to the list -/
theorem CompAt.append (R : Rel C ρ σ s.heap) (K : CompAt C env ns ρ l acc D s.heap) (hn : acc.length < 4096) {v : AV} {val : Value} (hv : VRel C ρ v val) {Q : Value → Shared → Prop}
    (h : ∀ s', Rel C ρ σ s'.heap → Ext (· = D) [] s [] s' → CompAt C env ns ρ l (acc ++ [v]) D s'.heap → Q .none s') : G C.M A (call (.builtin "list.append") [.ref D, val]) Q s := by
  ((refine x1a2 (K.list) (fun items g f => ?_)))
  have hsz : items.size ≤ sizeLine := by
    have := f.length
    have e2 : items.toList.length = items.size := Array.length_toList
    unfold sizeLine
    omega
  refine G.of (wpAny_list_append_plain (hsz := hsz) g fun h' g' hs => ?_)
  have R' : Rel C ρ σ h' := R.beside (its := [D]) (fun b hb => by obtain rfl := List.mem_singleton.mp hb; exact ⟨K.out, K.low⟩) fun b o hb e => (hs.2 b fun q => hb (by simp [q])).trans e
  have x' : Ext (· = D) [] s [] { s with heap := h' } := Ext.but (t := s.toks) fun b o hb e => (hs.2 b hb).trans e
  refine h { s with heap := h' } R' x' ⟨K.frame.ext (ρ' := ρ) x'.more fun b hb => K.apart b (by simp [hb]), ⟨_, g', ?_⟩, K.out, K.low, K.apart⟩
  rw [Array.toList_push]
  exact f.push hv
theorem G_sound (O : Ok C) (hE : SE C d r.E) (hT : ST C d r.T) (hG : SG C d r.G) : SG C (d + 1) (stepG C.B C.T r) := by
  intro A env ns l ρ σ s elt t iter ifs scope pos i kd k it its D acc vs σ' Q e rm R K hl hc I Ap hD ht h
  have w1 : ∀ b, (b ∈ its) → GX env ns its D b := fun b q => .inr (.inl q)
  have w2 : ∀ b, FX env ns b → GX env ns its D b := fun b q => .inl q
  have w3 : ∀ b, NoX b → GX env ns its D b := fun b q => q.elim
  have w4 : ∀ b, b = D → GX env ns its D b := fun b q => .inr (.inr q)
  unfold stepG at e
  split at e
  · rename_i e1
    (revert h; apply q2 e; intro h)
    refine g_compLoop (G.of (next_sound O R rm.2.2 I ht e1 (fun _ s1 R1 x1 => ?_) fun v σ1 q => by cases q))
    exact h _ _ R1 (x1.weaken w1) (K.ext x1 (fun b hb => Ap b hb) hD)
  · rename_i v σ1 e1
    split at e
    · cases e
    · rename_i hlen
      have hlen : acc.length < 4096 := Nat.le_of_ble_eq_true hlen
      refine g_compLoop (G.of (next_sound O R rm.2.2 I ht e1 (fun q => by cases q) fun v' σ1' q ρ1 s1 val R1 x1 h1 D1 => ?_))
      cases q
      have K1 := K.ext x1 (fun b hb => Ap b hb) hD
      have y1 : Ext (GX env ns its D) ρ s ρ1 s1 := x1.weaken w1
      split at e
      · rename_i l1 ea
        have hle : ∀ x v, lk l x = some v → lk l1 x = some v := fun x v q => by rw [assignN_other ea (hl x v q) (hc x)]; exact q
        refine G.of (D1 _ fun s2 R2 x2 I2 => ?_)
        have K2 := K1.ext x2 (fun b hb => Ap b hb) hD
        refine G.of (assign_sound R2 K2.frame rm.2.2 ea (x2.v h1) fun s3 R3 x3 F3 => ?_)
        have I3 := I2.ext x3 Ap.off
        have K3 := K2.store x3 F3
        have y3 : Ext (GX env ns its D) ρ s ρ1 s3 := (y1.trans (x2.weaken w1)).trans (x3.weaken w2)
        have take : ∀ {c : List Expr} {ρ4 : List Addr} {s4 : Shared} {σ4 σ5 : AS} {x : AV} {vs' : List AV}, r.E elt ns l1 σ4 = some (x, σ5) → r.G elt t c (.own i) kd (k + 1) (acc ++ [x]) ns l σ5 = some (vs, σ') → Rel C ρ4 σ4 s4.heap → CompAt C env ns ρ4 l1 acc D s4.heap → ItAt C ρ4 kd i (k + 1) it its s4.heap → Ext (GX env ns its D) ρ s ρ4 s4 →
            G C.M A (eval elt env) (fun x s₅ => G C.M A (call (.builtin "list.append") [.ref D, x]) (fun _ s₆ => CG C.M A (.compLoop (.ListComp elt [⟨t, iter, c, 0⟩] scope pos) 0 (.ref it) (.ref D) env) (fun _ => Q) s₆) s₅) s4 := by
          intro c ρ4 s4 σ4 σ5 x vs' ex eg R4 K4 I4 y4
          refine hE ex rm.low R4 K4.frame fun ρ5 s5 xval R5 x5 h5 => ?_
          refine (K4.extE x5).append R5 hlen h5 fun s6 R6 x6 K6 => ?_
          have x6 := x6.more (ρ := ρ5)
          refine hG eg rm.low R6 (K6.less hle) hl hc ((I4.ext x5 fun b _ q => q).ext x6 fun b hb q => hD (q ▸ hb)) Ap hD ht fun ρ7 s7 R7 x7 K7 => ?_
          exact h _ _ R7 (((y4.trans (x5.weaken w3)).trans (x6.weaken w4)).trans x7) K7
        split at e
        · split at e
          · rename_i x σ2 ex
            refine g_tests_nil ?_
            rw [if_pos rfl]
            exact take (vs' := []) ex e R3 K3 I3 y3
          · cases e
        · rename_i c
          split at e
          · rename_i σ2 ec
            refine g_tests_one (hT ec rm.low R3 F3 fun ρ4 s4 R4 x4 => ?_)
            rw [if_pos rfl]
            split at e
            · rename_i x σ3 ex
              exact take (vs' := []) ex e R4 (K3.extE x4) (I3.ext x4 fun b _ q => q) (y3.trans (x4.weaken w3))
            · cases e
          · rename_i σ2 ec
            refine g_tests_one (hT ec rm.low R3 F3 fun ρ4 s4 R4 x4 => ?_)
            rw [if_neg (by decide)]
            refine hG e rm.low R4 ((K3.extE x4).less hle) hl hc (I3.ext x4 fun b _ q => q) Ap hD ht fun ρ7 s7 R7 x7 K7 => ?_
            exact h _ _ R7 ((y3.trans (x4.weaken w3)).trans x7) K7
          · exact qN e
        · exact qN e
      · cases e
  · exact qN e
end
end Mine
-- M58
namespace Mine
open PySem PySem.W PySem.Calls PyProof.Rows PyProof PyProof.V PySem.SeqAt
section
variable {C : Cx} {A : Around} {s : Shared} {ρ ρ' : List Addr} {σ σ' : AS} {env : Env} {ns : List (Str × NameKind)} {l l' : Loc} {d : Nat} {r : Run} {fl : Fl} {t : Expr} {b : List Stmt} {its : List Addr} {acc : List AV} {D : Addr}
theorem scanG_sound (S : Stat C) (O : Ok C) (hh : A.handled = none) (hu : A.units + 70 < cLine) {x : Str} {test iter : Expr} {p1 p2 pos : Pos} {scope : Scope} {a it ep : Nat} {es : Array DictEntry} {xs : List (List (List Int) × Addr × Value)} (he : es.toList = xs.map (entryOfKey (pKnd C.prog C.w)))
    (Ap : Apart env ns [it]) (hD : D ≠ it) (hl : ∀ x v, lk l x = some v → lk ns x ≠ some .local) (hc : ∀ x, lk ns x ≠ some .cell) :
    ∀ {kv : List (List (List Int) × Nat × AV)} {k : Nat} {s : Shared} {acc vs : List AV} {Q : Shared → Prop}, scanG C.T ns σ x test l kv = some vs → acc.length + kv.length < 4096 → Rel C ρ σ s.heap → CompAt C env ns ρ l acc D s.heap → KeyAt C ρ a it k ep es s.heap → KRel C ρ (pkey σ) kv (xs.drop k) →
    (∀ s', Rel C ρ σ s'.heap → Ext (GX env ns [it] D) ρ s ρ s' → CompAt C env ns ρ l (acc ++ vs) D s'.heap → Q s') → CG C.M A (.compLoop (.ListComp (.Name x p1) [⟨.Name x p2, iter, [test], 0⟩] scope pos) 0 (.ref it) (.ref D) env) (fun _ => Q) s
  | [], k, s, acc, vs, Q, e, hn, R, K, KA, KR, h => by
    (revert h; apply q1 e; intro h)
    refine g_compLoop (G.of (KA.end R hh (key_end he KR) fun s1 R1 x1 => ?_))
    have y1 : Ext (· ∈ [it]) ρ s ρ s1 := x1.more.weaken fun b q => by simp [q]
    refine h s1 R1 (y1.weaken fun b q => .inr (.inl q)) ?_
    rw [List.append_nil]
    exact K.ext y1 (fun b hb => Ap b hb) fun q => hD (by simpa using q)
  | p :: kv, k, s, acc, vs, Q, e, hn, R, K, KA, KR, h => by
    have hn' : acc.length + (kv.length + 1) < 4096 := hn
    ((refine x2a4 (key_of he KR) (fun en ak e1 e2 e3 K' => ?_)))
    refine g_compLoop (G.of (KA.next R e1 fun s1 R1 x1 KA1 => ?_))
    have y1 : Ext (· ∈ [it]) ρ s ρ s1 := x1.more.weaken fun b q => by simp [q]
    have K1 := K.ext y1 (fun b hb => Ap b hb) fun q => hD (by simpa using q)
    rw [e2]
    refine G.of (KA1.let_ ?_)
    unfold scanG at e
    split at e
    · rename_i l1 ea
      have ea' : assignN ns σ (.Name x p2) (.own p.2.1) l = some l1 := by show orO (setName ns x (.own p.2.1) l) _ = some l1; rw [ea]; rfl
      have hle : ∀ x v, lk l x = some v → lk l1 x = some v := fun y v q => by rw [assignN_other ea' (hl y v q) (hc y)]; exact q
      refine G.of (assign_keep R1 K1.frame hh ea' (.own e3) fun s2 R2 x2 F2 => ?_)
      have KA2 := KA1.keep x2 (notin_FX K1.frame KA.mem) fun q => Ap.off it (by simp) q
      have K2 := K1.store x2.more F2
      have y2 : Ext (GX env ns [it] D) ρ s ρ s2 := (y1.weaken fun b q => .inr (.inl q)).trans (x2.more.weaken fun b q => .inl q)
      split at e
      · rename_i et
        split at e
        · rename_i vs' er
          (revert h; apply q1 e; intro h)
          refine g_tests_one (pureT_sound S O R2 F2 hu et fun tk => ?_)
          rw [if_pos rfl]
          have kk := setName_is ea
          have kx : lk ns x = some .local ∧ lk l1 x = some (.own p.2.1) := ⟨kk.1.resolve_right (hc x), by rw [← kk.2, lk_putL, if_pos rfl]⟩
          refine G.of (wpAny_Name (name_sound S (s := { s2 with toks := tk }) R2 F2 (by rw [kx.1]; exact kx.2) fun val hv => ?_) (F2.fine x _ kx.1).1)
          refine K2.append (s := { s2 with toks := tk }) R2 (by omega) hv fun s3 R3 x3 K3 => ?_
          have KA3 := KeyAt.keep (s := { s2 with toks := tk }) KA2 x3 (fun q => K.out (q ▸ KA.mem)) fun q => hD q.symm
          refine scanG_sound S O hh hu he Ap hD hl hc er (by rw [List.length_append, List.length_singleton]; omega) R3 (K3.less hle) KA3 K' fun s4 R4 x4 K4 => ?_
          refine h s4 R4 (((y2.trans (Ext.tok tk)).trans (x3.more.weaken fun b q => .inr (.inr q))).trans x4) ?_
          rw [List.append_assoc] at K4
          exact K4
        · cases e
      · rename_i et
        refine g_tests_one (pureT_sound S O R2 F2 hu et fun tk => ?_)
        rw [if_neg (by decide)]
        refine scanG_sound S O hh hu he Ap hD hl hc e (by omega) R2 (K2.less hle) KA2 K' fun s4 R4 x4 K4 => ?_
        exact h s4 R4 ((y2.trans (Ext.tok tk)).trans x4) K4
      · exact qN e
    · cases e
theorem iter_again {kd : SKd} {i k : Nat} {it : Addr} (hk : kd ≠ .enum) (I : ItAt C ρ kd i k it its s.heap) {Q : Value → Shared → Prop} (h : Q (.ref it) s) : wpAny C.M A (pyIter (.ref it)) Q NoE s := by
  ((refine x1a2 (I.at_) (fun a ea q => ?_)))
  cases kd with
  | list => exact wpAny_pyIter_listiter q.1 h
  | tup => exact wpAny_pyIter_tupleiter q.1 h
  | rng n => exact wpAny_pyIter_rangeiter q.1 h
  | enum => exact absurd rfl hk
theorem comp_open (O : Ok C) (R : Rel C ρ σ s.heap) (F : FrameOk C env ns ρ l s.heap) {e : Expr} {sc : Scope} {cl : List (Str × Addr)} (hk : sc.kind = .function) (ho : okComp ns sc.names sc.names = true) (hcl : ∀ x c, cl.lookup x = some c → env.cells.lookup x = some c)
    (hcl2 : ∀ x, (x, NameKind.free) ∈ sc.names → ∃ c, cl.lookup x = some c) {it : Value} {Q : Value → Shared → Prop}
    (body : ∀ L D s', Rel C ρ σ s'.heap → Ext NoX [] s [] s' → s.heap.get? L = none → s.heap.get? D = none → CompAt C (compEnvC sc cl L env) sc.names ρ (strip sc.names l) [] D s'.heap →
      CG C.M A (.compStart e 0 it (.ref D) (compEnvC sc cl L env)) (fun _ s'' => ∃ m, s''.heap.Ns L m ∧ ∀ h', Heap.SameBut L s''.heap h' → Q (.ref D) { s'' with heap := h' }) s') :
    G C.M A (newList []) (fun acc s₃ => G C.M A (newFunctionEnv sc env.globals cl [] env.qual none .none (some env)) (fun cenv s₄ => CG C.M A (.compStart e 0 it acc { cenv with scope := relabel sc env }) (fun _ s' => ∃ m, s'.heap.Ns cenv.locals m ∧ ∀ h', Heap.SameBut cenv.locals s'.heap h' → Q acc { s' with heap := h' }) s₄) s₃) s := by
  refine G.of (wpAny_newObj_type (G.of (wpAny_newFunctionEnv (fun x hx => (okComp_mem ho x.1 x.2 hx).2.2.2) (by intro y hy; simp at hy) (fun h₁ hns hsb => ?_) hk)))
  dsimp only at hns hsb ⊢
  generalize hH2 : s.heap.push { cls := .type "list", dict := none, data := .seq ([] : List Value).toArray } = H2 at hns hsb ⊢
  have hC : H2.objs.size = s.heap.objs.size + 1 := by rw [← hH2, Heap.size_push]
  have up : ∀ b o, H2.get? b = some o → h₁.get? b = some o := fun b o e => hsb.extBut b o (Nat.ne_of_lt (Heap.lt_size e)) (Heap.get?_push_of_some _ e)
  have old : ∀ b o, s.heap.get? b = some o → h₁.get? b = some o := fun b o e => up b o (hH2 ▸ Heap.get?_push_of_some _ e)
  have fL : s.heap.get? H2.objs.size = none := Heap.get?_none_of_le (by rw [hC]; exact Nat.le_succ _)
  have oL : H2.objs.size ∉ ρ := fun hm => by obtain ⟨o, g⟩ := R.at_heap hm; rw [fL] at g; cases g
  have oD : s.heap.objs.size ∉ ρ := fun hm => absurd (R.lt hm) (Nat.lt_irrefl _)
  have lo := R.low O
  refine body H2.objs.size s.heap.objs.size { s with heap := h₁, toks := s.toks + ([] : List (Str × Value)).length } (R.keeps old) (Ext.kept old) fL (fresh_none s) ⟨?_, ⟨#[], ⟨_, up _ _ (hH2 ▸ Heap.get?_push_size _ rfl)⟩, .nil⟩, oD, lo, fun b hb => ⟨fun q => ?_, fun y hy q => ?_⟩⟩
  · exact comp_frame F hk ho hcl hcl2 fL oL (by rw [hC]; exact Nat.le_succ_of_le lo) old hns
  · simp at hb
    subst hb
    have q : s.heap.objs.size = H2.objs.size := q
    rw [hC] at q
    exact Nat.succ_ne_self _ q.symm
  · simp at hb
    subst hb
    have hf : lk ns y = some .cell ∨ lk ns y = some .free := by
      rcases hy with z | z
      · exact absurd rfl (okComp_mem ho y _ (lk_mem z)).2.2.2
      · exact (okComp_mem ho y _ (lk_mem z)).2.2.1 rfl
    ((refine x2a3 (F.cell y hf) (fun c v₀ h1 qt1 _ => ?_)); (refine x1a2 (qt1) (fun o g _ => ?_)))
    rw [hcl y _ q] at h1
    cases h1
    rw [fresh_none s] at g; cases g
end
end Mine
-- M59
namespace Mine
open PySem PySem.W PySem.Calls PyProof.Rows PyProof PyProof.V PySem.SeqAt
section
variable {C : Cx} {A : Around} {s : Shared} {ρ ρ' : List Addr} {σ σ' : AS} {env : Env} {ns : List (Str × NameKind)} {l l' : Loc} {d : Nat} {r : Run} {fl : Fl} {t : Expr} {b : List Stmt} {its : List Addr} {acc : List AV} {D : Addr}
theorem comp_close (O : Ok C) (R : Rel C ρ' σ' s.heap) {l1 : Loc} {vs : List AV} {ρ0 : List Addr} {s0 : Shared} {X : Addr → Prop} (x : Ext X ρ0 s0 ρ' s) (hX : ∀ b, X b → s0.heap.get? b = none) (K : CompAt C env ns ρ' l1 vs D s.heap) (fL : s0.heap.get? env.locals = none) (fD : s0.heap.get? D = none) {Q : Value → Shared → Prop}
    (h : ∀ ρ' s' val, Rel C ρ' (alloc σ' (.list vs)).2 s'.heap → Ext NoX ρ0 s0 ρ' s' → VRel C ρ' (alloc σ' (.list vs)).1 val → Q val s') : ∃ m, s.heap.Ns env.locals m ∧ ∀ h', Heap.SameBut env.locals s.heap h' → Q (.ref D) { s with heap := h' } := by
  ((refine x1a2 (K.frame.loc) (fun m hm _ => ?_)))
  refine ⟨m, hm, fun h' hs => ?_⟩
  have hne : D ≠ env.locals := (K.apart D (by simp)).1
  ((refine x1a2 (K.list) (fun items qt1 f => ?_)); (refine x1a1 (qt1) (fun n g => ?_)))
  have R1 : Rel C ρ' σ' h' := R.beside (its := [env.locals]) (fun b hb => by obtain rfl := List.mem_singleton.mp hb; exact ⟨K.frame.outL, K.frame.oldL⟩) fun b o hb e => (hs.2 b fun q => hb (by simp [q])).trans e
  have R2 : Rel C (ρ' ++ [D]) (σ' ++ [.list vs]) h' := R1.adopt K.out K.low ⟨items, ⟨n, (hs.2 D hne).trans g⟩, f.app⟩
  have x1 : Ext X ρ0 s0 ρ' { s with heap := h' } := by
    have y : Ext (· = env.locals) ρ' s ρ' { s with heap := h' } := Ext.but (t := s.toks) fun b o hb e => (hs.2 b hb).trans e
    have z : Ext (fun b => X b ∨ b = env.locals) ρ0 s0 ρ' { s with heap := h' } := (x.weaken fun b q => .inl q).trans (y.weaken fun b q => .inr q)
    refine Ext.fresh z fun b q => ?_
    rcases q with q | q
    · exact .inl q
    · exact .inr (q ▸ fL)
  have x2 : Ext NoX ρ0 s0 ρ' { s with heap := h' } := Ext.fresh x1 fun b q => .inr (hX b q)
  exact Kn.alloc (C := C) (ρ := ρ0) (s := s0) (Q := Q) h (ρ' ++ [D]) { s with heap := h' } (.ref D) R2 (x2.adopt fD) (push_own (s := { s with heap := h' }) R1 _)
theorem okKind_is {k : ScopeKind} (h : okKind k = true) : k = .function := by cases k <;> first | rfl | cases h
theorem isName_is {e : Expr} {x : Str} (h : isName e = some x) : ∃ p, e = .Name x p := isNameC (P := fun e => ∃ p, e = .Name x p) h fun p => ⟨p, rfl⟩
theorem none_of_ext {X : Addr → Prop} {s1 : Shared} (x : Ext X ρ s ρ' s1) (hX : ∀ b, ¬ X b) {b : Addr} (h : s1.heap.get? b = none) : s.heap.get? b = none := by
  cases e : s.heap.get? b with
  | none => rfl
  | some o => ((refine x1a1 (x.alive b o e (hX b)) (fun o' e' => ?_))); rw [h] at e'; cases e'
/-- a comprehension's own frame, and what is around it -/
structure CompIn (C : Cx) (env : Env) (ns : List (Str × NameKind)) (l : Loc) (ρ : List Addr) (s : Shared) (ρ1 : List Addr) (s1 : Shared) (σ1 : AS) (sc : Scope) (cl : List (Str × Addr)) : Prop where
  O : Ok C
  R : Rel C ρ1 σ1 s1.heap
  F : FrameOk C env ns ρ1 l s1.heap
  x : Ext NoX ρ s ρ1 s1
  hk : sc.kind = .function
  ho : okComp ns sc.names sc.names = true
  c2 : ∀ x c, cl.lookup x = some c → env.cells.lookup x = some c
  c3 : ∀ x, (x, NameKind.free) ∈ sc.names → ∃ c, cl.lookup x = some c
section
variable {ρ1 : List Addr} {s1 s2 s3 s4 : Shared} {σ1 : AS} {sc : Scope} {cl : List (Str × Addr)} {L it : Addr} {Q : Value → Shared → Prop} {src : AV} {val : Value} {elt iter : Expr} {p : Pos} {ifs : List Expr}
theorem CompIn.nocell (H : CompIn C env ns l ρ s ρ1 s1 σ1 sc cl) (x : Str) : lk sc.names x ≠ some .cell := fun q => absurd rfl (okComp_mem H.ho x _ (lk_mem q)).2.2.2
theorem CompIn.offcell (H : CompIn C env ns l ρ s ρ1 s1 σ1 sc cl) (hf : s1.heap.get? it = none) {y : Str} (hy : lk sc.names y = some .cell ∨ lk sc.names y = some .free) : cl.lookup y ≠ some it := fun q => by
  have hy := hy.resolve_left (H.nocell y)
  refine x2a3 (H.F.cell y ((okComp_mem H.ho y _ (lk_mem hy)).2.2.1 rfl)) fun c v₀ h1 h2 _ => ?_
  rw [H.c2 y it q] at h1
  cases h1
  obtain ⟨o, g, _⟩ := h2
  rw [hf] at g; cases g
theorem CompIn.apart (H : CompIn C env ns l ρ s ρ1 s1 σ1 sc cl) (fL : s2.heap.get? L = none) (hf : s1.heap.get? it = none) (hi : ∃ o, s2.heap.get? it = some o) : Apart (compEnvC sc cl L env) sc.names [it] := fun b hb => by
  have ne : it ≠ L := fun q => by
    obtain ⟨o, g⟩ := hi
    rw [q, fL] at g; cases g
  exact single (P := fun b => b ≠ L ∧ ∀ y, lk sc.names y = some .cell ∨ lk sc.names y = some .free → cl.lookup y ≠ some b) hb ⟨ne, fun y hy => H.offcell hf hy⟩
theorem CompIn.close (H : CompIn C env ns l ρ s ρ1 s1 σ1 sc cl) {ρ' : List Addr} {σ' : AS} {vs : List AV} {l1 : Loc} (x2 : Ext NoX ρ1 s1 ρ1 s2) (x3 : Ext NoX [] s2 [] s3) (fL : s2.heap.get? L = none) (fD : s2.heap.get? D = none) (fi : ∀ b ∈ its, s1.heap.get? b = none)
    (R4 : Rel C ρ' σ' s4.heap) (x4 : Ext (GX (compEnvC sc cl L env) sc.names its D) ρ1 s3 ρ' s4) (K4 : CompAt C (compEnvC sc cl L env) sc.names ρ' l1 vs D s4.heap) (h : Kn C ρ s Q (alloc σ' (.list vs)).1 (alloc σ' (.list vs)).2) :
    ∃ m, s4.heap.Ns L m ∧ ∀ h', Heap.SameBut L s4.heap h' → Q (.ref D) { s4 with heap := h' } := by
  have up : ∀ {b}, s2.heap.get? b = none → s.heap.get? b = none := fun q => none_of_ext H.x (fun _ z => z) (none_of_ext x2 (fun _ z => z) q)
  refine comp_close (env := compEnvC sc cl L env) H.O R4 (((H.x.weaken fun b q => q.elim).trans (x2.weaken fun b q => q.elim)).trans ((x3.more.weaken fun b q => q.elim).trans x4)) (fun b hb => ?_) K4 (up fL) (up fD) h
  rcases hb with (q | ⟨y, hy, _⟩) | q | q
  · exact up (q ▸ fL)
  · exact absurd hy (H.nocell y)
  · exact none_of_ext H.x (fun _ z => z) (fi b q)
  · exact up (q ▸ fD)
/-- what comes behind the iterator -/
noncomputable def CompGo (C : Cx) (A : Around) (env : Env) (sc : Scope) (cl : List (Str × Addr)) (Q : Value → Shared → Prop) (X : Expr) (it : Value) (s2 : Shared) : Prop :=
  G C.M A (newList []) (fun acc s₃ => G C.M A (newFunctionEnv sc env.globals cl [] env.qual none .none (some env)) (fun cenv s₄ => CG C.M A (.compStart X 0 it acc { cenv with scope := relabel sc env }) (fun _ s' => ∃ m, s'.heap.Ns cenv.locals m ∧ ∀ h', Heap.SameBut cenv.locals s'.heap h' → Q acc { s' with heap := h' }) s₄) s₃) s2
theorem comp_empty (H : CompIn C env ns l ρ s ρ1 s1 σ1 sc cl) (hh : A.handled = none) {i : Nat} {a : Addr} (ea : at? ρ1 i = some a) (ex : at? σ1 i = some (.idict [])) (h : Kn C ρ s Q (alloc σ1 (.list [])).1 (alloc σ1 (.list [])).2) : G C.M A (pyIter (.ref a)) (fun it s2 => CompGo C A env sc cl Q (.ListComp elt [⟨t, iter, ifs, 0⟩] sc p) it s2) s1 := by
  obtain ⟨kvs, ⟨o, es, ep, g, ⟨hc, _⟩, hd, _, hp, _⟩, f⟩ := H.R.objs _ _ _ ex ea
  cases f
  have hz : es.size = 0 := by rw [← Array.length_toList, hp.length]; rfl
  refine G.of (keys_start H.O H.R (mem_at ea) g hc hd fun it s2 R2 x2 hf hoi hl g2 hit => comp_open H.O R2 (H.F.extE x2) H.hk H.ho H.c2 H.c3 fun L D s3 R3 x3 fL fD K3 => ?_)
  have live : ∃ o, s2.heap.get? it = some o := let ⟨o, g, _⟩ := hit; ⟨o, g⟩
  have hit3 : s3.heap.IsKeyIter it a 0 es.size ep := let ⟨o, g, q⟩ := hit; ⟨o, x3.keep _ _ g (fun z => nomatch z) (fun z => z), q⟩
  have hiD : D ≠ it := fun q => by
    obtain ⟨o, g⟩ := live
    rw [← q, fD] at g; cases g
  have ap := H.apart fL hf live
  have loop : CG C.M A (.compLoop (.ListComp elt [⟨t, iter, ifs, 0⟩] sc p) 0 (.ref it) (.ref D) (compEnvC sc cl L env)) (fun _ s'' => ∃ m, s''.heap.Ns L m ∧ ∀ h', Heap.SameBut L s''.heap h' → Q (.ref D) { s'' with heap := h' }) s3 := by
    refine g_compLoop (G.of (raw_end hh hit3 (x3.keep _ _ g2 (fun z => nomatch z) (fun z => z)) hd (Array.getElem?_eq_none_iff.mpr (Nat.le_of_eq hz)) fun h' hs => ?_))
    have x4 : Ext (· = it) ρ1 s3 ρ1 { s3 with heap := h' } := Ext.but (t := s3.toks) fun b o hb e => hs b o hb e
    have R4 : Rel C ρ1 σ1 h' := R3.beside (its := [it]) (fun b hb => single (P := fun b => b ∉ ρ1 ∧ C.h₁.objs.size ≤ b) hb ⟨hoi, hl⟩) fun b o hb e => hs b o (fun q => hb (List.mem_singleton.mpr q)) e
    have K4 := K3.ext x4 (fun b hb => hb ▸ ap it (List.mem_singleton.mpr rfl)) fun q => hiD q
    exact H.close (its := [it]) (s4 := { s3 with heap := h' }) x2 x3 fL fD (fun b hb => single (P := fun b => s1.heap.get? b = none) hb hf) R4 (x4.weaken fun b q => .inr (.inl (List.mem_singleton.mpr q))) K4 h
  exact g_compStart loop (G.of (wpAny_pyIter_keyiter hit3 loop))
theorem comp_scan (S : Stat C) (H : CompIn C env ns l ρ s ρ1 s1 σ1 sc cl) (hh : A.handled = none) (hu : A.units + 70 < cLine) {i : Nat} {a : Addr} {x : Str} {c : Expr} {px1 px2 : Pos} {kv : List (List (List Int) × Nat × AV)} {vs : List AV} (ea : at? ρ1 i = some a) (ex : at? σ1 i = some (.pdict kv)) (hl : kv.length < 4096)
    (es : scanG C.T sc.names σ1 x c (strip sc.names l) kv = some vs) (h : Kn C ρ s Q (alloc σ1 (.list vs)).1 (alloc σ1 (.list vs)).2) : G C.M A (pyIter (.ref a)) (fun it s2 => CompGo C A env sc cl Q (.ListComp (.Name x px1) [⟨.Name x px2, iter, [c], 0⟩] sc p) it s2) s1 := by
  obtain ⟨xs, ⟨es', ep, g, he, hnd⟩, f⟩ := H.R.objs _ _ _ ex ea
  refine G.of (keys_start H.O H.R (mem_at ea) g rfl rfl fun it s2 R2 x2 hf hoi hl' g2 hit => comp_open H.O R2 (H.F.extE x2) H.hk H.ho H.c2 H.c3 fun L D s3 R3 x3 fL fD K3 => ?_)
  have live : ∃ o, s2.heap.get? it = some o := let ⟨o, g, _⟩ := hit; ⟨o, g⟩
  have hit3 : s3.heap.IsKeyIter it a 0 es'.size ep := let ⟨o, g, q⟩ := hit; ⟨o, x3.keep _ _ g (fun z => nomatch z) (fun z => z), q⟩
  have hiD : D ≠ it := fun q => by
    obtain ⟨o, g⟩ := live
    rw [← q, fD] at g; cases g
  have loop := scanG_sound (env := compEnvC sc cl L env) (iter := iter) (p1 := px1) (p2 := px2) (pos := p) (scope := sc) (A := A) S H.O hh hu he (H.apart fL hf live) hiD (fun x v q => let ⟨_, _, z⟩ := lk_strip q; z) H.nocell (k := 0) (acc := []) es (by simpa using hl) R3 K3 ⟨mem_at ea, x3.keep _ _ g2 (fun z => nomatch z) (fun z => z), hoi, hl', hit3⟩ (by simpa using f) fun s4 R4 x4 K4 =>
    H.close (Q := Q) x2 x3 fL fD (fun b hb => single (P := fun b => s1.heap.get? b = none) hb hf) R4 x4 K4 h
  exact g_compStart loop (G.of (wpAny_pyIter_keyiter hit3 loop))
theorem comp_gen (H : CompIn C env ns l ρ s ρ1 s1 σ1 sc cl) (hG : SG C d r.G) (rm : Room A d) {kd : SKd} {q : List AV × AS} (h1 : VRel C ρ1 src val) (ek : kindOfSrc σ1 src = some kd) (eg : r.G elt t ifs src kd 0 [] sc.names (strip sc.names l) σ1 = some q)
    (h : Kn C ρ s Q (alloc q.2 (.list q.1)).1 (alloc q.2 (.list q.1)).2) : G C.M A (pyIter val) (fun it s2 => CompGo C A env sc cl Q (.ListComp elt [⟨t, iter, ifs, 0⟩] sc p) it s2) s1 := by
  refine G.of (iter_sound H.O H.R h1 ek fun i it s2 es hkd R2 x2 hf I => comp_open H.O R2 (H.F.extE x2) H.hk H.ho H.c2 H.c3 fun L D s3 R3 x3 fL fD K3 => ?_)
  subst es
  have I3 := I.ext (x3.more (ρ := ρ1)) fun b _ q => q
  have live : ∃ o, s2.heap.get? it = some o := I.live it (List.mem_singleton.mpr rfl)
  have hiD : D ∉ [it] := fun q => by
    obtain ⟨o, g⟩ := live
    rw [← List.mem_singleton.mp q, fD] at g; cases g
  have loop := hG (σ' := q.2) (vs := q.1) (env := compEnvC sc cl L env) (iter := iter) (pos := p) (scope := sc) (A := A) eg rm R3 K3 (fun x v q => let ⟨_, _, z⟩ := lk_strip q; z) H.nocell I3 (H.apart fL hf live) hiD (fun q => absurd q hkd) fun ρ4 s4 R4 x4 K4 =>
    H.close (Q := Q) x2 x3 fL fD (fun b hb => single (P := fun b => s1.heap.get? b = none) hb hf) R4 x4 K4 h
  exact g_compStart loop (G.of (iter_again hkd I3 loop))
/-- what is to be shown of the iterator -/
noncomputable def CompG (C : Cx) (A : Around) (env : Env) (sc : Scope) (cl : List (Str × Addr)) (Q : Value → Shared → Prop) (p : Pos) (elt : Expr) (g : Comprehension) (val : Value) (s1 : Shared) : Prop := G C.M A (pyIter val) (fun it s2 => CompGo C A env sc cl Q (.ListComp elt [g] sc p) it s2) s1
theorem comp_src (S : Stat C) (H : CompIn C env ns l ρ s ρ1 s1 σ1 sc cl) (hG : SG C d r.G) (rm : Room A d) {v : AV} (h1 : VRel C ρ1 src val) (e : compS C.T r elt ⟨t, iter, ifs, 0⟩ sc.names (strip sc.names l) src σ1 = some (v, σ')) (h : Kn C ρ s Q v σ') : CompG C A env sc cl Q p elt ⟨t, iter, ifs, 0⟩ val s1 := by
  refine orC e (fun e => thenC e fun i ei e => h1.rOwn (P := fun val => CompG C A env sc cl Q p elt ⟨t, iter, ifs, 0⟩ val s1) ei fun a ea => orC e
    (fun e => thenC e fun kv ex e => thenC e fun u e2 e => ?_) fun e => thenC e fun kv ex e => thenC e fun x ex1 e => thenC e fun y ey e => thenC e fun c ec e => whenC e fun hq e => and2 hq fun h2 h3 => thenC e fun vs es e9 => ?_)
    fun e => thenC e fun kd ek e => thenC e fun w eg e => ?_
  · exact q2 (P := fun v σ' => Kn C ρ s Q v σ' → CompG C A env sc cl Q p elt ⟨t, iter, ifs, 0⟩ _ s1) e (fun h => comp_empty H rm.2.2 ea (nil_is e2 ▸ atIdict ex) h) h
  · have h2 := (seq_iff _ _).mp h2
    subst h2
    obtain ⟨px1, z1⟩ := isName_is ex1
    obtain ⟨px2, z2⟩ := isName_is ey
    have z3 : ifs = [c] := one_is ec
    have z2 : t = .Name x px2 := z2
    subst z1 z2 z3
    exact q2 (P := fun v σ' => Kn C ρ s Q v σ' → CompG C A env sc cl Q p (.Name x px1) ⟨.Name x px2, iter, [c], 0⟩ _ s1) e9 (fun h => comp_scan S H rm.2.2 rm.units ea (atPdict ex) (Nat.le_of_ble_eq_true h3) es h) h
  · exact q2 (P := fun v σ' => Kn C ρ s Q v σ' → CompG C A env sc cl Q p elt ⟨t, iter, ifs, 0⟩ _ s1) e (fun h => comp_gen H hG rm h1 ek eg h) h
end
theorem E_ListComp (S : Stat C) (O : Ok C) (hE : SE C d r.E) (hG : SG C d r.G) (rm : Room A d) {elt : Expr} {gens : List Comprehension} {sc : Scope} {p : Pos} {v : AV} {Q : Value → Shared → Prop} (e : stepE C.B C.T r (.ListComp elt gens sc p) ns l σ = some (v, σ')) (R : Rel C ρ σ s.heap) (F : FrameOk C env ns ρ l s.heap)
    (h : ∀ ρ' s' val, Rel C ρ' σ' s'.heap → Ext NoX ρ s ρ' s' → VRel C ρ' v val → Q val s') : G C.M A (eval (.ListComp elt gens sc p) env) Q s := by
  refine thenC e fun g eg e => oneC (P := fun gens => G C.M A (eval (.ListComp elt gens sc p) env) Q s) eg (whenC e fun hg e => and2 hg fun h0 hg => and3 hg fun hn hk ho => thenC e fun q e1 e => ?_)
  obtain ⟨t, iter, ifs, asy⟩ := g
  have h0 : asy = 0 := (eqB_iff _ _).mp h0
  subst h0
  have hk := okKind_is hk
  have hfree : ∀ x, (x, NameKind.free) ∈ sc.names → ∃ c, env.cells.lookup x = some c := fun x hx => x2a2 (F.cell x ((okComp_mem ho x _ hx).2.2.1 rfl)) fun c v₀ h1 _ => ⟨c, h1⟩
  refine x1a3 (closureFor_of (env := env) (scope := sc) hfree) fun cl c1 c2 c3 => ?_
  show G C.M A (comprehension (.ListComp elt [⟨t, iter, ifs, 0⟩] sc p) sc env iter.pos (newList []) false (eval iter env) none) Q s
  refine g_comprehension rfl (fun x => folded_off hn) c1 hk (fun x hx q => ?_) (hE e1 rm R F fun ρ1 s1 val R1 x1 h1 => ?_)
  · rw [← lk_eq]
    exact (okComp_mem ho x.1 _ (show (x.1, NameKind.local) ∈ sc.names by rw [← q]; exact hx)).2.1 rfl
  exact comp_src (p := p) S ⟨O, R1, F.extE x1, x1, hk, ho, c2, c3⟩ hG rm h1 e h
end
end Mine
-- M60
namespace Mine
open PySem PySem.W PySem.Calls PyProof.Rows PyProof PyProof.V PySem.SeqAt
section
variable {C : Cx} {A : Around} {s : Shared} {ρ ρ' : List Addr} {σ σ' : AS} {env : Env} {ns : List (Str × NameKind)} {l l' : Loc} {d : Nat} {r : Run} {fl : Fl}
theorem Room.deeper (rm : Room A (d + 1)) (env : Env) : Room (A.deeper env) d := by
  have h1 := rm.1
  have h2 := rm.2.1
  refine ⟨?_, ?_, rm.2.2⟩
  · show A.depth + 1 + 4 * d + 40 ≤ 1000
    omega
  · show A.units + 3 + 20 * d + 100 ≤ 9900
    omega
theorem Room.make (rm : Room A (d + 1)) (c : Addr) (vs : List Value) : Room (A.under (.builtin "type.__call__" ⟨.ref c :: vs, []⟩)) d := by
  have h1 := rm.1
  have h2 := rm.2.1
  have qp := under_make A c vs; have e1 := qp.1; have e2 := qp.2.1; have e3 := qp.2.2; clear qp
  refine ⟨?_, ?_, e3.trans rm.2.2⟩
  · rw [e1]; omega
  · rw [e2]; omega
theorem allT_sound (hT : ST C d r.T) (rm : Room A d) {op : BoolOp} {isAnd : Bool} (hop : (match op with | .And => true | .Or => false) = isAnd) : ∀ {es : List Expr} {ρ : List Addr} {σ σ' : AS} {s : Shared} {b : Bool} {Q : Bool → Shared → Prop},
    allT (fun e σ => r.T e ns l σ) isAnd es σ = some (b, σ') → Rel C ρ σ s.heap → FrameOk C env ns ρ l s.heap → (∀ ρ' s', Rel C ρ' σ' s'.heap → Ext NoX ρ s ρ' s' → Q b s') → G C.M A (allTrue op es env) Q s := by
  intro es
  induction es with
  | nil =>
    intro ρ σ σ' s b Q ev R F h
    (revert h; apply q2 ev; intro h)
    subst hop
    cases op <;> exact G.pure (h ρ s R Ext.refl)
  | cons e0 es ih =>
    intro ρ σ σ' s b Q ev R F h
    unfold allT at ev
    split at ev
    · rename_i b1 σ1 e1
      show G C.M A (isTrue e0 env (eval e0 env) >>= fun t => match op, t with
        | .And, false => pure false
        | .Or, true => pure true
        | _, _ => allTrue op es env) Q s
      refine G.bind (hT e1 rm R F fun ρ1 s1 R1 x1 => ?_)
      split at ev
      · rename_i hs
        have hb : b1 = isAnd := by rw [sameB_iff] at hs; exact eq_of_beq hs
        have go := ih ev R1 (F.extE x1) (fun ρ' s' R' x' => h ρ' s' R' (x1.trans x'))
        subst hb hop
        cases op <;> exact go
      · rename_i hs
        cases ev
        have hb : b ≠ isAnd := by rw [sameB_iff] at hs; intro z; subst z; simp at hs
        have go : G C.M A (pure b) Q s1 := G.pure (h ρ1 s1 R1 x1)
        subst hop
        cases op <;> cases b <;> first | exact go | exact absurd rfl hb
    · cases ev
theorem T_sound (hE : SE C d r.E) (hT : ST C d r.T) (O : Ok C) : ST C (d + 1) (stepT C.B C.T r) := by
  intro A env ns l ρ σ s e b σ' Q ev rm R F h
  have rm := rm.low
  have plain : (match r.E e ns l σ with | some (.bool b, σ1) => some (b, σ1) | _ => none) = some (b, σ') → isTrue e env (eval e env) = (do let v ← eval e env; standAt e.pos; holding [v] (truthy v)) → G C.M A (isTrue e env (eval e env)) Q s := fun ev eq => by
    rw [eq]
    split at ev
    · rename_i b' σ1 e1
      (revert h; apply q2 ev; intro h)
      refine G.bind (hE e1 rm R F fun ρ1 s1 val R1 x1 h1 => ?_)
      rw [vbool h1]
      exact G.bind (G.standAt (G.holding (g_truthy (h ρ1 s1 R1 x1))))
    · cases ev
  cases e <;> first | exact plain ev rfl | skip
  · rename_i op es p
    unfold stepT at ev
    dsimp only at ev
    show G C.M A (allTrue op es env) Q s
    exact allT_sound hT rm rfl ev R F h
  · rename_i op x p
    cases op <;> first | (cases ev; done) | skip
    have ev : (match r.T x ns l σ with | some (b, σ1) => some (b.not, σ1) | none => none) = some (b, σ') := ev
    split at ev
    · rename_i b1 σ1 e1
      (revert h; apply q2 ev; intro h)
      show G C.M A (isTrue x env (eval x env) >>= fun t => pure !t) Q s
      exact G.bind (hT e1 rm R F fun ρ1 s1 R1 x1 => G.pure (h ρ1 s1 R1 x1))
    · cases ev
  · rename_i t a c p
    have ev : (match r.T t ns l σ with | some (true, σ1) => r.T a ns l σ1 | some (false, σ1) => r.T c ns l σ1 | none => none) = some (b, σ') := ev
    show G C.M A (isTrue t env (eval t env) >>= fun q => if q then isTrue a env (eval a env) else isTrue c env (eval c env)) Q s
    split at ev
    · rename_i σ1 e1
      refine G.bind (hT e1 rm R F fun ρ1 s1 R1 x1 => ?_)
      rw [if_pos rfl]
      exact hT ev rm R1 (F.extE x1) fun ρ2 s2 R2 x2 => h ρ2 s2 R2 (x1.trans x2)
    · rename_i σ1 e1
      refine G.bind (hT e1 rm R F fun ρ1 s1 R1 x1 => ?_)
      rw [if_neg (by decide)]
      exact hT ev rm R1 (F.extE x1) fun ρ2 s2 R2 x2 => h ρ2 s2 R2 (x1.trans x2)
    · exact qN ev
  · rename_i a ops rs p
    unfold stepT at ev
    dsimp only at ev
    split at ev
    · cases ev
    · rename_i hn
      split at ev
      · rename_i x σ1 e1
        show G C.M A (eval a env >>= fun v => testChain p v ops (markedEach ops rs (evalEach rs env))) Q s
        exact G.bind (hE e1 rm R F fun ρ1 s1 val R1 x1 h1 => test_sound hE O rm ev hn h1 R1 (F.extE x1) fun ρ2 s2 R2 x2 => h ρ2 s2 R2 (x1.trans x2))
      · cases ev
theorem X_sound (S : Stat C) (O : Ok C) (hE : SE C d r.E) (hT : ST C d r.T) (hX : SX C d r.X) (hW : SW C d r.W) (hF : SF C d r.F) : SX C (d + 1) (stepX C.B C.T r) := by
  intro A env ns l ρ σ s e fl l' σ' Q ev rm R F h
  cases e <;> first | (cases ev; done) | skip
  all_goals first
    | exact X_Expr hE rm.low ev R F h
    | exact X_Return hE rm.low ev R F h
    | exact X_If hT hX rm.low ev R F h
    | exact X_While hW rm.low ev R F h
    | exact X_For S O hE hF rm.low ev R F h
    | exact X_Assign S hE O rm.low ev R F h
theorem E_sound (S : Stat C) (O : Ok C) (hE : SE C d r.E) (hT : ST C d r.T) (hC : SC C d r.C) (hK : SCode C d r.C) (hG : SG C d r.G) : SE C (d + 1) (stepE C.B C.T r) := by
  intro A env ns l ρ σ s e v σ' Q ev rm R F h
  cases e <;> first | (cases ev; done) | skip
  all_goals first
    | exact E_Constant ev R h
    | exact E_Name S ev R F h
    | exact E_BoolOp hE rm.low ev R F h
    | exact E_BinOp hE O rm.low ev R F h
    | exact E_UnaryOp hE rm.low ev R F h
    | exact E_IfExp hE hT rm.low ev R F h
    | exact E_List hE O rm.low ev R F h
    | exact E_Tuple hE O rm.low ev R F h
    | exact E_Dict hE O rm.low ev R F h
    | exact E_ListComp S O hE hG rm.low ev R F h
    | exact E_Compare hE O rm.low ev R F h
    | exact E_Attribute S hE hK rm ev R F h
    | exact E_Subscript hE O rm.low ev R F h
    | skip
  rename_i f args ks p
  cases f <;> first
    | exact E_CallA S hE hC O rm.low ev R F h
    | exact E_Call S hE hC rm.low (fun _ _ _ q => by cases q) ev R F h
/-- the drawing function draws what was told -/
noncomputable def TakeOk (C : Cx) (m : Nat) : Prop := ∀ {A : Around} {ρ : List Addr} {σ : AS} {s : Shared} {a : Nat} {args : List AV} {vs : List Value} {v : AV} {σ' : AS} {Q : Value → Shared → Prop}, isTake C.B a = true → takeC args σ = some (v, σ') → Room A (m + 1) → Rel C ρ σ s.heap → VsRel C ρ args vs →
    (∀ ρ' s' val, Rel C ρ' σ' s'.heap → Ext NoX ρ s ρ' s' → VRel C ρ' v val → Q val s') → CG C.M A (.call (.ref a) ⟨vs, []⟩) (fun f s' => ∃ v, f = .ret v ∧ Q v s') s
theorem K_sound (S : Stat C) (O : Ok C) {m : Nat} (tk : TakeOk C m) (hd : m ≤ d) (hX : SX C d r.X) (hK : SCode C d r.C) : SCode C (d + 1) (stepC C.B C.T r) := by
  intro A ρ σ s a args vs v σ' Q ev rm R ha h
  unfold stepC at ev
  dsimp only at ev
  split at ev
  · rename_i ht
    exact tk ht ev (rm.less (by omega)) R ha h
  split at ev
  · rename_i fn ef
    ((refine x2a1 (S.fn a fn ef) (fun o fd K => ?_)))
    split at ev
    · rename_i l hf
      have body : ∀ {fl : Fl} {l1 : Loc} {σ1 : AS}, evS (fun s l σ => r.X s fn.names l σ) fn.body l σ = some (fl, l1, σ1) → (∀ ρ' s' fv, Rel C ρ' σ1 s'.heap → Ext NoX ρ s ρ' s' → FlRel C ρ' fl fv → Q (match fv with | .ret v => v | _ => .none) s') →
          CG C.M A (.call (.ref a) ⟨vs, []⟩) (fun f s' => ∃ v, f = .ret v ∧ Q v s') s := fun e2 hq => by
        refine fn_call S O R K (by have := rm.depth; omega) hf ha fun env s1 F1 R1 x1 fr => ?_
        refine evS_sound hX (rm.deeper env) e2 R1 F1 fun ρ2 s2 fv R2 x2 F2 h2 => ⟨_, rfl, ?_⟩
        refine hq ρ2 s2 fv R2 (Ext.fresh ((x1.weaken fun b q => q.elim).trans x2) fun b q => .inr (fr b q)) h2
      split at ev
      · rename_i v1 l1 σ1 e2
        (revert h; apply q2 ev; intro h)
        refine body e2 fun ρ' s' fv R' x' h' => ?_
        cases h' with
        | ret h' => exact h ρ' s' _ R' x' h'
      · rename_i l1 σ1 e2
        (revert h; apply q2 ev; intro h)
        refine body e2 fun ρ' s' fv R' x' h' => ?_
        cases h'
        exact h ρ' s' _ R' x' .none
      · exact qN ev
    · cases ev
  · split at ev
    · rename_i k ek
      have K := S.cls a k ek
      simp only [lenL_eq, appL_eq] at ev
      split at ev
      · rename_i σ1 e1
        (revert h; apply q2 ev; intro h)
        have hS := S.kinAt R
        obtain ⟨hp, gs, dr, tk, os⟩ := s
        have none1 : hp.get? hp.objs.size = none := none_at _
        have R1 := push_rel (s := ⟨hp, gs, dr, tk, os⟩) O R (o := emptyDict) (x := .fields []) ⟨#[], ⟨_, Heap.get?_push_size _ rfl⟩, by simp [StrKeys], Nat.le_refl _, fun x => rfl⟩
        have R2 := push_rel (s := ⟨hp.push emptyDict, gs, dr, tk, os⟩) O R1 (o := instObj a hp.objs.size) (x := .inst a σ.length) ⟨hp.objs.size, at_app (by rw [at_push, R.len, if_pos rfl]), Heap.get?_push_size _ rfl⟩
        have sz : (hp.push emptyDict).objs.size = hp.objs.size + 1 := Heap.size_push ..
        have y1 : Ext NoX ρ ⟨hp, gs, dr, tk, os⟩ (ρ ++ [hp.objs.size]) ⟨hp.push emptyDict, gs, dr, tk, os⟩ := push_ext (s := ⟨hp, gs, dr, tk, os⟩)
        have y2 : Ext NoX (ρ ++ [hp.objs.size]) ⟨hp.push emptyDict, gs, dr, tk, os⟩ ((ρ ++ [hp.objs.size]) ++ [(hp.push emptyDict).objs.size]) ⟨(hp.push emptyDict).push (instObj a hp.objs.size), gs, dr, tk, os⟩ := push_ext (s := ⟨hp.push emptyDict, gs, dr, tk, os⟩)
        have y := y1.trans y2
        have own : VRel C ((ρ ++ [hp.objs.size]) ++ [(hp.push emptyDict).objs.size]) (.own (σ.length + 1)) (.ref (hp.objs.size + 1)) := by
          have := push_own (s := ⟨hp.push emptyDict, gs, dr, tk, os⟩) R1 (hp.push emptyDict).objs.size
          rw [List.length_append, List.length_singleton] at this
          rw [← sz]
          exact this
        refine g_make hS K.makes K.init.1 K.init.2 ?_
        have eσ : (σ ++ [AO.fields []]) ++ [AO.inst a σ.length] = σ ++ [.fields [], .inst a σ.length] := by simp
        rw [eσ] at R2
        refine CG.mono (hK e1 (rm.make a vs) R2 (.cons own (y.vs ha)) (Q := fun v' s' => v' = .none ∧ Q (.ref (hp.objs.size + 1)) s') fun ρ3 s3 val R3 x3 h3 => ?_) fun f s' ⟨v', e', q1, q2⟩ => ?_
        · first | exact qN h3 | exact qFT h3 | exact qTF h3 | exact qS h3 | cases h3
          exact ⟨rfl, h ρ3 s3 _ R3 (y.trans x3) (x3.v own)⟩
        · subst q1
          exact ⟨e', _, rfl, q2⟩
      · cases ev
    · cases ev
theorem C_sound (S : Stat C) (O : Ok C) {m : Nat} (tk : TakeOk C m) (hd : m ≤ d) (hX : SX C d r.X) (hK : SCode C d r.C) : SC C (d + 1) (stepC C.B C.T r) := by
  intro A ρ σ s fv fval args vs v σ' Q ev rm R hf ha h
  cases hf with
  | glob a => exact G.call (K_sound S O tk hd hX hK ev rm R ha h)
  | blt id => exact builtin_sound (f := (.blt id)) (args := args) O R rm.2.2 ev (.blt id) ha h
  | typ n => exact builtin_sound (f := (.typ n)) (args := args) O R rm.2.2 ev (.typ n) ha h
  | none => exact builtin_sound (f := .none) (args := args) O R rm.2.2 ev .none ha h
  | bool b => exact builtin_sound (f := (.bool b)) (args := args) O R rm.2.2 ev (.bool b) ha h
  | int t e => exact builtin_sound (f := (.int _)) (args := args) O R rm.2.2 ev (.int t e) ha h
  | str x t => exact builtin_sound (f := (.str x)) (args := args) O R rm.2.2 ev (.str x t) ha h
  | bytes t e => exact builtin_sound (f := (.bytes _)) (args := args) O R rm.2.2 ev (.bytes t e) ha h
  | bnd t e => exact builtin_sound (f := .bnd _ _ _) (args := args) O R rm.2.2 ev (.bnd t e) ha h
  | own e => exact builtin_sound (f := (.own _)) (args := args) O R rm.2.2 ev (.own e) ha h
/-- the run is sound, however long -/
structure Sound (C : Cx) (d : Nat) (r : Run) : Prop where
  sE : SE C d r.E
  sT : ST C d r.T
  sX : SX C d r.X
  sC : SC C d r.C
  sK : SCode C d r.C
  sW : SW C d r.W
  sF : SF C d r.F
  sG : SG C d r.G
theorem nope {α : Type} {x : α} (e : none = some x) {P : Prop} : P := by cases e
theorem run_sound (S : Stat C) (O : Ok C) {m : Nat} (tk : TakeOk C m) : ∀ n, Sound C (n + m) (run C.B C.T n)
  | 0 => ⟨fun e => nope e, fun e => nope e, fun e => nope e, fun e => nope e, fun e => nope e, fun e => nope e, fun e => nope e, fun e => nope e⟩
  | n + 1 => by
    have h := run_sound S O tk n
    have hd : m ≤ n + m := Nat.le_add_left _ _
    rw [show n + 1 + m = (n + m) + 1 by omega]
    exact ⟨E_sound S O h.sE h.sT h.sC h.sK h.sG, T_sound h.sE h.sT O, X_sound S O h.sE h.sT h.sX h.sW h.sF, C_sound S O tk hd h.sX h.sK, K_sound S O tk hd h.sX h.sK, W_sound h.sT h.sX h.sW, F_sound O h.sX h.sF, G_sound O h.sE h.sT h.sG⟩
theorem takeOk_none (h : C.B.take = none) : TakeOk C 0 := fun {A ρ σ s a args vs v σ' Q} ht => by
  unfold isTake at ht
  rw [h] at ht
  cases ht
end
end Mine
namespace Mine
open PySem PySem.W PySem.Calls PyProof.Rows PyProof PyProof.V PySem.SeqAt
theorem keyIs_eq (x : Str) (v : Value) : v.isStr x = keyIs x v := by
  cases v with
  | str s t =>
    show (s == x) = seq s x
    cases q : seq s x with
    | true => rw [(seq_iff _ _).mp q]; simp
    | false => exact beq_eq_false_iff_ne.mpr (seq_false q)
  | _ => rfl
theorem nsL_find (x : Str) : ∀ (l : List DictEntry), nsL l x = (l.find? (·.key.isStr x)).map (·.val)
  | [] => rfl
  | e :: r => by
    rw [List.find?_cons, keyIs_eq]
    show @Bool.rec (fun _ => Option Value) (nsL r x) (some e.val) (keyIs x e.key) = _
    cases keyIs x e.key with
    | true => rfl
    | false => exact nsL_find x r
theorem nsL_eq (es : Array DictEntry) (x : Str) : nsL es.toList x = nsFind es x := by
  unfold nsFind findBy
  rw [← Array.find?_toList]
  exact nsL_find x _
theorem strKeysB_of : ∀ {l : List DictEntry}, strKeysB l = true → ∀ e ∈ l, ∃ n t, e.key = .str n t
  | [], _, e, h => by cases h
  | d :: l, q, e, h => by
    unfold strKeysB at q
    split at q
    · rename_i s t hk
      rcases List.mem_cons.mp h with rfl | h
      · exact ⟨s, t, hk⟩
      · exact strKeysB_of q e h
    · cases q
theorem ns_of {h : Heap} {a : Addr} {o : Obj} {es : Array DictEntry} {ep : Nat} (g : h.get? a = some o) (hd : o.data = .dict es ep) (hk : strKeysB es.toList = true) : h.Ns a (nsFind es) :=
  ⟨o, es, ep, g, hd, fun e he => strKeysB_of hk e (Array.mem_toList_iff.mpr he), fun _ => rfl⟩
theorem avIs_rel {C : Cx} {v : AV} {x : Value} (h : avIs v x = true) : VRel C [] v x := by
  cases v with
  | none =>
    cases x with
    | none => exact .none
    | _ => exact qFT h
  | bool a =>
    cases x with
    | bool b => exact eq_of_beq ((sameB_iff a b).symm.trans h) ▸ .bool _
    | _ => exact qFT h
  | int e =>
    cases e with
    | lit n =>
      cases x with
      | int m t => exact .int t ((eqB_iff _ _).mp h ▸ show SI.rel _ (.lit _) _ by simp [SI.rel])
      | _ => exact qFT h
    | _ => exact qFT h
  | str s =>
    cases x with
    | str s' t => exact (seq_iff _ _).mp h ▸ .str _ t
    | _ => exact qFT h
  | bytes e =>
    cases e with
    | lit n =>
      cases x with
      | bytes b t => exact .bytes t ((eqB_iff n _).mp h ▸ show SI.rel _ (.lit _) _ by simp [SI.rel])
      | _ => exact qFT h
    | _ => exact qFT h
  | glob a =>
    cases x with
    | ref b => exact Nat.eq_of_beq_eq_true h ▸ .glob _
    | _ => exact qFT h
  | blt i =>
    cases x with
    | builtin j => exact eq_of_beq h ▸ .blt _
    | _ => exact qFT h
  | typ i =>
    cases x with
    | type j => exact eq_of_beq h ▸ .typ _
    | _ => exact qFT h
  | own i => exact qFT h
  | bnd lo hi n => exact qFT h
theorem avsAre_rel {C : Cx} : ∀ {l : List AV} {vs : List Value}, avsAre l vs = true → VsRel C [] l vs
  | [], [], _ => .nil
  | [], _ :: _, h => by cases h
  | _ :: _, [], h => by cases h
  | a :: l, v :: vs, h => by
    ((refine x0a2 (Bool.and_eq_true_iff.mp (show ((avIs a v).and (avsAre l vs)) = true from h)) (fun h1 h2 => ?_)))
    exact .cons (avIs_rel h1) (avsAre_rel h2)
theorem codeL_in {K : Frag} {L : Nat → Option Obj} (hL : ∀ a, K.lookup a = L a) {q : Str} {v : Value} (h : codeL L q v = true) : codeIn K v q = true := by
  unfold codeL at h
  split at h
  · split at h
    · rename_i e
      split at h
      · rename_i e'
        unfold codeIn
        dsimp only
        rw [hL, e]
        dsimp only
        rw [e']
        exact beq_iff_eq.mpr ((seq_iff _ _).mp h)
      · cases h
    · cases h
  · cases h
theorem fnL_in {K : Frag} {L : Nat → Option Obj} (hL : ∀ a, K.lookup a = L a) {a : Nat} (h : fnL L a = true) : typeIn K (.ref a) = some (.type "function") ∧ keepIn K (.ref a) = true := by
  unfold fnL at h
  split at h
  · rename_i e
    unfold typeIn keepIn
    dsimp only
    rw [hL, e]
    rw [eq_of_beq h]
    exact ⟨rfl, rfl⟩
  · cases h
theorem dictL_in {K : Frag} {L : Nat → Option Obj} (hL : ∀ a, K.lookup a = L a) {a : Nat} {x : Str} {r : Option Value} (h : dictL (L a) x = some r) : nsIn K a x = some r := by
  unfold dictL at h
  split at h
  · rename_i es _ _ e
    unfold nsIn
    rw [hL, e]
    dsimp only
    rw [nsL_find] at h
    cases q : es.toList.find? (·.key.isStr x) with
    | some en => rw [q] at h; exact h
    | none =>
      rw [q] at h
      have h : @Bool.rec (fun _ => Option (Option Value)) (some none) none (es.toList.any (·.refKey)) = some r := h
      dsimp only
      cases z : es.toList.any (·.refKey) with
      | true => rw [z] at h; cases h
      | false => rw [z] at h; exact h
  · cases h
theorem ownL_in {K : Frag} {L : Nat → Option Obj} (hL : ∀ a, K.lookup a = L a) {x : Str} {v : Value} {r : Option Value} (h : ownL L x v = some r) : ownIn K x v = some r := by
  unfold ownL at h
  split at h
  · split at h
    · rename_i e
      unfold ownIn
      dsimp only
      rw [hL, e]
      exact dictL_in hL h
    · cases h
  · exact h
  · cases h
theorem alongL_in {K : Frag} {L : Nat → Option Obj} (hL : ∀ a, K.lookup a = L a) {x : Str} : ∀ {l : List Value} {r : Option Value}, alongL L x l = some r → alongIn K x l = some r
  | [], _, h => h
  | c :: l, r, h => by
    have h : @Option.rec (Option Value) (fun _ => Option (Option Value)) none (fun o => @Option.rec Value (fun _ => Option (Option Value)) (alongL L x l) (fun v => some (some v)) o) (ownL L x c) = some r := h
    unfold alongIn
    cases q : ownL L x c with
    | none => rw [q] at h; cases h
    | some o =>
      rw [q] at h
      rw [ownL_in hL q]
      cases o with
      | some v => exact h
      | none => exact alongL_in hL h
theorem findL_in {K : Frag} {L : Nat → Option Obj} (hL : ∀ a, K.lookup a = L a) {c : Nat} {x : Str} {r : Option Value} (h : findL L c x = some r) : findIn K (.ref c) x = some r := by
  unfold findL at h
  split at h
  · rename_i e
    unfold findIn
    dsimp only
    rw [hL, e]
    exact alongL_in hL h
  · cases h
theorem psOk_of {ns : List (Str × NameKind)} : ∀ {l : List Str}, psOk ns l = true → ∀ x ∈ l, lk ns x = some .local ∨ lk ns x = some .cell
  | [], _, x, h => by cases h
  | y :: l, q, x, h => by
    ((refine x0a2 (Bool.and_eq_true_iff.mp (show (Bool.and _ (psOk ns l)) = true from q)) (fun q1 q2 => ?_)))
    rcases List.mem_cons.mp h with rfl | h
    · split at q1
      · left; assumption
      · right; assumption
      · cases q1
    · exact psOk_of q2 x h
theorem not_seq {u w : Str} (q : (seq u w).not = true) : (u == w) = false := by
  refine beq_eq_false_iff_ne.mpr (seq_false ?_)
  cases z : seq u w with
  | true => rw [z] at q; cases q
  | false => rfl
theorem fineN_of : ∀ {ns : List (Str × NameKind)}, fineN ns = true → ∀ x k, (x, k) ∈ ns → ((x == ("__debug__" : Str)) = false ∧ (x == ("__classdict__" : Str)) = false) ∧ k ≠ .free
  | [], _, x, k, h => by cases h
  | (y, k') :: ns, q, x, k, h => by
    unfold fineN at q
    ((refine x0a2 (Bool.and_eq_true_iff.mp q) (fun q1 q2 => ?_)))
    ((refine x0a2 (Bool.and_eq_true_iff.mp q1) (fun q3 q4 => ?_)))
    ((refine x0a2 (Bool.and_eq_true_iff.mp q4) (fun q5 q6 => ?_)))
    rcases List.mem_cons.mp h with z | h
    · cases z
      refine ⟨⟨not_seq q3, not_seq q5⟩, fun z => ?_⟩
      subst z; cases q6
    · exact fineN_of q2 x k h
theorem fnOk_of {C : Cx} {L : Nat → Option Obj} (hL : ∀ a, C.K.lookup a = L a) (X : C.K.In C.h₁) {a : Nat} {ds : List AV} (h : fnOk L a ds = true) : ∃ o fd, FnOk C a (fnFrom L a ds) o fd := by
  unfold fnOk at h
  split at h
  · rename_i oc od fd sl hl
    split at h
    · rename_i b hb
      ((refine x0a2 (Bool.and_eq_true_iff.mp h) (fun h1 h => ?_)))
      ((refine x0a2 (Bool.and_eq_true_iff.mp h) (fun h2 h => ?_)))
      ((refine x0a2 (Bool.and_eq_true_iff.mp h) (fun h3 h => ?_)))
      ((refine x0a2 (Bool.and_eq_true_iff.mp h) (fun h4 h => ?_)))
      ((refine x0a2 (Bool.and_eq_true_iff.mp h) (fun h5 h => ?_)))
      ((refine x0a2 (Bool.and_eq_true_iff.mp h) (fun h6 h => ?_)))
      ((refine x0a2 (Bool.and_eq_true_iff.mp h) (fun h7 h => ?_)))
      ((refine x0a2 (Bool.and_eq_true_iff.mp h) (fun h8 h => ?_)))
      ((refine x0a2 (Bool.and_eq_true_iff.mp h) (fun h9 h => ?_)))
      ((refine x0a2 (Bool.and_eq_true_iff.mp h) (fun h10 h => ?_)))
      ((refine x0a2 (Bool.and_eq_true_iff.mp h) (fun h11 h => ?_)))
      ((refine x0a2 (Bool.and_eq_true_iff.mp h) (fun h12 h => ?_)))
      ((refine x0a2 (Bool.and_eq_true_iff.mp h) (fun h13 h => ?_)))
      ((refine x0a2 (Bool.and_eq_true_iff.mp h) (fun h14 h15 => ?_)))
      have e : fnFrom L a ds = ⟨fd.params.args.map (·.arg), ds, b, fd.scope.names⟩ := by
        unfold fnFrom
        rw [hl]
        dsimp only
        rw [hb]
      rw [e]
      have nn : ∀ {x : Bool}, x.not = true → x = false := fun {x} q => by cases x <;> first | rfl | cases q
      refine ⟨_, fd, X _ _ ((hL _).trans hl), rfl, hb, rfl, okKind_is h1, nn h2, nn h3, List.isEmpty_iff.mp h4, Nat.eq_of_beq_eq_true h5, Nat.eq_of_beq_eq_true h6, codeRec_of X (codeL_in hL h7), List.isEmpty_iff.mp h8, List.isEmpty_iff.mp h9, Option.isNone_iff_eq_none.mp h10, Option.isNone_iff_eq_none.mp h11, rfl, ?_, psOk_of h13, fun x k e => fineN_of h14 x k (lk_mem e), (fnL_in hL h15).2⟩
      unfold dsAre at h12
      split at h12
      · rename_i hd
        split at h12
        · exact ⟨#[], .nil, .inl ⟨hd, rfl⟩⟩
        · cases h12
      · rename_i d hd
        split at h12
        · rename_i items n sl' hd'
          exact ⟨items, avsAre_rel h12, .inr ⟨d, _, n, hd, X _ _ ((hL _).trans hd'), rfl⟩⟩
        · cases h12
      · cases h12
    · cases h
  · cases h
theorem isR_of {o : Option (Option Value)} {a : Nat} (h : isR o a = true) : o = some (some (.ref a)) := by
  unfold isR at h
  split at h
  · rw [Nat.eq_of_beq_eq_true h]
  · cases h
theorem isNN_of {o : Option (Option Value)} (h : isNN o = true) : o = some none := by
  unfold isNN at h
  split at h
  · rfl
  · cases h
theorem isB_of {o : Option (Option Value)} {i : String} (h : isB o i = true) : o = some (some (.builtin i)) := by
  unfold isB at h
  split at h
  · rw [eq_of_beq h]
  · cases h
theorem methOk_of {K : Frag} {L : Nat → Option Obj} (hL : ∀ a, K.lookup a = L a) {c : Nat} : ∀ {l : List (Str × Nat)}, methOk L c l = true → ∀ x f, lk l x = some f → findIn K (.ref c) x = some (some (.ref f)) ∧ typeIn K (.ref f) = some (.type "function") ∧ keepIn K (.ref f) = true
  | [], _, x, f, h => by cases h
  | m :: l, q, x, f, h => by
    ((refine x0a2 (Bool.and_eq_true_iff.mp (show (Bool.and _ (methOk L c l)) = true from q)) (fun q1 q2 => ?_)))
    ((refine x0a2 (Bool.and_eq_true_iff.mp q1) (fun q3 q4 => ?_)))
    obtain ⟨y, g⟩ := m
    rw [lk_cons] at h
    split at h
    · rename_i z
      cases h
      subst z
      exact ⟨findL_in hL (isR_of q3), fnL_in hL q4⟩
    · exact methOk_of hL q2 x f h
theorem propOk_of {K : Frag} {L : Nat → Option Obj} (hL : ∀ a, K.lookup a = L a) {c : Nat} : ∀ {l : List (Str × Nat)}, propOk K L c l = true → ∀ x f, lk l x = some f → ∃ p rest, findIn K (.ref c) x = some (some (.ref p)) ∧ specialIn K (.ref p) "__get__" = some (some (Value.builtin "property.__get__")) ∧ takesIn K (.ref p) = some true ∧ recIn K p "property" = some (.ref f :: rest)
  | [], _, x, f, h => by cases h
  | m :: l, q, x, f, h => by
    ((refine x0a2 (Bool.and_eq_true_iff.mp (show (Bool.and _ (propOk K L c l)) = true from q)) (fun q1 q2 => ?_)))
    obtain ⟨y, g⟩ := m
    rw [lk_cons] at h
    split at h
    · rename_i z
      cases h
      subst z
      dsimp only at q1
      split at q1
      · rename_i p hp
        ((refine x0a2 (Bool.and_eq_true_iff.mp q1) (fun q3 q4 => ?_)))
        ((refine x0a2 (Bool.and_eq_true_iff.mp q4) (fun q5 q6 => ?_)))
        split at q6
        · rename_i f' rest hr
          rw [Nat.eq_of_beq_eq_true q6] at hr
          exact ⟨p, rest, findL_in hL hp, eq_of_beq q3, eq_of_beq q5, hr⟩
        · cases q6
      · cases q1
    · exact propOk_of hL q2 x f h
theorem fldOk_of {K : Frag} {L : Nat → Option Obj} (hL : ∀ a, K.lookup a = L a) {c : Nat} : ∀ {l : List Str}, fldOk L c l = true → ∀ x, memS x l = true → findIn K (.ref c) x = some none
  | [], _, x, h => by cases h
  | y :: l, q, x, h => by
    ((refine x0a2 (Bool.and_eq_true_iff.mp (show (Bool.and _ (fldOk L c l)) = true from q)) (fun q1 q2 => ?_)))
    unfold memS at h
    split at h
    · rename_i z
      rw [(seq_iff _ _).mp z]; exact findL_in hL (isNN_of q1)
    · exact fldOk_of hL q2 x h
theorem clsOk_of {C : Cx} {L : Nat → Option Obj} (hL : ∀ a, C.K.lookup a = L a) {c : Nat} {k : Cls} (h : clsOk C.K L c k = true) : ClsOk C c k := by
  ((refine x0a2 (Bool.and_eq_true_iff.mp h) (fun h1 h => ?_)))
  ((refine x0a2 (Bool.and_eq_true_iff.mp h) (fun h2 h => ?_)))
  ((refine x0a2 (Bool.and_eq_true_iff.mp h) (fun h3 h => ?_)))
  ((refine x0a2 (Bool.and_eq_true_iff.mp h) (fun h4 h => ?_)))
  ((refine x0a2 (Bool.and_eq_true_iff.mp h) (fun h5 h => ?_)))
  ((refine x0a2 (Bool.and_eq_true_iff.mp h) (fun h6 h => ?_)))
  ((refine x0a2 (Bool.and_eq_true_iff.mp h) (fun h7 h => ?_)))
  ((refine x0a2 (Bool.and_eq_true_iff.mp h) (fun h8 h => ?_)))
  ((refine x0a2 (Bool.and_eq_true_iff.mp h) (fun h9 h => ?_)))
  ((refine x0a2 (Bool.and_eq_true_iff.mp h) (fun h10 h11 => ?_)))
  ((refine x0a2 (Bool.and_eq_true_iff.mp h9) (fun g1 g2 => ?_)))
  refine ⟨h1, ⟨findL_in hL (isR_of h2), (fnL_in hL h3).1⟩, methOk_of hL h4, propOk_of hL h5, fldOk_of hL h6, h7, h8, ?_, findL_in hL (isB_of h10), h11⟩
  unfold plainGet
  rw [findL_in hL (isB_of g1), findL_in hL (isNN_of g2)]
  simp
theorem fnsOk_of {C : Cx} {L : Nat → Option Obj} (hL : ∀ a, C.K.lookup a = L a) (X : C.K.In C.h₁) : ∀ {l : List (Nat × Fn)}, fnsOk L l = true → fnsFrom L l = l → ∀ a f, nlk l a = some f → ∃ o fd, FnOk C a f o fd
  | [], _, _, a, f, h => by cases h
  | p :: l, q, e, a, f, h => by
    ((refine x0a2 (Bool.and_eq_true_iff.mp (show (Bool.and _ (fnsOk L l)) = true from q)) (fun q1 q2 => ?_)))
    obtain ⟨b, g⟩ := p
    have e : (b, fnFrom L b g.ds) :: fnsFrom L l = (b, g) :: l := e
    injection e with e1 e2
    injection e1 with _ e3
    have h : Bool.rec (motive := fun _ => Option _) (nlk l a) (some g) (Nat.beq b a) = some f := h
    cases z : Nat.beq b a with
    | true =>
      rw [z] at h
      cases h
      have := Nat.eq_of_beq_eq_true z
      subst this
      have := fnOk_of hL X q1
      dsimp only at this
      rw [e3] at this
      exact this
    | false =>
      rw [z] at h
      exact fnsOk_of hL X q2 e2 a f h
theorem clssOk_of {C : Cx} {L : Nat → Option Obj} (hL : ∀ a, C.K.lookup a = L a) : ∀ {l : List (Nat × Cls)}, clssOk C.K L l = true → ∀ a k, nlk l a = some k → ClsOk C a k
  | [], _, a, k, h => by cases h
  | p :: l, q, a, k, h => by
    ((refine x0a2 (Bool.and_eq_true_iff.mp (show (Bool.and _ (clssOk C.K L l)) = true from q)) (fun q1 q2 => ?_)))
    obtain ⟨b, g⟩ := p
    have h : Bool.rec (motive := fun _ => Option _) (nlk l a) (some g) (Nat.beq b a) = some k := h
    cases z : Nat.beq b a with
    | true =>
      rw [z] at h
      cases h
      have := Nat.eq_of_beq_eq_true z
      subst this
      exact clsOk_of hL q1
    | false =>
      rw [z] at h
      exact clssOk_of hL q2 a k h
theorem globsOk_of {C : Cx} {g b : List DictEntry} : ∀ {l : List (Str × AV)}, globsOk g b l = true → ∀ x v, lk l x = some v → ∃ val, (nsL g x = some val ∨ (nsL g x = none ∧ nsL b x = some val)) ∧ VRel C [] v val
  | [], _, x, v, h => by cases h
  | p :: l, q, x, v, h => by
    ((refine x0a2 (Bool.and_eq_true_iff.mp (show (Bool.and _ (globsOk g b l)) = true from q)) (fun q1 q2 => ?_)))
    obtain ⟨y, w⟩ := p
    rw [lk_cons] at h
    split at h
    · rename_i z
      cases h
      subst z
      dsimp only at q1
      split at q1
      · rename_i val hv
        exact ⟨val, .inl hv, avIs_rel q1⟩
      · rename_i hv
        split at q1
        · rename_i val hv'
          exact ⟨val, .inr ⟨hv, hv'⟩, avIs_rel q1⟩
        · cases q1
    · exact globsOk_of q2 x v h
theorem stat_of {C : Cx} {L : Nat → Option Obj} (hL : ∀ a, C.K.lookup a = L a) (X : C.K.In C.h₁) (h : seenB C.B C.K L (C.h₁.get? mainGlobals) (C.h₁.get? builtinsNs) (C.h₁.get? cStatics) = true) (hf : fnsFrom L C.B.fn = C.B.fn) : Stat C := by
  ((refine x0a2 (Bool.and_eq_true_iff.mp h) (fun h1 h => ?_)))
  ((refine x0a2 (Bool.and_eq_true_iff.mp h) (fun h2 h => ?_)))
  ((refine x0a2 (Bool.and_eq_true_iff.mp h) (fun h3 h => ?_)))
  ((refine x0a2 (Bool.and_eq_true_iff.mp h) (fun h4 h => ?_)))
  ((refine x0a2 (Bool.and_eq_true_iff.mp h) (fun h5 h => ?_)))
  ((refine x0a2 (Bool.and_eq_true_iff.mp h) (fun h6 h => ?_)))
  ((refine x0a2 (Bool.and_eq_true_iff.mp h) (fun h7 h8 => ?_)))
  ((refine x3a4 (isDict_of h3) (fun og eg ng g1 g2 g3 g4 => ?_)))
  ((refine x3a4 (isDict_of h4) (fun ob eb nb b1 b2 b3 b4 => ?_)))
  ((refine x3a4 (isDict_of h5) (fun os es nst s1 s2 s3 s4 => ?_)))
  rw [g4, b4] at h6 h7
  rw [s4] at h8
  refine ⟨X, ⟨nsFind es, ns_of s1 s2 s3, ?_⟩, ⟨nsFind eg, nsFind eb, ns_of g1 g2 g3, ns_of b1 b2 b3, fun x v e => ?_, ?_, ?_⟩, fnsOk_of hL X h1 hf, fun c k e => clssOk_of hL h2 c k e⟩
  · rw [← nsL_eq]
    unfold limOk at h8
    split at h8
    · assumption
    · cases h8
  · have := globsOk_of (C := C) h6 x v e
    rw [nsL_eq, nsL_eq] at this
    exact this
  · rw [← nsL_eq]
    ((refine x0a2 (Bool.and_eq_true_iff.mp h7) (fun q _ => ?_)))
    split at q
    · assumption
    · cases q
  · rw [← nsL_eq]
    ((refine x0a2 (Bool.and_eq_true_iff.mp h7) (fun _ q => ?_)))
    split at q
    · rename_i n hn
      rw [hn, eq_of_beq q]
    · cases q
end Mine
-- M62
namespace Mine
open PySem PySem.W PySem.Calls PyProof.Rows PyProof PyProof.V PySem.SeqAt
/-! from one context to another -/
theorem VRel.into {C C' : Cx} {ρ ρ' : List Addr} {v : AV} {x : Value} (h : VRel C ρ v x) (hi : ∀ e n, v = .int e → e.rel C.ν n → e.rel C'.ν n) (hb : ∀ e n, v = .bytes e → e.rel C.ν n → e.rel C'.ν n) (ho : ∀ i a, v = .own i → at? ρ i = some a → at? ρ' i = some a) : VRel C' ρ' v x := by
  cases h with
  | int t e => exact .int t (hi _ _ rfl e)
  | bytes t e => exact .bytes t (hb _ _ rfl e)
  | own e => exact .own (ho _ _ rfl e)
  | bnd t e => exact .bnd t e
  | none => exact .none
  | bool b => exact .bool b
  | str s t => exact .str s t
  | glob a => exact .glob a
  | blt i => exact .blt i
  | typ i => exact .typ i
theorem VsRel.one {C : Cx} {ρ : List Addr} {a : AV} {vs : List Value} (h : VsRel C ρ [a] vs) : ∃ v, vs = [v] ∧ VRel C ρ a v := by
  cases h with
  | cons h h' => cases h'; exact ⟨_, rfl, h⟩
theorem VsRel.two {C : Cx} {ρ : List Addr} {a b : AV} {vs : List Value} (h : VsRel C ρ [a, b] vs) : ∃ v w, vs = [v, w] ∧ VRel C ρ a v ∧ VRel C ρ b w := by
  cases h with
  | cons h h' =>
    ((refine x1a2 (h'.one) (fun w qr1 hw => ?_)); subst qr1)
    exact ⟨_, w, rfl, h, hw⟩
section
variable {C : Cx} {A : Around} {s : Shared} {ρ ρ' : List Addr} {σ σ' : AS}
/-- one object alone -/
theorem Rel.alone {h : Heap} {a : Addr} {o : AO} (hl : C.h₁.objs.size ≤ a) (base : ∀ b o, C.h₁.get? b = some o → h.get? b = some o) (ho : ORel C [a] [o] o a h) : Rel C [a] [o] h :=
  ⟨rfl, by simp, fun x hx => by simp at hx; rw [hx]; exact hl, base, fun i x b e1 e2 => by
    cases i with
    | zero => cases e1; cases e2; exact ho
    | succ i => rw [at_succ, at_nil] at e1; exact qN e1⟩
theorem Rel.pair {h : Heap} {a b : Addr} {o p : AO} (hne : a ≠ b) (hl : C.h₁.objs.size ≤ a) (hl2 : C.h₁.objs.size ≤ b) (base : ∀ b o, C.h₁.get? b = some o → h.get? b = some o) (ho : ORel C [a, b] [o, p] o a h) (hp : ORel C [a, b] [o, p] p b h) : Rel C [a, b] [o, p] h :=
  ⟨rfl, by simp [hne], fun x hx => by
      simp at hx
      rcases hx with rfl | rfl
      · exact hl
      · exact hl2, base, fun i x c e1 e2 => by
    cases i with
    | zero => cases e1; cases e2; exact ho
    | succ i =>
      cases i with
      | zero => cases e1; cases e2; exact hp
      | succ i => rw [at_succ, at_succ, at_nil] at e1; exact qN e1⟩
/-- what was done to one object, seen from all -/
theorem Rel.patch (R : Rel C ρ σ s.heap) {i : Nat} {a : Addr} {o o' : AO} (ei : at? σ i = some o) (ea : at? ρ i = some a) (hn : ∀ xs, o ≠ .tup xs) {s' : Shared} {ρ1 : List Addr} (x : Ext NoX [a] s ρ1 s') (base : ∀ b o, C.h₁.get? b = some o → s'.heap.get? b = some o)
    (ho : ORel C ρ (set? σ i o') o' a s'.heap) : Rel C ρ (set? σ i o') s'.heap ∧ Ext NoX ρ s ρ s' := by
  refine ⟨⟨by rw [len_set, R.len], R.nodup, R.new, base, fun j y b e1 e2 => ?_⟩, ⟨⟨[], by simp⟩, fun b h => .inl h, x.alive, fun b o e h1 h2 => x.keep b o e (fun q => h1 (by simp at q; rw [q]; exact mem_at ea)) h2, x.gens, x.drawn, x.os⟩⟩
  rw [at_set] at e1
  by_cases q : j = i
  · subst q
    rw [if_pos rfl, ei] at e1
    cases e1
    rw [ea] at e2; cases e2; exact ho
  · rw [if_neg q] at e1
    have hne : b ≠ a := fun z => q (nodup_at R.nodup (z ▸ e2) ea)
    have := (R.objs j y b e1 e2).keep (r := []) (TupsIn.set ei hn (o' := o')) (h' := s'.heap) fun x' hx => x.keep b x' hx (by simp [hne]) (fun z => z)
    rwa [List.append_nil] at this
end
/-! the draw -/
noncomputable def M31 : Int := 2147483646
theorem take_pos (T : Tab) (t : Nat) (ht : t = 2 ∨ t = 3 ∨ t = 5 ∨ t = 91 ∨ t = 200) (x y : Int) : (run B T 14).C (.glob 1936) [.own 0, .int (.lit (.ofNat t))] [.list [.bnd (some 1) none x, .bnd (some 0) (some M31) y]] =
    some (.bnd (some 0) (some ((t : Int) - 1)) (Int.fmod x t), [.list [.bnd (some 0) none (Int.fdiv x t), .bnd (some 0) (some M31) y]]) := by
  rcases ht with rfl | rfl | rfl | rfl | rfl <;> rfl
theorem take_zero (T : Tab) (t : Nat) (ht : t = 2 ∨ t = 3 ∨ t = 5 ∨ t = 91 ∨ t = 200) (y : Int) : (run B T 14).C (.glob 1936) [.own 0, .int (.lit (.ofNat t))] [.list [.int (.lit 0), .bnd (some 0) (some M31) y]] =
    some (.bnd (some 0) (some ((t : Int) - 1)) (Int.fmod (Int.fdiv (Int.fmod (nextSeed y * nextSeed y) 2147483629) 32) t), [.list [.int (.lit 0), .bnd (some 0) (some M31) (nextSeed y)]]) := by
  rcases ht with rfl | rfl | rfl | rfl | rfl <;> rfl
theorem Tape.ok {x y : Int} : ∀ {tp : List (Nat × Nat)}, Tape x y tp → 0 ≤ x ∧ 0 ≤ y ∧ y < seedMod
  | [], h => h
  | (t, r) :: tp, h => ⟨h.1, h.2.1, h.2.2.1⟩
theorem take_inv {σ σ' : AS} {args : List AV} {v : AV} (e : takeC args σ = some (v, σ')) {P : Prop} (k : ∀ q i t r tp, two? args = some q → vOwn q.1 = some i → vNat q.2 = some t → at? σ i = some (.src ((t, r) :: tp)) → v = .int (.lit (.ofNat r)) → σ' = set? σ i (.src tp) → P) : P :=
  thenC e fun q e1 e => thenC e fun i e2 e => thenC e fun top e3 e => thenC e fun tp es e => by
    cases tp with
    | nil => exact qN e
    | cons p tp =>
      refine whenC e fun hp e => ?_
      have ee := Prod.mk.inj (Option.some.inj e)
      obtain ⟨t, r⟩ := p
      have z : t = top := Nat.eq_of_beq_eq_true hp
      subst z
      exact k q i t r tp e1 e2 e3 (atSrc es) ee.1.symm ee.2.symm
theorem take_ok {C C0 : Cx} (hC : C0.prog = C.prog ∧ C0.w = C.w ∧ C0.ν = C.ν ∧ C0.h₁ = C.h₁) (hB : C.B = Bt) (hB0 : C0.B = B) (S : Stat C0) (O : Ok C0) : TakeOk C 29 := by
  intro A ρ σ s a args vs v σ' Q ht e rm R ha h
  have hM : C0.M = C.M := by unfold Cx.M; rw [hC.1, hC.2.1]
  have ea : a = 1936 := by
    unfold isTake at ht
    rw [hB] at ht
    exact (Nat.eq_of_beq_eq_true ht).symm
  subst ea
  refine take_inv e fun q i t r tp e1 e2 e3 es ev eσ => ?_
  subst ev eσ
  refine ha.rTwo (P := fun vs => CG C.M A (.call (.ref 1936) ⟨vs, []⟩) (fun f s' => ∃ v, f = .ret v ∧ Q v s') s) e1 fun v1 v2 h1 h2 => h1.rOwn (P := fun v1 => CG C.M A (.call (.ref 1936) ⟨[v1, v2], []⟩) (fun f s' => ∃ v, f = .ret v ∧ Q v s') s) e2 fun ad ead =>
    h2.rNat (P := fun v2 => CG C.M A (.call (.ref 1936) ⟨[.ref ad, v2], []⟩) (fun f s' => ∃ v, f = .ret v ∧ Q v s') s) e3 fun tk2 => ?_
  ((refine x4a2 (R.objs _ _ _ es ead) (fun x y t1 u1 g tape => ?_)))
  ((refine x0a5 (tape) (fun hx hy hy2 htop hcase => ?_)))
  have snd := run_sound S O (takeOk_none (by rw [hB0]; rfl)) 14
  have lo : C0.h₁.objs.size ≤ ad := by rw [hC.2.2.2]; exact R.new ad (mem_at ead)
  have base0 : ∀ b o, C0.h₁.get? b = some o → s.heap.get? b = some o := by rw [hC.2.2.2]; exact R.base
  have arg : ∀ {ρ1 : List Addr}, VsRel C0 [ad] [.own 0, .int (.lit (.ofNat t))] [.ref ad, .int (t : Int) tk2] := .cons (.own rfl) (.cons (.int tk2 (show SI.rel _ (.lit _) _ by simp [SI.rel])) .nil)
  have fin : ∀ {a0 a0' : AV} {y' : Int} {z : Int} {x' : Int}, VRel C0 [ad] a0 (.int x t1) → (run B C0.T 14).C (.glob 1936) [.own 0, .int (.lit (.ofNat t))] [.list [a0, .bnd (some 0) (some M31) y]] = some (.bnd (some 0) (some ((t : Int) - 1)) z, [.list [a0', .bnd (some 0) (some M31) y']]) →
      (∀ val ρ, VRel C0 ρ a0' val → ∃ u, val = .int x' u) → (r : Int) = z → Tape x' y' tp →
      CG C.M A (.call (.ref 1936) ⟨[.ref ad, .int (t : Int) tk2], []⟩) (fun f s' => ∃ v, f = .ret v ∧ Q v s') s := by
    intro a0 a0' y' z x' ha0 ev hval hr htape
    have R0 : Rel C0 [ad] [.list [a0, .bnd (some 0) (some M31) y]] s.heap := Rel.alone lo base0 ⟨_, g, .cons ha0 (.cons (.bnd _ ⟨fun _ q => by cases q; exact hy, fun _ q => by cases q; have e1 : seedMod = 2147483647 := rfl; have e2 : M31 = 2147483646 := rfl; omega⟩) .nil)⟩
    have ev' : (run C0.B C0.T 14).C (.glob 1936) [.own 0, .int (.lit (.ofNat t))] [.list [a0, .bnd (some 0) (some M31) y]] = some (.bnd (some 0) (some ((t : Int) - 1)) z, [.list [a0', .bnd (some 0) (some M31) y']]) := by rw [hB0]; exact ev
    have call := snd.sK ev' (A := A) (rm.less (by decide)) R0 (arg (ρ1 := [])) (Q := Q) fun ρ1 s1 val R1 x1 hv => ?_
    · rw [hM] at call; exact call
    · have e0 : at? ρ1 0 = some ad := by obtain ⟨r, rfl⟩ := x1.pre; rfl
      ((refine x1a2 (R1.objs 0 _ ad rfl e0) (fun items gi fi => ?_)))
      ((refine x2a3 (fi.two) (fun w1 w2 hw k1 k2 => ?_)))
      ((refine x1a1 (hval _ _ k1) (fun u3 qr3 => ?_)); subst qr3)
      cases k2 with
      | @bnd _ _ _ u4 k2 =>
        have hit : items = #[.int x' u3, .int y' u4] := by
          rw [← Array.toList_inj]; exact hw
        subst hit
        cases hv with
        | @bnd _ _ _ u5 kb =>
          have P := R.patch (o' := .src tp) es ead (fun _ q => by cases q) x1 (by rw [← hC.2.2.2]; exact R1.base) ⟨x', y', u3, u4, gi, htape⟩
          exact h ρ s1 _ P.1 P.2 (.int _ (show _ = _ by rw [← hr]; rfl))
  rcases hcase with ⟨c1, c2, c3⟩ | ⟨c1, c2, c3⟩
  · exact fin (.bnd _ ⟨fun _ q => by cases q; exact c1, fun _ q => by cases q⟩) (take_pos C0.T t htop x y) (fun val ρ k => by cases k with | bnd u _ => exact ⟨u, rfl⟩) c2 c3
  · subst c1
    exact fin (.int _ (by simp [SI.rel])) (take_zero C0.T t htop y) (fun val ρ k => by
      (apply VRel.cInt k; intro n u hn; clear k)
      ·
        have : n = 0 := hn
        subst this
        exact ⟨u, rfl⟩) c2 c3

end Mine
-- M63
namespace Mine
open PySem PySem.W PySem.Calls PyProof.Rows PyProof PyProof.V PySem.SeqAt
/-! contexts over the heap behind the top -/
structure Base (K : Frag) (h₁ : Heap) : Prop where
  inK : K.In h₁
  seen : seenB B K (fun a => K.lookup a) (h₁.get? mainGlobals) (h₁.get? builtinsNs) (h₁.get? cStatics) = true
  fns : fnsFrom (fun a => K.lookup a) fnTab = fnTab
  size : h₁.objs.size = 1970
  last : ∃ o, h₁.get? 1969 = some o
noncomputable abbrev cx (p : Program) (w : World) (K : Frag) (h₁ : Heap) (b : Tabs) (ν : Nu) (T : Tab) : Cx := ⟨p, w, ν, T, b, K, h₁⟩
section
variable {p : Program} {w : World} {K : Frag} {h₁ : Heap} {ν : Nu} {T : Tab}
theorem Base.stat (Z : Base K h₁) : Stat (cx p w K h₁ B ν T) := stat_of (fun _ => rfl) Z.inK Z.seen Z.fns
theorem Base.statT (Z : Base K h₁) : Stat (cx p w K h₁ Bt ν T) := stat_of (fun _ => rfl) Z.inK Z.seen Z.fns
theorem Base.ok (Z : Base K h₁) {b : Tabs} (hν : ν.Ok T) : Ok (cx p w K h₁ b ν T) :=
  ⟨hν, by show sysModules < h₁.objs.size; rw [Z.size]; decide, let ⟨o, e⟩ := Z.last; ⟨1969, o, e, Z.size⟩⟩
theorem Base.take (Z : Base K h₁) (hν : ν.Ok T) : TakeOk (cx p w K h₁ Bt ν T) 29 := take_ok (C := cx p w K h₁ Bt ν T) (C0 := cx p w K h₁ B ν T) ⟨rfl, rfl, rfl, rfl⟩ rfl rfl Z.stat (Z.ok hν)
theorem Base.sound (Z : Base K h₁) (hν : ν.Ok T) (n : Nat) : Sound (cx p w K h₁ B ν T) n (run B T n) := run_sound (C := cx p w K h₁ B ν T) Z.stat (Z.ok hν) (takeOk_none rfl) n
theorem Base.soundT (Z : Base K h₁) (hν : ν.Ok T) (n : Nat) : Sound (cx p w K h₁ Bt ν T) (n + 29) (run Bt T n) := run_sound (C := cx p w K h₁ Bt ν T) Z.statT (Z.ok hν) (Z.take hν) n
end
/-! frames without cells -/
noncomputable def noCell : List (Str × NameKind) → Bool
  | [] => true
  | (x, k) :: r => (match k with | .cell => false | .free => false | _ => true).and (noCell r)
theorem noCell_of : ∀ {l : List (Str × NameKind)}, noCell l = true → ∀ x, lk l x ≠ some .cell ∧ lk l x ≠ some .free
  | [], _, x => ⟨fun h => (by cases h), fun h => (by cases h)⟩
  | (y, k) :: l, h, x => by
    unfold noCell at h
    have qp := Bool.and_eq_true_iff.mp h; have h1 := qp.1; have h2 := qp.2; clear qp
    rw [lk_cons]
    split
    · refine ⟨fun q => ?_, fun q => ?_⟩ <;> (cases q; cases h1)
    · exact noCell_of h2 x
section
variable {C C' : Cx} {env : Env} {ns : List (Str × NameKind)} {ρ ρ' : List Addr} {l l' : Loc} {h : Heap} {s s' : Shared}
theorem FrameOk.into (F : FrameOk C env ns ρ l h) (e : C'.h₁ = C.h₁) (nc : noCell ns = true) (hρ : env.locals ∉ ρ') (hl : ∀ x v, lk l' x = some v → ∃ v0, lk l x = some v0 ∧ ∀ val, VRel C ρ v0 val → VRel C' ρ' v val) : FrameOk C' env ns ρ' l' h := by
  have no : ∀ {x}, lk ns x = some .cell ∨ lk ns x = some .free → False := fun {x} q => by
    rcases q with q | q
    · exact (noCell_of nc x).1 q
    · exact (noCell_of nc x).2 q
  refine ⟨F.kind, F.names, F.fine, F.gl, F.bl, ?_, fun x hx => (no hx).elim, F.apart, hρ, fun x c hx => (no hx).elim, e ▸ F.oldL, fun x c hx => (no hx).elim⟩
  ((refine x1a2 (F.loc) (fun m hm q => ?_)))
  refine ⟨m, hm, fun x v e k => ?_⟩
  ((refine x1a2 (hl x v e) (fun v0 e0 f => ?_)))
  ((refine x1a2 (q x v0 e0 k) (fun val a b => ?_)))
  exact ⟨val, a, f val b⟩
theorem FX_is (nc : noCell ns = true) {b : Addr} (h : FX env ns b) : b = env.locals := by
  rcases h with q | ⟨x, hx, _⟩
  · exact q
  · exact absurd hx (noCell_of nc x).1
theorem Ext.forget {X : Addr → Prop} (x : Ext X ρ s ρ' s') : Ext (fun b => X b ∨ b ∈ ρ) [] s [] s' :=
  ⟨⟨[], rfl⟩, fun a h => (nomatch h), fun b o e hb => x.alive b o e fun q => hb (.inl q), fun b o e _ hb => x.keep b o e (fun q => hb (.inr q)) fun q => hb (.inl q), x.gens, x.drawn, x.os⟩
end
/-! the rounds -/
structure Round where
  t : Addr
  d : Addr
  m : Int
  ds : List AV
noncomputable def aD : AV := .str "ask"
noncomputable def oD : AV := .str "open"
noncomputable def deedLists : List (List AV) := [[], [aD], [oD], [aD, aD], [aD, oD], [oD, aD], [oD, oD]]
noncomputable def Round.At (n : Nat) (h : Heap) (r : Round) : Prop := n ≤ r.t ∧ n ≤ r.d ∧ (∃ tk, PlainTup h r.t [.int r.m tk, .ref r.d]) ∧ (∃ sv, h.PlainList r.d sv ∧ ∀ (C : Cx) (ρ : List Addr), VsRel C ρ r.ds sv.toList) ∧ 0 ≤ r.m ∧ r.m ≤ 90 ∧ r.ds ∈ deedLists
noncomputable def flat : List Round → List Addr
  | [] => []
  | r :: rs => r.t :: r.d :: flat rs
theorem flat_mem : ∀ {rs : List Round} {q : Round}, q ∈ rs → q.t ∈ flat rs ∧ q.d ∈ flat rs
  | r :: rs, q, h => by
    rcases List.mem_cons.mp h with rfl | h
    · simp [flat]
    · have qp := flat_mem h; have h1 := qp.1; have h2 := qp.2; clear qp
      simp [flat, h1, h2]
theorem Round.At.keep {n : Nat} {s s' : Shared} {X : Addr → Prop} {r : Round} (x : r.At n s.heap) (k : Ext X [] s [] s') (h1 : ¬ X r.t) (h2 : ¬ X r.d) : r.At n s'.heap := by
  ((refine x0a5 (x) (fun a b qt1 qt2 q => ?_)); (refine x2a1 (qt1) (fun tk n1 g1 => ?_)); (refine x1a2 (qt2) (fun sv qt3 f => ?_)); (refine x1a1 (qt3) (fun n2 g2 => ?_)))
  exact ⟨a, b, ⟨tk, n1, k.keep _ _ g1 (fun h => nomatch h) h1⟩, ⟨sv, ⟨n2, k.keep _ _ g2 (fun h => nomatch h) h2⟩, f⟩, q⟩
noncomputable def rightF : Fn := mkFn (topAt 158) []
noncomputable def forOf : Stmt → Expr × Expr × List Stmt
  | .For t i b _ _ => (t, i, b)
  | _ => (default, default, [])
noncomputable def rFor : Expr × Expr × List Stmt := forOf ((at? rightF.body 0).getD default)
noncomputable def isLin (o : Option AV) (c r s m : Int) : Bool := match o with
  | some (.int (.lin c' r' s' m')) => (eqB c c').and ((eqB r r').and ((eqB s s').and (eqB m m')))
  | _ => false
noncomputable def rLoc (mi : SI) : Loc := [("ring", .int (.lin 0 1 0 0)), ("seed", .int (.lin 0 0 1 0)), ("many", .int mi), ("deeds", .own 1)]
noncomputable def rLoc0 : Loc := [("ring", .int (.lin 0 1 0 0)), ("seed", .int (.lin 0 0 1 0))]
noncomputable def roundOk (T : Tab) (mi : SI) (ds : List AV) : Bool := match evS (fun s l σ => (run B T 70).X s rightF.names l σ) rFor.2.2 (rLoc mi) [.tup [.int mi, .own 1], .list ds] with
  | some (.next, l, _) => (isLin (lk l "ring") 0 1 0 0).and (isLin (lk l "seed") 0 0 1 0)
  | _ => false
theorem isLin_of {o : Option AV} {c r s m : Int} (h : isLin o c r s m = true) : o = some (.int (.lin c r s m)) := by
  unfold isLin at h
  split at h
  · obtain ⟨h1, h⟩ := Bool.and_eq_true_iff.mp h
    have qp := Bool.and_eq_true_iff.mp h; have h2 := qp.1; have h := qp.2; clear qp
    have qp := Bool.and_eq_true_iff.mp h; have h3 := qp.1; have h4 := qp.2; clear qp
    rw [(eqB_iff _ _).mp h1, (eqB_iff _ _).mp h2, (eqB_iff _ _).mp h3, (eqB_iff _ _).mp h4]
  · cases h
theorem rNoCell : noCell rightF.names = true := by decide +kernel
theorem rTarget : ∃ ts k p, rFor.1 = .Tuple ts k p := ⟨_, _, _, rfl⟩
theorem rAssign (mi : SI) (ds : List AV) : assignN rightF.names [.tup [.int mi, .own 1], .list ds] rFor.1 (.own 0) rLoc0 = some (rLoc mi) := by rfl
/-- every round runs through -/
noncomputable def AllRounds : Prop := ∀ (m : Int) (ds : List AV), 0 ≤ m → m ≤ 90 → ds ∈ deedLists → ∃ (T : Tab) (mi : SI) (mv : Int), T.lo ≤ mv ∧ mv ≤ T.hi ∧ (∀ ring seed, mi.rel ⟨ring, seed, mv⟩ m) ∧ roundOk T mi ds = true
section
variable {p : Program} {w : World} {K : Frag} {h₁ : Heap} {A : Around} {env : Env} {ring seed : Int}
noncomputable abbrev cR (p : Program) (w : World) (K : Frag) (h₁ : Heap) (ring seed : Int) : Cx := cx p w K h₁ B ⟨ring, seed, 0⟩ ⟨0, 0⟩
theorem mem2C {α : Type} {x a b : α} {P : α → Prop} (h : x ∈ [a, b]) (ha : P a) (hb : P b) : P x := memC h (fun e => e ▸ ha) fun h => List.mem_singleton.mp h ▸ hb
theorem nocellR {y : Str} (hy : lk rightF.names y = some .cell ∨ lk rightF.names y = some .free) : False := hy.elim (noCell_of rNoCell y).1 (noCell_of rNoCell y).2
theorem rLocC {x : Str} {v : AV} (e : lk rLoc0 x = some v) {P : Str → AV → Prop} (k1 : P "ring" (.int (.lin 0 1 0 0))) (k2 : P "seed" (.int (.lin 0 0 1 0))) : P x v := by
  unfold rLoc0 at e
  rw [lk_cons, lk_cons] at e
  by_cases z : x = "ring"
  · rw [if_pos z] at e; exact z ▸ Option.some.inj e ▸ k1
  · rw [if_neg z] at e
    by_cases z2 : x = "seed"
    · rw [if_pos z2] at e; exact z2 ▸ Option.some.inj e ▸ k2
    · rw [if_neg z2] at e; exact qN e
/-- ring and seed are the same, whatever is known of many -/
theorem same_lin {C C' : Cx} {ρ ρ' : List Addr} {c r s : Int} {val : Value} (h1 : C'.ν.ring = C.ν.ring) (h2 : C'.ν.seed = C.ν.seed) (hv : VRel C ρ (.int (.lin c r s 0)) val) : VRel C' ρ' (.int (.lin c r s 0)) val :=
  hv.cInt (P := fun val => VRel C' ρ' (.int (.lin c r s 0)) val) fun n t q => .int t (by simp only [SI.rel, Int.zero_mul] at q ⊢; rw [h1, h2]; exact q)
theorem right_turn (Z : Base K h₁) (all : AllRounds) (rm : Room A 80) (h1 : 256 ≤ ring) (h2 : ring ≤ 4294967296) {r : Round} {s : Shared} {Q : Flow → Shared → Prop} (hr : r.At h₁.objs.size s.heap) (base : ∀ b o, h₁.get? b = some o → s.heap.get? b = some o) (ne : r.t ≠ r.d) (hL : env.locals ∉ [r.t, r.d])
    (F : FrameOk (cR p w K h₁ ring seed) env rightF.names [] rLoc0 s.heap) (h : ∀ s', FrameOk (cR p w K h₁ ring seed) env rightF.names [] rLoc0 s'.heap → Ext (fun b => b = env.locals ∨ b ∈ [r.t, r.d]) [] s [] s' → (∀ b o, h₁.get? b = some o → s'.heap.get? b = some o) → Q .next s') :
    G (model p w) A (assign rFor.1 env (.ref r.t)) (fun _ s2 => G (model p w) A (execs rFor.2.2 env) Q s2) s := by
  obtain ⟨a1, a2, ⟨tk, n1, gt⟩, ⟨sv, gd, fd⟩, a5, a6, a7⟩ := hr
  refine x3a4 (all r.m r.ds a5 a6 a7) fun T mi mv t1 t2 hm hok => ?_
  have snd := (Z.sound (p := p) (w := w) (ν := ⟨ring, seed, mv⟩) (T := T) ⟨h1, h2, t1, t2⟩ 70)
  have go : ∀ {C : Cx}, C = cx p w K h₁ B ⟨ring, seed, mv⟩ T → SX C 70 (run B T 70).X → G C.M A (assign rFor.1 env (.ref r.t)) (fun _ s2 => G C.M A (execs rFor.2.2 env) Q s2) s := fun {C} eC snd => by
    have eν : C.ν = ⟨ring, seed, mv⟩ := by rw [eC]
    have e1 : C.h₁ = h₁ := by rw [eC]
    have R1 : Rel C [r.t, r.d] [.tup [.int mi, .own 1], .list r.ds] s.heap :=
      Rel.pair ne (e1 ▸ a1) (e1 ▸ a2) (e1 ▸ base) ⟨[.int r.m tk, .ref r.d], ⟨n1, gt⟩, .cons (.int _ (eν ▸ hm ring seed)) (.cons (.own rfl) .nil), fun q => nomatch q⟩ ⟨sv, gd, fd _ _⟩
    have F2 : FrameOk C env rightF.names [r.t, r.d] rLoc0 s.heap := F.into e1 rNoCell hL fun x v e => ⟨v, e, fun val => rLocC (P := fun _ v => VRel (cR p w K h₁ ring seed) [] v val → VRel C [r.t, r.d] v val) e (same_lin (by rw [eν]) (by rw [eν])) (same_lin (by rw [eν]) (by rw [eν]))⟩
    refine G.of (assign_keep R1 F2 rm.2.2 (rAssign mi r.ds) (.own rfl) fun s2 R2 x2 F3 => ?_)
    unfold roundOk at hok
    cases ev : evS (fun s l σ => (run B T 70).X s rightF.names l σ) rFor.2.2 (rLoc mi) [.tup [.int mi, .own 1], .list r.ds] with
    | none => rw [ev] at hok; exact qFT hok
    | some q =>
      obtain ⟨fl, l', σ'⟩ := q
      rw [ev] at hok
      cases fl with
      | next =>
        refine and2 hok fun k1 k2 => evS_sound (d := 70) snd (rm.less (by decide)) ev R2 F3 fun ρ3 s3 fv R3 x3 F4 h4 => ?_
        cases h4
        refine h s3 (F4.into (C' := cR p w K h₁ ring seed) e1.symm rNoCell (fun q => nomatch q) fun x v e => rLocC (P := fun x v => ∃ v0, lk l' x = some v0 ∧ ∀ val, VRel C ρ3 v0 val → VRel (cR p w K h₁ ring seed) [] v val) e ⟨_, isLin_of k1, fun val => same_lin (by rw [eν]) (by rw [eν])⟩ ⟨_, isLin_of k2, fun val => same_lin (by rw [eν]) (by rw [eν])⟩)
          ((x2.weaken fun b q => .inl (FX_is rNoCell q)).trans (x3.forget.weaken fun b q => q.elim (fun q => .inl (FX_is rNoCell q)) .inr)) (e1 ▸ R3.base)
      | _ => exact qFT hok
  exact go rfl snd.sX
theorem right_loop (Z : Base K h₁) (all : AllRounds) (rm : Room A 80) (h1 : 256 ≤ ring) (h2 : ring ≤ 4294967296) {Rd it : Addr} {items : Array Value} {Q : Flow → Shared → Prop} : ∀ (rs : List Round) (k : Nat) (s : Shared), items.toList.drop k = rs.map (fun r => .ref r.t) → s.heap.PlainList Rd items → s.heap.IsListIter it Rd k →
    (∀ r ∈ rs, r.At h₁.objs.size s.heap) → (it :: Rd :: flat rs).Nodup → env.locals ∉ it :: Rd :: flat rs → (∀ b o, h₁.get? b = some o → s.heap.get? b = some o) → h₁.objs.size ≤ it → h₁.objs.size ≤ Rd →
    FrameOk (cR p w K h₁ ring seed) env rightF.names [] rLoc0 s.heap →
    (∀ s', FrameOk (cR p w K h₁ ring seed) env rightF.names [] rLoc0 s'.heap → Ext (fun b => b = env.locals ∨ b = it ∨ b ∈ flat rs) [] s [] s' → (∀ b o, h₁.get? b = some o → s'.heap.get? b = some o) → Q .next s') → CG (model p w) A (.forLoop rFor.1 (.ref it) rFor.2.2 [] env) Q s
  | [], k, s, hi, g, hit, hr, nd, hL, base, lo1, lo2, F, h => by
    have hn : items[k]? = none := by
      have : items.toList.length ≤ k := by simpa using hi
      rw [← Array.getElem?_toList]
      exact List.getElem?_eq_none this
    refine g_for (C := cR p w K h₁ ring seed) (G.of (wpAny_pyNext_list_end rm.2.2 hit g.isList hn fun h' hs => ?_))
    have x : Ext (· = it) [] s [] { s with heap := h' } := Ext.but (t := s.toks) fun b o hb e => hs b o hb e
    refine h { s with heap := h' } (F.ext x fun b hb => ⟨fun q => hL (by subst hb; rw [← q]; simp), fun y hy => ?_⟩) (x.weaken fun b q => .inr (.inl q)) fun b o e => hs b o (fun q => absurd (Heap.lt_size e) (Nat.not_lt.mpr (q ▸ lo1))) (base b o e)
    rcases hy with z | z
    · exact absurd z (noCell_of rNoCell y).1
    · exact absurd z (noCell_of rNoCell y).2
  | r :: rs, k, s, hi, g, hit, hr, nd, hL, base, lo1, lo2, F, h => by
    have hx : items[k]? = some (.ref r.t) := by
      have := congrArg (fun z => z[0]?) hi
      rw [← Array.getElem?_toList]
      simpa [List.getElem?_drop] using this
    have hi2 : items.toList.drop (k + 1) = rs.map (fun r => .ref r.t) := by
      rw [← List.drop_drop, hi]; rfl
    have nd : (it :: Rd :: r.t :: r.d :: flat rs).Nodup := nd
    have nd1 := List.nodup_cons.mp nd
    have nd2 := List.nodup_cons.mp nd1.2
    have nd3 := List.nodup_cons.mp nd2.2
    have nd4 := List.nodup_cons.mp nd3.2
    refine g_for (C := cR p w K h₁ ring seed) (G.of (wpAny_pyNext_list_item hit g.isList hx fun h' hit' hs => ?_))
    have x1 : Ext (· = it) [] s [] { s with heap := h' } := Ext.but (t := s.toks) fun b o hb e => (hs.2 b hb).trans e
    have F1 := F.ext x1 fun b hb => ⟨fun q => hL (by rw [← q, hb]; exact List.mem_cons_self), fun y hy => (nocellR hy).elim⟩
    have base1 : ∀ b o, h₁.get? b = some o → h'.get? b = some o := fun b o e => (hs.2 b fun q => absurd (Heap.lt_size e) (Nat.not_lt.mpr (q ▸ lo1))).trans (base b o e)
    refine x1a3 (id hit') fun oi gi ci _ => ?_
    have offI : ∀ {b}, b ∈ Rd :: r.t :: r.d :: flat rs → b ≠ it := fun hb q => nd1.1 (q ▸ hb)
    have mt : r.t ∈ Rd :: r.t :: r.d :: flat rs := List.mem_cons_of_mem _ List.mem_cons_self
    have md : r.d ∈ Rd :: r.t :: r.d :: flat rs := List.mem_cons_of_mem _ (List.mem_cons_of_mem _ List.mem_cons_self)
    have mf : ∀ {b}, b ∈ flat rs → b ∈ Rd :: r.t :: r.d :: flat rs := fun hb => List.mem_cons_of_mem _ (List.mem_cons_of_mem _ (List.mem_cons_of_mem _ hb))
    refine G.of (let_plain (C := cR p w K h₁ ring seed) (s := { s with heap := h' }) gi ci (by decide) (right_turn Z all rm h1 h2 (s := { s with heap := h' }) ((hr r List.mem_cons_self).keep x1 (offI mt) (offI md)) base1 (fun q => nd3.1 (q ▸ List.mem_cons_self))
      (fun q => hL (List.mem_cons_of_mem _ (mem2C (P := fun b => b ∈ Rd :: r.t :: r.d :: flat rs) q mt md))) F1 fun s3 F5 x23 base3 => ?_))
    have keep23 : ∀ {b : Addr}, b ∈ it :: Rd :: flat rs → ¬ (b = env.locals ∨ b ∈ [r.t, r.d]) := fun {b} hb q => q.elim
      (fun q => hL (q ▸ memC hb (fun e => e ▸ List.mem_cons_self) fun hb => memC hb (fun e => e ▸ List.mem_cons_of_mem _ List.mem_cons_self) fun hb => List.mem_cons_of_mem _ (mf hb)))
      fun q => memC hb (fun e => nd1.1 (e ▸ mem2C (P := fun b => b ∈ Rd :: r.t :: r.d :: flat rs) q mt md)) fun hb => memC hb (fun e => nd2.1 (e ▸ mem2C (P := fun b => b ∈ r.t :: r.d :: flat rs) q List.mem_cons_self (List.mem_cons_of_mem _ List.mem_cons_self)))
        fun hb => mem2C (P := fun b => b ∈ flat rs → False) q (fun hb => nd3.1 (List.mem_cons_of_mem _ hb)) (fun hb => nd4.1 hb) hb
    have old : ∀ {b : Addr} {o : Obj}, b ∈ it :: Rd :: flat rs → h'.get? b = some o → s3.heap.get? b = some o := fun {b o} hb e => x23.keep b o e (fun q => nomatch q) (keep23 hb)
    obtain ⟨nR, gR⟩ := g
    have mI : it ∈ it :: Rd :: flat rs := List.mem_cons_self
    have mR : Rd ∈ it :: Rd :: flat rs := List.mem_cons_of_mem _ List.mem_cons_self
    have mF : ∀ {b}, b ∈ flat rs → b ∈ it :: Rd :: flat rs := fun hb => List.mem_cons_of_mem _ (List.mem_cons_of_mem _ hb)
    refine right_loop Z all rm h1 h2 rs (k + 1) s3 hi2 ⟨nR, old mR ((hs.2 _ (offI List.mem_cons_self)).trans gR)⟩ (let ⟨o, e1, e2⟩ := hit'; ⟨o, old mI e1, e2⟩) (fun q hq => ?_)
      (List.nodup_cons.mpr ⟨fun q => nd1.1 (memC q (fun e => e ▸ List.mem_cons_self) mf), List.nodup_cons.mpr ⟨fun q => nd2.1 (List.mem_cons_of_mem _ (List.mem_cons_of_mem _ q)), nd4.2⟩⟩)
      (fun q => hL (memC q (fun e => e ▸ List.mem_cons_self) fun q => memC q (fun e => e ▸ List.mem_cons_of_mem _ List.mem_cons_self) fun q => List.mem_cons_of_mem _ (mf q))) base3 lo1 lo2 F5 fun s' F' x' b' => h s' F'
      ((x1.weaken fun b q => .inr (.inl q)).trans ((x23.weaken fun b q => q.elim .inl fun q => .inr (.inr (mem2C (P := fun b => b ∈ flat (r :: rs)) q List.mem_cons_self (List.mem_cons_of_mem _ List.mem_cons_self)))).trans (x'.weaken fun b q => q.elim .inl fun q => q.elim (fun q => .inr (.inl q)) fun q => .inr (.inr (List.mem_cons_of_mem _ (List.mem_cons_of_mem _ q)))))) b'
    have qf := flat_mem hq
    have A1 := (hr q (List.mem_cons_of_mem _ hq)).keep x1 (offI (mf qf.1)) (offI (mf qf.2))
    exact A1.keep x23 (keep23 (mF qf.1)) (keep23 (mF qf.2))
end
end Mine
-- R1
namespace Mine
open PySem
theorem ro0 : roundOk ⟨1, 90⟩ (.lit 0) [] = true := by decide +kernel
theorem ro1 : roundOk ⟨1, 90⟩ (.lit 0) [aD] = true := by decide +kernel
theorem ro2 : roundOk ⟨1, 90⟩ (.lit 0) [oD] = true := by decide +kernel
theorem ro3 : roundOk ⟨1, 90⟩ (.lit 0) [aD, aD] = true := by decide +kernel
theorem ro4 : roundOk ⟨1, 90⟩ (.lit 0) [aD, oD] = true := by decide +kernel
theorem ro5 : roundOk ⟨1, 90⟩ (.lit 0) [oD, aD] = true := by decide +kernel
theorem ro6 : roundOk ⟨1, 90⟩ (.lit 0) [oD, oD] = true := by decide +kernel
theorem rm0 : roundOk ⟨1, 90⟩ (.lin 0 0 0 1) [] = true := by decide +kernel
theorem rm3 : roundOk ⟨1, 90⟩ (.lin 0 0 0 1) [aD, aD] = true := by decide +kernel
theorem rm4 : roundOk ⟨1, 90⟩ (.lin 0 0 0 1) [aD, oD] = true := by decide +kernel
theorem rm5 : roundOk ⟨1, 90⟩ (.lin 0 0 0 1) [oD, aD] = true := by decide +kernel
theorem rm6 : roundOk ⟨1, 90⟩ (.lin 0 0 0 1) [oD, oD] = true := by decide +kernel
theorem rm1a : roundOk ⟨1, 62⟩ (.lin 0 0 0 1) [aD] = true := by decide +kernel
theorem rm1b : roundOk ⟨63, 63⟩ (.lin 0 0 0 1) [aD] = true := by decide +kernel
theorem rm1c : roundOk ⟨64, 90⟩ (.lin 0 0 0 1) [aD] = true := by decide +kernel
theorem rm2a : roundOk ⟨1, 62⟩ (.lin 0 0 0 1) [oD] = true := by decide +kernel
theorem rm2b : roundOk ⟨63, 63⟩ (.lin 0 0 0 1) [oD] = true := by decide +kernel
theorem rm2c : roundOk ⟨64, 90⟩ (.lin 0 0 0 1) [oD] = true := by decide +kernel
/-- a round's run, for what is known of many -/
noncomputable def RoundAt (m : Int) (d : List AV) : Prop := ∃ (T : Tab) (mi : SI) (mv : Int), T.lo ≤ mv ∧ mv ≤ T.hi ∧ (∀ ring seed, mi.rel ⟨ring, seed, mv⟩ m) ∧ roundOk T mi d = true
theorem at_zero {d : List AV} (h : roundOk ⟨1, 90⟩ (.lit 0) d = true) : RoundAt 0 d := ⟨⟨1, 90⟩, .lit 0, 1, by decide, by decide, fun _ _ => rfl, h⟩
theorem at_many {d : List AV} {m lo hi : Int} (h1 : lo ≤ m) (h2 : m ≤ hi) (h : roundOk ⟨lo, hi⟩ (.lin 0 0 0 1) d = true) : RoundAt m d := ⟨⟨lo, hi⟩, .lin 0 0 0 1, m, h1, h2, fun ring seed => by simp [SI.rel], h⟩
theorem at_three {d : List AV} {m : Int} (h1 : 1 ≤ m) (h2 : m ≤ 90) (a : roundOk ⟨1, 62⟩ (.lin 0 0 0 1) d = true) (b : roundOk ⟨63, 63⟩ (.lin 0 0 0 1) d = true) (c : roundOk ⟨64, 90⟩ (.lin 0 0 0 1) d = true) : RoundAt m d := by
  by_cases q : m ≤ 62
  · exact at_many h1 q a
  · by_cases q2 : m ≤ 63
    · exact at_many (Int.lt_of_not_ge q) q2 b
    · exact at_many (Int.lt_of_not_ge q2) h2 c
theorem deedsC {ds : List AV} (h : ds ∈ deedLists) {P : List AV → Prop} (k0 : P []) (k1 : P [aD]) (k2 : P [oD]) (k3 : P [aD, aD]) (k4 : P [aD, oD]) (k5 : P [oD, aD]) (k6 : P [oD, oD]) : P ds := by
  simp only [deedLists, List.mem_cons, List.not_mem_nil, or_false] at h
  rcases h with rfl | rfl | rfl | rfl | rfl | rfl | rfl <;> assumption
theorem allRounds : AllRounds := fun m ds h0 h1 hd => by
  by_cases z : m = 0
  · subst z
    exact deedsC (P := RoundAt 0) hd (at_zero ro0) (at_zero ro1) (at_zero ro2) (at_zero ro3) (at_zero ro4) (at_zero ro5) (at_zero ro6)
  · have h2 : 1 ≤ m := Int.lt_iff_le_and_ne.mpr ⟨h0, fun e => z e.symm⟩
    exact deedsC (P := RoundAt m) hd (at_many h2 h1 rm0) (at_three h2 h1 rm1a rm1b rm1c) (at_three h2 h1 rm2a rm2b rm2c) (at_many h2 h1 rm3) (at_many h2 h1 rm4) (at_many h2 h1 rm5) (at_many h2 h1 rm6)
end Mine
-- M64
namespace Mine
open PySem PySem.W PySem.Calls PyProof.Rows PyProof PyProof.V PySem.SeqAt
theorem right_fn : nlk fnTab 1964 = some rightF := by rfl
noncomputable def rFull (Rd : Addr) : Loc := [("ring", .int (.lin 0 1 0 0)), ("seed", .int (.lin 0 0 1 0)), ("rounds", .glob Rd)]
theorem right_fill (Rd : Addr) : fill rightF.ps [.int (.lin 0 1 0 0), .int (.lin 0 0 1 0), .glob Rd] rightF.ds = some (rFull Rd) := by rfl
noncomputable def rRet : Stmt := (at? rightF.body 1).getD default
theorem right_body : ∃ p0, rightF.body = [.For rFor.1 rFor.2.1 rFor.2.2 [] p0, rRet] := ⟨_, rfl⟩
theorem right_iter : notSet rFor.2.1 = true := by rfl
theorem right_name (T : Tab) (Rd : Addr) : (run B T 1).E rFor.2.1 rightF.names (rFull Rd) [] = some (.glob Rd, []) := by rfl
theorem right_ret (T : Tab) : (run B T 3).X rRet rightF.names rLoc0 [] = some (.ret (.bool true), rLoc0, []) := by rfl
theorem Rel.none {C : Cx} {h : Heap} (base : ∀ b o, C.h₁.get? b = some o → h.get? b = some o) : Rel C [] [] h := ⟨rfl, .nil, fun a h => (nomatch h), base, fun i o a e => qN ((at_nil i).symm.trans e)⟩
theorem Known.size_of : True := trivial
section
variable {p : Program} {w : World} {K : Frag} {h₁ : Heap} {A : Around} {s : Shared} {ring seed : Int}
theorem right_G (Z : Base K h₁) (all : AllRounds) (rm : Room A 90) (h1 : 256 ≤ ring) (h2 : ring ≤ 4294967296) {t u : Tok} {Rd : Addr} {items : Array Value} {rs : List Round} {Q : Value → Shared → Prop} (hi : items.toList = rs.map (fun r => .ref r.t)) (g : s.heap.PlainList Rd items)
    (hr : ∀ r ∈ rs, r.At h₁.objs.size s.heap) (nd : (Rd :: flat rs).Nodup) (base : ∀ b o, h₁.get? b = some o → s.heap.get? b = some o) (lo : h₁.objs.size ≤ Rd)
    (h : ∀ s', Ext (· ∈ flat rs) [] s [] s' → (∀ b o, h₁.get? b = some o → s'.heap.get? b = some o) → Q (.bool true) s') : G (model p w) A (PySem.call (.ref 1964) [.int ring t, .int seed u, .ref Rd]) Q s := by
  have hν : (Nu.mk ring seed 0).Ok ⟨0, 0⟩ := ⟨h1, h2, by show (0 : Int) ≤ 0; omega, by show (0 : Int) ≤ 0; omega⟩
  have S : Stat (cR p w K h₁ ring seed) := Z.stat
  have O : Ok (cR p w K h₁ ring seed) := Z.ok hν
  have R : Rel (cR p w K h₁ ring seed) [] [] s.heap := Rel.none base
  ((refine x2a1 (S.fn 1964 rightF right_fn) (fun o fd Kf => ?_)))
  have alive : ∀ b ∈ Rd :: flat rs, ∃ o, s.heap.get? b = some o := fun b hb => by
    rcases List.mem_cons.mp hb with rfl | hb
    · ((refine x1a1 (g) (fun n g => ?_))); exact ⟨_, g⟩
    · have : ∀ rs : List Round, b ∈ flat rs → (∀ r ∈ rs, r.At h₁.objs.size s.heap) → ∃ o, s.heap.get? b = some o := fun rs => by
        induction rs with
        | nil => intro h; cases h
        | cons r rs ih =>
          intro hb hr
          ((refine x0a5 (hr r (by simp)) (fun _ _ qt1 qt2 _ => ?_)); (refine x2a1 (qt1) (fun _ n1 g1 => ?_)); (refine x1a2 (qt2) (fun _ qt3 _ => ?_)); (refine x1a1 (qt3) (fun n2 g2 => ?_)))
          simp only [flat, List.mem_cons] at hb
          rcases hb with rfl | rfl | hb
          · exact ⟨_, g1⟩
          · exact ⟨_, g2⟩
          · exact ih hb fun q hq => hr q (by simp [hq])
      exact this rs hb hr
  refine G.call (fn_call S O R Kf (by have := rm.depth; omega) (right_fill Rd) (.cons (.int _ (by simp [SI.rel])) (.cons (.int _ (by simp [SI.rel])) (.cons (.glob _) .nil))) fun env s1 F1 R1 x1 fr => ?_)
  have x1 : Ext NoX [] s [] s1 := x1
  have rmD : Room (A.deeper env) 89 := rm.deeper env
  have snd1 := Z.sound (p := p) (w := w) hν 1
  ((refine x1a1 (right_body) (fun p0 hb => ?_)))
  rw [hb, execs_cons]
  have hLs : env.locals ∉ Rd :: flat rs := fun q => by
    ((refine x1a1 (alive _ q) (fun o e => ?_)))
    rw [fr _ (.inl rfl)] at e; cases e
  have up : ∀ {b : Addr} {o : Obj}, s.heap.get? b = some o → s1.heap.get? b = some o := fun {b o} e => x1.keep b o e (fun q => nomatch q) fun q => q
  refine G.bind (g_For (C := cR p w K h₁ ring seed) right_iter (snd1.sE (right_name _ Rd) (rmD.less (by omega)) R1 F1 fun ρ2 s2 val R2 x2 hv => ?_))
  have hρ2 : ρ2 = [] := by
    have := R2.len
    exact List.length_eq_zero_iff.mp (by simpa using this)
  subst hρ2
  cases hv
  ((refine x1a1 (id g) (fun nR gR => ?_)))
  have up2 : ∀ {b : Addr} {o : Obj}, s.heap.get? b = some o → s2.heap.get? b = some o := fun {b o} e => x2.keep b o (up e) (fun q => nomatch q) fun q => q
  have g2 : s2.heap.PlainList Rd items := ⟨nR, up2 gR⟩
  refine G.of (wpAny_pyIter_list g2.isList ?_)
  have F2 := F1.extE x2
  have x3 : Ext NoX [] s2 [] { s2 with heap := s2.heap.push { cls := .type "list_iterator", data := .fields #[.ref Rd, .int 0 0] } } := Ext.kept (t := s2.toks) (push_keeps _ _)
  have F3 := F2.extE x3
  have up3 : ∀ {b : Addr} {o : Obj}, s.heap.get? b = some o → (s2.heap.push { cls := .type "list_iterator", data := .fields #[.ref Rd, .int 0 0] }).get? b = some o := fun {b o} e => push_keeps _ _ _ _ (up2 e)
  have itn : s2.heap.objs.size ∉ Rd :: flat rs := fun q => by
    ((refine x1a1 (alive _ q) (fun o e => ?_)))
    exact absurd (Heap.lt_size (up2 e)) (Nat.lt_irrefl _)
  have hLi : env.locals ≠ s2.heap.objs.size := fun q => by
    ((refine x1a2 (F2.loc) (fun m hm _ => ?_)))
    ((refine x1a1 (ns_at hm) (fun o e => ?_)))
    rw [q] at e
    exact absurd (Heap.lt_size e) (Nat.lt_irrefl _)
  have fL : s.heap.get? env.locals = none := fr _ (.inl rfl)
  have fI : s.heap.get? s2.heap.objs.size = none := by
    cases e : s.heap.get? s2.heap.objs.size with
    | none => rfl
    | some o => exact absurd (Heap.lt_size (up2 e)) (Nat.lt_irrefl _)
  refine right_loop Z all (rmD.less (by omega)) h1 h2 rs 0 { s2 with heap := s2.heap.push { cls := .type "list_iterator", data := .fields #[.ref Rd, .int 0 0] } } (by simpa using hi) ⟨nR, up3 gR⟩ ⟨_, Heap.get?_push_size _ rfl, rfl, rfl⟩ (fun r hq => ?_)
    (List.nodup_cons.mpr ⟨itn, nd⟩) (fun q => by
      rcases List.mem_cons.mp q with q | q
      · exact hLi q
      · exact hLs q) (fun b o e => up3 (base b o e)) (R2.low O) lo (F3.less fun x v e => ?_) fun s4 F4 x4 base4 => ?_
  · have A1 := (hr r hq).keep x1 (fun q => q) (fun q => q)
    have A2 := A1.keep x2 (fun q => q) (fun q => q)
    exact A2.keep x3 (fun q => q) fun q => q
  · unfold rLoc0 at e
    unfold rFull
    rw [lk_cons, lk_cons] at e
    rw [lk_cons, lk_cons]
    split
    · rename_i z; rw [if_pos z] at e; exact e
    · rename_i z
      rw [if_neg z] at e
      split
      · rename_i z; rw [if_pos z] at e; exact e
      · rename_i z; rw [if_neg z] at e; cases e
  · dsimp only
    rw [execs_cons]
    have snd3 := Z.sound (p := p) (w := w) hν 3
    refine G.bind (snd3.sX (right_ret _) (rmD.less (by omega)) (Rel.none base4) F4 fun ρ5 s5 fv R5 x5 F5 h5 => ?_)
    have hρ5 : ρ5 = [] := by
      have := R5.len
      exact List.length_eq_zero_iff.mp (by simpa using this)
    subst hρ5
    cases h5 with
    | ret h5 =>
      cases h5
      refine G.pure ⟨_, rfl, h s5 ?_ R5.base⟩
      have big : Ext (fun b => b = env.locals ∨ b = s2.heap.objs.size ∨ b ∈ flat rs) [] s [] s5 := (((x1.weaken fun b q => q.elim).trans (x2.weaken fun b q => q.elim)).trans ((x3.weaken fun b q => q.elim).trans x4)).trans (x5.weaken fun b q => .inl (FX_is rNoCell q))
      refine Ext.fresh big fun b q => ?_
      rcases q with q | q | q
      · exact .inr (q ▸ fL)
      · exact .inr (q ▸ fI)
      · exact .inl q
end
end Mine
-- M65
namespace Mine
open PySem PySem.W PySem.Calls PyProof.Rows PyProof PyProof.V PySem.SeqAt
noncomputable def lawF : Fn := mkFn (topAt 159) []
noncomputable def lst (i : Nat) : Stmt := (at? lawF.body i).getD default
theorem FrameOk.into2 {C C' : Cx} {env : Env} {ns : List (Str × NameKind)} {ρ ρ' : List Addr} {l l' : Loc} {h : Heap} (F : FrameOk C env ns ρ l h) (e : C'.h₁ = C.h₁) (hρ : Apart env ns ρ') (hl : ∀ x v, lk l' x = some v → ∃ v0, lk l x = some v0 ∧ ∀ val, VRel C ρ v0 val → VRel C' ρ' v val) : FrameOk C' env ns ρ' l' h := by
  refine ⟨F.kind, F.names, F.fine, F.gl, F.bl, ?_, fun x hx => ?_, F.apart, fun q => (hρ _ q).1 rfl, fun x c hx ec => ⟨fun q => (hρ _ q).2 x hx ec, (F.outC x c hx ec).2⟩, e ▸ F.oldL, fun x c hx ec => e ▸ F.oldC x c hx ec⟩
  · ((refine x1a2 (F.loc) (fun m hm q => ?_)))
    refine ⟨m, hm, fun x v e k => ?_⟩
    ((refine x1a2 (hl x v e) (fun v0 e0 f => ?_)))
    ((refine x1a2 (q x v0 e0 k) (fun val a b => ?_)))
    exact ⟨val, a, f val b⟩
  · ((refine x2a3 (F.cell x hx) (fun c v₀ g1 g2 g3 => ?_)))
    refine ⟨c, v₀, g1, g2, fun v e => ?_⟩
    ((refine x1a2 (hl x v e) (fun v0 e0 f => ?_)))
    ((refine x1a2 (g3 v0 e0) (fun val a b => ?_)))
    exact ⟨val, a, f val b⟩
/-- what stands in the law's frame between its statements -/
structure LawAt (C : Cx) (env : Env) (s0 : Shared) (src rnd : Addr) (rs : List Round) (l : Loc) (s : Shared) : Prop where
  frame : FrameOk C env lawF.names [src, rnd] l s.heap
  kp : Ext NoX [] s0 [] s
  nd : (src :: rnd :: flat rs).Nodup
  apart : Apart env lawF.names (src :: rnd :: flat rs)
  lo1 : C.h₁.objs.size ≤ src
  lo2 : C.h₁.objs.size ≤ rnd
  fresh : ∀ b ∈ src :: rnd :: flat rs, s0.heap.get? b = none
  fx : ∀ b, FX env lawF.names b → s0.heap.get? b = none
  base : ∀ b o, C.h₁.get? b = some o → s.heap.get? b = some o
  hsrc : ∃ x y t u, s.heap.PlainList src #[.int x t, .int y u] ∧ Tape x y []
  hrnd : ∃ items, s.heap.PlainList rnd items ∧ items.toList = rs.map fun r => Value.ref r.t
  hrs : ∀ r ∈ rs, r.At C.h₁.objs.size s.heap
noncomputable def okV : AV → Prop := fun v => v = .own 0 ∨ v = .own 1 ∨ ∃ n, v = .int (.lit n)
theorem tape_some {t : Nat} (ht : t = 2 ∨ t = 3 ∨ t = 5 ∨ t = 91 ∨ t = 200) {x y : Int} {rest : List Nat} (ih : ∀ x y : Int, Tape x y [] → ∃ tp : List (Nat × Nat), tp.map (·.1) = rest ∧ (∀ p ∈ tp, p.2 < p.1) ∧ Tape x y tp) (h : Tape x y []) :
    ∃ tp : List (Nat × Nat), tp.map (·.1) = t :: rest ∧ (∀ p ∈ tp, p.2 < p.1) ∧ Tape x y tp := by
  have qp := h; have hx := qp.1; have hy := qp.2.1; have hy2 := qp.2.2; clear qp
  have tp0 : (0 : Int) < t := by omega
  have mk : ∀ z : Int, ∃ r : Nat, (r : Int) = Int.fmod z t ∧ r < t := fun z => by
    have h1 := Int.fmod_nonneg_of_pos z tp0
    have h2 := Int.fmod_lt_of_pos z tp0
    exact ⟨(Int.fmod z t).toNat, by omega, by omega⟩
  by_cases z : x = 0
  · have hs : 0 ≤ nextSeed y ∧ nextSeed y < seedMod := ⟨Int.fmod_nonneg_of_pos _ (by decide), Int.fmod_lt_of_pos _ (by decide)⟩
    ((refine x1a2 (mk (Int.fdiv (Int.fmod (nextSeed y * nextSeed y) 2147483629) 32)) (fun r r1 r2 => ?_)))
    ((refine x1a3 (ih x (nextSeed y) ⟨hx, hs.1, hs.2⟩) (fun tp h1 h2 h3 => ?_)))
    exact ⟨(t, r) :: tp, by simp [h1], fun p hp => by
      rcases List.mem_cons.mp hp with rfl | hp
      · exact r2
      · exact h2 p hp, hx, hy, hy2, ht, .inr ⟨z, r1, h3⟩⟩
  · ((refine x1a2 (mk x) (fun r r1 r2 => ?_)))
    ((refine x1a3 (ih (Int.fdiv x t) y ⟨Int.fdiv_nonneg hx (by omega), hy, hy2⟩) (fun tp h1 h2 h3 => ?_)))
    exact ⟨(t, r) :: tp, by simp [h1], fun p hp => by
      rcases List.mem_cons.mp hp with rfl | hp
      · exact r2
      · exact h2 p hp, hx, hy, hy2, ht, .inl ⟨by omega, r1, h3⟩⟩
theorem tape_all : ∀ {ts : List Nat}, (∀ t ∈ ts, t = 2 ∨ t = 3 ∨ t = 5 ∨ t = 91 ∨ t = 200) → ∀ x y : Int, Tape x y [] → ∃ tp : List (Nat × Nat), tp.map (·.1) = ts ∧ (∀ p ∈ tp, p.2 < p.1) ∧ Tape x y tp
  | [], _, x, y, h => ⟨[], rfl, fun p hp => (nomatch hp), h⟩
  | t :: ts, ht, x, y, h => tape_some (ht t (by simp)) (tape_all fun t' h' => ht t' (by simp [h'])) h
section
variable {p : Program} {w : World} {K : Frag} {h₁ : Heap} {A : Around} {env : Env} {s0 s : Shared} {src rnd : Addr} {rs : List Round} {l : Loc}
noncomputable abbrev ν0 : Nu := ⟨256, 0, 0⟩
noncomputable abbrev T00 : Tab := ⟨0, 0⟩
theorem ν0_ok : ν0.Ok T00 := ⟨by decide, by decide, by decide, by decide⟩
noncomputable abbrev cT (p : Program) (w : World) (K : Frag) (h₁ : Heap) : Cx := cx p w K h₁ Bt ν0 T00
noncomputable abbrev globs (rs : List Round) : List AV := rs.map fun r => .glob r.t
theorem globs_rel {C : Cx} {ρ : List Addr} : ∀ {rs : List Round} {vs : List Value}, vs = rs.map (fun r => Value.ref r.t) → VsRel C ρ (globs rs) vs
  | [], _, rfl => .nil
  | r :: rs, _, rfl => .cons (.glob _) (globs_rel rfl)
theorem LawAt.rel (L : LawAt (cT p w K h₁) env s0 src rnd rs l s) {ts : List Nat} (ht : ∀ t ∈ ts, t = 2 ∨ t = 3 ∨ t = 5 ∨ t = 91 ∨ t = 200) :
    ∃ tp : List (Nat × Nat), tp.map (·.1) = ts ∧ (∀ p ∈ tp, p.2 < p.1) ∧ Rel (cT p w K h₁) [src, rnd] [.src tp, .list (globs rs)] s.heap := by
  ((refine x4a2 (L.hsrc) (fun x y t u g hT => ?_)))
  ((refine x1a2 (L.hrnd) (fun items g2 e2 => ?_)))
  ((refine x1a3 (tape_all ht x y hT) (fun tp h1 h2 h3 => ?_)))
  have nd := L.nd
  have hne : src ≠ rnd := fun q => (List.nodup_cons.mp nd).1 (by rw [q]; simp)
  exact ⟨tp, h1, h2, Rel.pair hne L.lo1 L.lo2 L.base ⟨x, y, t, u, g, h3⟩ ⟨items, g2, globs_rel e2⟩⟩
theorem VRel.ok {C C' : Cx} {ρ ρ' : List Addr} {v : AV} {x : Value} (h : VRel C ρ v x) (o : okV v) (e0 : at? ρ' 0 = at? ρ 0) (e1 : at? ρ' 1 = at? ρ 1) : VRel C' ρ' v x := by
  rcases o with rfl | rfl | ⟨n, rfl⟩
  · cases h with | own e => exact .own (e0.trans e)
  · cases h with | own e => exact .own (e1.trans e)
  · cases h with | int t e => exact .int t e
/-- what a statement does to the law's things -/
theorem LawAt.after (L : LawAt (cT p w K h₁) env s0 src rnd rs l s) {ρ' : List Addr} {σ' : AS} {s' : Shared} {l' l'' : Loc} {tp' : List (Nat × Nat)} (R : Rel (cT p w K h₁) ρ' σ' s'.heap) (x : Ext (FX env lawF.names) [src, rnd] s ρ' s') (F : FrameOk (cT p w K h₁) env lawF.names ρ' l' s'.heap)
    (e0 : at? σ' 0 = some (.src tp')) {rs' : List Round} (hrs : ∃ items, s'.heap.PlainList rnd items ∧ items.toList = rs'.map fun r => Value.ref r.t) (hat : ∀ r ∈ rs', r.At h₁.objs.size s'.heap) (nd : (src :: rnd :: flat rs').Nodup) (ap : Apart env lawF.names (flat rs')) (fresh : ∀ b ∈ flat rs', s0.heap.get? b = none)
    (hl : ∀ x v, lk l'' x = some v → lk l' x = some v ∧ okV v) : LawAt (cT p w K h₁) env s0 src rnd rs' l'' s' := by
  ((refine x1a1 (x.pre) (fun r hr => ?_)))
  have a0 : at? ρ' 0 = some src := by rw [hr]; rfl
  have a1 : at? ρ' 1 = some rnd := by rw [hr]; rfl
  ((refine x4a2 (R.objs 0 _ src e0 a0) (fun xx yy t u g hT => ?_)))
  have apS : Apart env lawF.names [src, rnd] := fun b hb => L.apart b (by simp at hb; rcases hb with q | q <;> simp [q])
  refine ⟨F.into2 rfl apS fun y v e => ?_, ?_, nd, fun b hb => ?_, L.lo1, L.lo2, fun b hb => ?_, L.fx, R.base, ⟨xx, yy, t, u, g, hT.ok⟩, hrs, hat⟩
  · have qp := hl y v e; have q1 := qp.1; have q2 := qp.2; clear qp
    exact ⟨v, q1, fun val hv => hv.ok q2 (by rw [a0]; rfl) (by rw [a1]; rfl)⟩
  · refine Ext.fresh ((L.kp.weaken fun b q => q.elim).trans (x.forget)) fun b q => .inr ?_
    rcases q with q | q
    · exact L.fx b q
    · simp at q
      rcases q with q | q <;> exact L.fresh b (by simp [q])
  · simp only [List.mem_cons] at hb
    rcases hb with q | q | q
    · exact L.apart b (by simp [q])
    · exact L.apart b (by simp [q])
    · exact ap b q
  · simp only [List.mem_cons] at hb
    rcases hb with q | q | q
    · exact L.fresh b (by simp [q])
    · exact L.fresh b (by simp [q])
    · exact fresh b q
theorem LawAt.off (L : LawAt (cT p w K h₁) env s0 src rnd rs l s) {b : Addr} (hb : b ∈ flat rs) : ¬ (FX env lawF.names b ∨ b ∈ [src, rnd]) := fun q => by
  have qp := List.nodup_cons.mp L.nd; have n3 := qp.1; have n4 := qp.2; clear qp
  have qp := List.nodup_cons.mp n4; have n5 := qp.1; have n6 := qp.2; clear qp
  rcases q with q | q
  · exact L.apart.off b (by simp [hb]) q
  · simp at q
    rcases q with q | q
    · exact n3 (by rw [← q]; simp [hb])
    · exact n5 (by rw [← q]; exact hb)
theorem LawAt.kept (L : LawAt (cT p w K h₁) env s0 src rnd rs l s) {ρ' : List Addr} {s' : Shared} (x : Ext (FX env lawF.names) [src, rnd] s ρ' s') : ∀ r ∈ rs, r.At h₁.objs.size s'.heap := fun r hr => by
  have qp := flat_mem hr; have q1 := qp.1; have q2 := qp.2; clear qp
  exact (L.hrs r hr).keep x.forget (L.off q1) (L.off q2)
/-- a statement that keeps the rounds -/
theorem law_step (Z : Base K h₁) (rm : Room A 100) (L : LawAt (cT p w K h₁) env s0 src rnd rs l s) {st : Stmt} {ts : List Nat} (ht : ∀ t ∈ ts, t = 2 ∨ t = 3 ∨ t = 5 ∨ t = 91 ∨ t = 200) {P : Loc → Prop}
    (ev : ∀ tp : List (Nat × Nat), tp.map (·.1) = ts → (∀ p ∈ tp, p.2 < p.1) → ∃ l' σ' tp' l'', (run Bt T00 60).X st lawF.names l [.src tp, .list (globs rs)] = some (.next, l', σ') ∧ at? σ' 0 = some (.src tp') ∧ at? σ' 1 = some (.list (globs rs)) ∧ (∀ x v, lk l'' x = some v → lk l' x = some v ∧ okV v) ∧ P l'')
    {Q : Flow → Shared → Prop} (h : ∀ l'' s', P l'' → LawAt (cT p w K h₁) env s0 src rnd rs l'' s' → Ext (fun b => FX env lawF.names b ∨ b ∈ [src, rnd]) [] s [] s' → Q .next s') : G (model p w) A (exec st env) Q s := by
  ((refine x1a3 (L.rel ht) (fun tp h1 h2 R => ?_)))
  ((refine x4a5 (ev tp h1 h2) (fun l' σ' tp' l'' e e0 e1 hl hP => ?_)))
  have snd := Z.soundT (p := p) (w := w) ν0_ok 60
  refine snd.sX (C := cT p w K h₁) e (rm.less (by omega)) R L.frame fun ρ' s' fv R' x' F' h' => ?_
  cases h'
  have x'' : Ext (FX env lawF.names) [src, rnd] s ρ' s' := x'
  ((refine x1a1 (x''.pre) (fun r hr => ?_)))
  have a1 : at? ρ' 1 = some rnd := by rw [hr]; rfl
  ((refine x1a2 (R'.objs 1 _ rnd e1 a1) (fun items g f => ?_)))
  refine h l'' s' hP (L.after R' x'' F' e0 ⟨items, g, ?_⟩ (L.kept x'') L.nd (fun b hb => L.apart b (by simp [hb])) (fun b hb => L.fresh b (by simp [hb])) hl) x''.forget
  clear g e1 e ev
  have : ∀ (rs : List Round) (vs : List Value), VsRel (cT p w K h₁) ρ' (globs rs) vs → vs = rs.map fun r => Value.ref r.t := fun rs => by
    induction rs with
    | nil => intro vs h; cases h; rfl
    | cons r rs ih =>
      intro vs h
      (apply VsRel.cCons h; intro _ _ h1 h2)
      ·
        cases h1
        rw [ih _ h2]; rfl
  exact this rs _ f
end
end Mine
-- M66
namespace Mine
open PySem PySem.W PySem.Calls PyProof.Rows PyProof PyProof.V PySem.SeqAt
theorem flat_app : ∀ (rs : List Round) (r : Round), flat (rs ++ [r]) = flat rs ++ [r.t, r.d]
  | [], r => rfl
  | q :: rs, r => by simp [flat, flat_app rs r]
noncomputable def isStrs : List AV → Bool
  | [] => true
  | .str _ :: l => isStrs l
  | _ => false
theorem deeds_any {C : Cx} {ρ : List Addr} {ds : List AV} {vs : List Value} (h : isStrs ds = true) (r : VsRel C ρ ds vs) (C' : Cx) (ρ' : List Addr) : VsRel C' ρ' ds vs := by
  induction r with
  | nil => exact .nil
  | cons a _ ih =>
    cases a with
    | str x t => exact .cons (.str x t) (ih h)
    | _ => first | exact qN h | exact qFT h | exact qTF h | exact qS h | cases h
theorem deeds_strs {ds : List AV} (h : ds ∈ deedLists) : isStrs ds = true := by
  simp only [deedLists, List.mem_cons, List.not_mem_nil, or_false] at h
  rcases h with rfl | rfl | rfl | rfl | rfl | rfl | rfl <;> rfl
section
variable {p : Program} {w : World} {K : Frag} {h₁ : Heap} {A : Around} {env : Env} {s0 s : Shared} {src rnd : Addr} {rs : List Round} {l : Loc}
theorem flat_alive {n : Nat} {h : Heap} : ∀ {rs : List Round}, (∀ r ∈ rs, r.At n h) → ∀ b ∈ flat rs, ∃ o, h.get? b = some o
  | [], _, b, hb => by cases hb
  | r :: rs, hr, b, hb => by
    ((refine x0a5 (hr r (by simp)) (fun _ _ qt1 qt2 _ => ?_)); (refine x2a1 (qt1) (fun _ n1 g1 => ?_)); (refine x1a2 (qt2) (fun _ qt3 _ => ?_)); (refine x1a1 (qt3) (fun n2 g2 => ?_)))
    simp only [flat, List.mem_cons] at hb
    rcases hb with rfl | rfl | hb
    · exact ⟨_, g1⟩
    · exact ⟨_, g2⟩
    · exact flat_alive (fun q hq => hr q (by simp [hq])) b hb
theorem LawAt.alive (L : LawAt (cT p w K h₁) env s0 src rnd rs l s) : ∀ b ∈ src :: rnd :: flat rs, ∃ o, s.heap.get? b = some o := fun b hb => by
  simp only [List.mem_cons] at hb
  rcases hb with rfl | rfl | hb
  · ((refine x4a2 (L.hsrc) (fun x y t u qt4 _ => ?_)); (refine x1a1 (qt4) (fun n g => ?_))); exact ⟨_, g⟩
  · ((refine x1a2 (L.hrnd) (fun items qt5 _ => ?_)); (refine x1a1 (qt5) (fun n g => ?_))); exact ⟨_, g⟩
  · exact flat_alive L.hrs b hb
/-- where only other things are changed -/
theorem LawAt.move (L : LawAt (cT p w K h₁) env s0 src rnd rs l s) {l' : Loc} {s' : Shared} {X : Addr → Prop} (x : Ext X [] s [] s') (h1 : ∀ b, X b → s0.heap.get? b = none) (h2 : ∀ b, X b → b ∉ src :: rnd :: flat rs) (F : FrameOk (cT p w K h₁) env lawF.names [src, rnd] l' s'.heap)
    (base : ∀ b o, h₁.get? b = some o → s'.heap.get? b = some o) : LawAt (cT p w K h₁) env s0 src rnd rs l' s' := by
  have no : ∀ {b}, b ∈ src :: rnd :: flat rs → ¬ X b := fun {b} hb q => h2 b q hb
  ((refine x4a2 (L.hsrc) (fun xx yy t u qt6 hT => ?_)); (refine x1a1 (qt6) (fun n g => ?_)))
  ((refine x1a2 (L.hrnd) (fun items qt7 e2 => ?_)); (refine x1a1 (qt7) (fun n2 g2 => ?_)))
  refine ⟨F, Ext.fresh ((L.kp.weaken fun b q => q.elim).trans x) fun b q => .inr (h1 b q), L.nd, L.apart, L.lo1, L.lo2, L.fresh, L.fx, base, ⟨xx, yy, t, u, ⟨n, x.keep _ _ g (fun h => nomatch h) (no (by simp))⟩, hT⟩, ⟨items, ⟨n2, x.keep _ _ g2 (fun h => nomatch h) (no (by simp))⟩, e2⟩, fun r hr => ?_⟩
  have qp := flat_mem hr; have q1 := qp.1; have q2 := qp.2; clear qp
  exact (L.hrs r hr).keep x (no (by simp [q1])) (no (by simp [q2]))
theorem LawAt.less (L : LawAt (cT p w K h₁) env s0 src rnd rs l s) {l' : Loc} (e : ∀ x v, lk l' x = some v → lk l x = some v) : LawAt (cT p w K h₁) env s0 src rnd rs l' s := { L with frame := L.frame.less e }
theorem own_eq {C : Cx} {ρ : List Addr} {i : Nat} {v : Value} {a : Addr} (h : VRel C ρ (.own i) v) (e : at? ρ i = some a) : v = .ref a := h.cOwn (P := fun v => v = .ref a) fun b eb => by rw [Option.some.inj (e.symm.trans eb)]
theorem globs_vals {C : Cx} {ρ : List Addr} {a : Nat} {ta : Addr} (ea : at? ρ a = some ta) : ∀ {rs : List Round} {vs : List Value}, VsRel C ρ (globs rs ++ [.own a]) vs → vs = rs.map (fun r => Value.ref r.t) ++ [.ref ta] := by
  intro rs
  induction rs with
  | nil => exact fun {vs} h => h.rOne (P := fun vs => vs = [.ref ta]) rfl fun v hv => by rw [own_eq hv ea]
  | cons r rs ih => exact fun {vs} h => VsRel.cCons (P := fun vs => vs = (r :: rs).map (fun r => Value.ref r.t) ++ [.ref ta]) h fun v vs h1 h2 => by rw [ih h2]; exact h1.cGlob (P := fun v => v :: _ = _) rfl
theorem appC {α : Type} {x : α} {l r : List α} {P : Prop} (h : x ∈ l ++ r) (h1 : x ∈ l → P) (h2 : x ∈ r → P) : P := (List.mem_append.mp h).elim h1 h2
/-- what is made beside the two numbers and the list of the rounds is new -/
theorem newer_of {C : Cx} {ρ : List Addr} {σ : AS} {h : Heap} {src rnd : Addr} {s s' : Shared} {l : Loc} (R : Rel C ρ σ h) (hr : ∃ r, ρ = src :: rnd :: r) (x : Ext (FX env lawF.names) [src, rnd] s ρ s') (F : FrameOk C env lawF.names ρ l s'.heap) {i : Nat} {b : Addr} (hi : 2 ≤ i) (hb : at? ρ i = some b) : s.heap.get? b = none := by
  obtain ⟨r, hr⟩ := hr
  subst hr
  have ne : ∀ {j : Nat}, at? (src :: rnd :: r) j = some b → i = j := fun {j} e => nodup_at R.nodup hb e
  rcases x.new b (mem_at hb) with q | q | q
  · exact absurd hi (memC q (fun e => by rw [ne (j := 0) (congrArg some e.symm)]; decide) fun q => by rw [ne (j := 1) (congrArg some (List.mem_singleton.mp q).symm)]; decide)
  · exact q
  · rcases q with q | ⟨y, hy, hc⟩
    · exact absurd (q ▸ mem_at hb) F.outL
    · exact absurd (mem_at hb) (F.outC y b (.inl hy) hc).1
/-- what a statement makes that adds a round -/
inductive AppIs (st : Stmt) (l l'' : Loc) (rs : List Round) (tp : List (Nat × Nat)) : Prop
  | mk (l' : Loc) (σ' : AS) (tp' : List (Nat × Nat)) (a d : Nat) (m : Int) (ds : List AV) (h1 : (run Bt T00 60).X st lawF.names l [.src tp, .list (globs rs)] = some (.next, l', σ')) (h2 : at? σ' 0 = some (.src tp')) (h3 : at? σ' 1 = some (.list (globs rs ++ [.own a])))
    (h4 : at? σ' a = some (.tup [.int (.lit m), .own d])) (h5 : at? σ' d = some (.list ds)) (h6 : 2 ≤ a) (h7 : 2 ≤ d) (h8 : 0 ≤ m) (h9 : m ≤ 90) (h10 : ds ∈ deedLists) (h11 : ∀ x v, lk l'' x = some v → lk l' x = some v ∧ okV v) : AppIs st l l'' rs tp
/-- one more round -/
theorem law_add (Z : Base K h₁) (rm : Room A 100) (L : LawAt (cT p w K h₁) env s0 src rnd rs l s) {st : Stmt} {ts : List Nat} (ht : ∀ t ∈ ts, t = 2 ∨ t = 3 ∨ t = 5 ∨ t = 91 ∨ t = 200) {l'' : Loc} (ev : ∀ tp : List (Nat × Nat), tp.map (·.1) = ts → (∀ p ∈ tp, p.2 < p.1) → AppIs st l l'' rs tp)
    {Q : Flow → Shared → Prop} (h : ∀ r s', LawAt (cT p w K h₁) env s0 src rnd (rs ++ [r]) l'' s' → (∀ b ∈ [r.t, r.d], s.heap.get? b = none) → Ext (fun b => FX env lawF.names b ∨ b ∈ [src, rnd]) [] s [] s' → Q .next s') : G (model p w) A (exec st env) Q s := by
  refine x1a3 (L.rel ht) fun tp h1 h2 R => ?_
  have snd := Z.soundT (p := p) (w := w) ν0_ok 60
  have S : ∀ {C : Cx}, C = cT p w K h₁ → Rel C [src, rnd] [.src tp, .list (globs rs)] s.heap → FrameOk C env lawF.names [src, rnd] l s.heap → SX C (60 + 29) (run Bt T00 60).X → LawAt C env s0 src rnd rs l s →
      (∀ r s', LawAt C env s0 src rnd (rs ++ [r]) l'' s' → (∀ b ∈ [r.t, r.d], s.heap.get? b = none) → Ext (fun b => FX env lawF.names b ∨ b ∈ [src, rnd]) [] s [] s' → Q .next s') → G C.M A (exec st env) Q s := fun {C} eC R F snd L h => by
    obtain ⟨l', σ', tp', a, d, m, ds, e, e0, e1, e2, e3, a2, d2, m1, m2, hds, hl⟩ := ev tp h1 h2
    refine snd e (rm.less (by decide)) R F fun ρ' s' fv R' x' F' h' => ?_
    cases h'
    have x'' : Ext (FX env lawF.names) [src, rnd] s ρ' s' := x'
    have hr := x''.pre
    have a1 : at? ρ' 1 = some rnd := by obtain ⟨r, hr⟩ := hr; rw [hr]; rfl
    have new : ∀ {i : Nat} {b : Addr}, 2 ≤ i → at? ρ' i = some b → s.heap.get? b = none := fun h1 h2 => newer_of R' (hr.elim fun r e => ⟨r, e⟩) x'' F' h1 h2
    refine x1a2 (R'.objs 1 _ rnd e1 a1) fun items g f => x1a1 (at_some (l := ρ') (i := a) (by rw [R'.len]; exact at_lt e2)) fun ta eta => x1a1 (at_some (l := ρ') (i := d) (by rw [R'.len]; exact at_lt e3)) fun da eda =>
      x1a3 (R'.objs a _ ta e2 eta) fun tv gt ft _ => x1a2 (R'.objs d _ da e3 eda) fun dv gd fd => ?_
    have nt := new a2 eta
    have ndd := new d2 eda
    have tup : ∃ tk, PlainTup s'.heap ta [.int m tk, .ref da] := VsRel.rTwo (p := (.int (.lit m), .own d)) (P := fun tv => PlainTup s'.heap ta tv → ∃ tk, PlainTup s'.heap ta [.int m tk, .ref da]) rfl ft (fun v w k1 k2 => k1.rLit (P := fun v => PlainTup s'.heap ta [v, w] → _) rfl fun tk gt => ⟨tk, own_eq k2 eda ▸ gt⟩) gt
    have htd : ta ≠ da := fun q => by
      have z := nodup_at R'.nodup eta (q ▸ eda)
      rw [z, e3] at e2
      cases e2
    have notin : ∀ {b}, s.heap.get? b = none → b ∉ src :: rnd :: flat rs := fun {b} hb q => by
      subst eC
      obtain ⟨o, e⟩ := L.alive b q
      rw [hb] at e; cases e
    have none0 : ∀ {b}, s.heap.get? b = none → s0.heap.get? b = none := fun {b} hb => none_of_ext L.kp (fun _ z => z) hb
    have here : (⟨ta, da, m, ds⟩ : Round).At C.h₁.objs.size s'.heap := ⟨R'.new ta (mem_at eta), R'.new da (mem_at eda), tup, ⟨dv, gd, deeds_any (deeds_strs hds) fd⟩, m1, m2, hds⟩
    subst eC
    refine h ⟨ta, da, m, ds⟩ s' (L.after R' x'' F' e0 ⟨items, g, by rw [globs_vals eta f, List.map_append]; rfl⟩ (fun q hq => appC hq (fun hq => L.kept x'' q hq) fun hq => List.mem_singleton.mp hq ▸ here) ?_ ?_ (fun b hb => ?_) hl) (fun b hb => mem2C (P := fun b => s.heap.get? b = none) hb nt ndd) x''.forget
    · rw [flat_app, ← List.cons_append, ← List.cons_append]
      refine List.nodup_append.mpr ⟨L.nd, List.nodup_cons.mpr ⟨fun q => htd (List.mem_singleton.mp q), List.nodup_cons.mpr ⟨(fun q => nomatch q), List.nodup_nil⟩⟩, fun x hx y hy q => ?_⟩
      subst q
      exact notin (mem2C (P := fun b => s.heap.get? b = none) hy nt ndd) hx
    · rw [flat_app]
      intro b hb
      exact appC hb (fun hb => L.apart b (List.mem_cons_of_mem _ (List.mem_cons_of_mem _ hb))) fun hb => apart_of L.frame (its := [ta, da]) (fun b hb => mem2C (P := fun b => s.heap.get? b = none) hb nt ndd) b hb
    · rw [flat_app] at hb
      exact appC hb (fun hb => L.fresh b (List.mem_cons_of_mem _ (List.mem_cons_of_mem _ hb))) fun hb => mem2C (P := fun b => s0.heap.get? b = none) hb (none0 nt) (none0 ndd)
  exact S rfl R L.frame (@Sound.sX _ _ _ snd) L h
end
end Mine
-- M67
namespace Mine
open PySem PySem.W PySem.Calls PyProof.Rows PyProof PyProof.V PySem.SeqAt
noncomputable def l1 : Loc := [("source", .own 0), ("rounds", .own 1)]
noncomputable def l2 (rg : Int) : Loc := [("source", .own 0), ("rounds", .own 1), ("ring", .int (.lit rg))]
noncomputable def lL (rg sd : Int) : Loc := [("source", .own 0), ("rounds", .own 1), ("ring", .int (.lit rg)), ("seed", .int (.lit sd))]
noncomputable def lM (rg sd m : Int) : Loc := [("source", .own 0), ("rounds", .own 1), ("ring", .int (.lit rg)), ("seed", .int (.lit sd)), ("many", .int (.lit m))]
noncomputable def okVb : AV → Bool
  | .own i => Nat.ble i 1
  | .int e => (sLit e).isSome
  | _ => false
theorem okVb_of {v : AV} (h : okVb v = true) : okV v := by
  cases v with
  | own i =>
    cases i with
    | zero => exact .inl rfl
    | succ i =>
      cases i with
      | zero => exact .inr (.inl rfl)
      | succ i => exact absurd (Nat.le_of_ble_eq_true h) (by simp)
  | int e =>
    cases e with
    | lit n => exact .inr (.inr ⟨n, rfl⟩)
    | _ => exact qFT h
  | _ => exact qFT h
noncomputable def okL : Loc → Bool
  | [] => true
  | p :: r => (okVb p.2).and (okL r)
theorem okL_of {l : Loc} (q : okL l = true) : ∀ x v, lk l x = some v → okV v := by
  induction l with
  | nil => exact fun x v h => qN h
  | cons p l ih =>
    intro x v h
    refine and2 q fun q1 q2 => ?_
    rw [lk_cons] at h
    by_cases e : x = p.1
    · rw [if_pos e] at h; exact Option.some.inj h ▸ okVb_of q1
    · rw [if_neg e] at h; exact ih q2 x v h
theorem lM_lL {rg sd m : Int} {x : Str} {v : AV} (h : lk (lL rg sd) x = some v) : lk (lM rg sd m) x = some v := by
  have : lM rg sd m = List.append (lL rg sd) [(("many" : Str), AV.int (.lit m))] := rfl
  rw [this]
  refine (lk_append (lL rg sd) _ x).trans ?_
  rw [h]; rfl
theorem tape1 {tp : List (Nat × Nat)} {t : Nat} {ts : List Nat} (h : tp.map (·.1) = t :: ts) (hb : ∀ p ∈ tp, p.2 < p.1) : ∃ r tp', tp = (t, r) :: tp' ∧ r < t ∧ tp'.map (·.1) = ts ∧ ∀ p ∈ tp', p.2 < p.1 := by
  cases tp with
  | nil => first | exact qN h | exact qFT h | exact qTF h | exact qS h | cases h
  | cons q tp =>
    obtain ⟨a, r⟩ := q
    simp only [List.map_cons, List.cons.injEq] at h
    obtain ⟨rfl, h⟩ := h
    exact ⟨r, tp, rfl, hb (a, r) (by simp), h, fun p hp => hb p (by simp [hp])⟩
theorem ev_ring (tp : List (Nat × Nat)) (h : tp.map (·.1) = [2]) (hb : ∀ p ∈ tp, p.2 < p.1) : ∃ l' σ' tp' l'', (run Bt T00 60).X (lst 2) lawF.names l1 [.src tp, .list (globs [])] = some (.next, l', σ') ∧ at? σ' 0 = some (.src tp') ∧ at? σ' 1 = some (.list (globs [])) ∧ (∀ x v, lk l'' x = some v → lk l' x = some v ∧ okV v) ∧ ∃ rg, (rg = 256 ∨ rg = 4294967296) ∧ l'' = l2 rg := by
  obtain ⟨r, tp, rfl, hr, h, _⟩ := tape1 h hb
  have : tp = [] := List.map_eq_nil_iff.mp h
  subst this
  have : r = 0 ∨ r = 1 := (by decide : ∀ n, n < 2 → n = 0 ∨ n = 1) r hr
  rcases this with rfl | rfl
  · exact ⟨l2 256, [.src [], .list [], .list [.int (.lit 256), .int (.lit 4294967296)]], [], l2 256, by rfl, rfl, rfl, fun x v e => ⟨e, okL_of (by rfl) x v e⟩, 256, .inl rfl, rfl⟩
  · exact ⟨l2 4294967296, [.src [], .list [], .list [.int (.lit 256), .int (.lit 4294967296)]], [], l2 4294967296, by rfl, rfl, rfl, fun x v e => ⟨e, okL_of (by rfl) x v e⟩, 4294967296, .inr rfl, rfl⟩
theorem ev_seed {rg : Int} (hrg : rg = 256 ∨ rg = 4294967296) (tp : List (Nat × Nat)) (h : tp.map (·.1) = [200]) (hb : ∀ p ∈ tp, p.2 < p.1) : ∃ l' σ' tp' l'', (run Bt T00 60).X (lst 3) lawF.names (l2 rg) [.src tp, .list (globs [])] = some (.next, l', σ') ∧ at? σ' 0 = some (.src tp') ∧ at? σ' 1 = some (.list (globs [])) ∧ (∀ x v, lk l'' x = some v → lk l' x = some v ∧ okV v) ∧ ∃ sd, l'' = lL rg sd := by
  obtain ⟨r, tp, rfl, hr, h, _⟩ := tape1 h hb
  have : tp = [] := List.map_eq_nil_iff.mp h
  subst this
  rcases hrg with rfl | rfl
  · exact ⟨lL 256 (256 - 1 - Int.ofNat r), [.src [], .list []], [], lL 256 (256 - 1 - Int.ofNat r), by rfl, rfl, rfl, fun x v e => ⟨e, okL_of (by rfl) x v e⟩, _, rfl⟩
  · exact ⟨lL 4294967296 (4294967296 - 1 - Int.ofNat r), [.src [], .list []], [], lL 4294967296 (4294967296 - 1 - Int.ofNat r), by rfl, rfl, rfl, fun x v e => ⟨e, okL_of (by rfl) x v e⟩, _, rfl⟩
noncomputable def lFor : Expr × Expr × List Stmt := forOf (lst 4)
noncomputable def tst (i : Nat) : Stmt := (at? lFor.2.2 i).getD default
theorem ev_many {rg sd : Int} (rs : List Round) (tp : List (Nat × Nat)) (h : tp.map (·.1) = [91, 5]) (hb : ∀ p ∈ tp, p.2 < p.1) : ∃ l' σ' tp' l'', (run Bt T00 60).X (tst 0) lawF.names (lL rg sd) [.src tp, .list (globs rs)] = some (.next, l', σ') ∧ at? σ' 0 = some (.src tp') ∧ at? σ' 1 = some (.list (globs rs)) ∧ (∀ x v, lk l'' x = some v → lk l' x = some v ∧ okV v) ∧ ∃ m, 0 ≤ m ∧ m ≤ 90 ∧ l'' = lM rg sd m := by
  obtain ⟨r3, tp, rfl, hr3, h, hb⟩ := tape1 h hb
  obtain ⟨r4, tp, rfl, hr4, h, hb⟩ := tape1 h hb
  have : tp = [] := List.map_eq_nil_iff.mp h
  subst this
  have fin : ∀ (m : Int), 0 ≤ m → m ≤ 90 → (run Bt T00 60).X (tst 0) lawF.names (lL rg sd) [.src [(91, r3), (5, r4)], .list (globs rs)] = some (.next, lM rg sd m, [.src [], .list (globs rs), .list [.int (.lit 0), .int (.lit 63), .int (.lit 64), .int (.lit 90), .int (.lit (.ofNat r3))]]) →
      ∃ l' σ' tp' l'', (run Bt T00 60).X (tst 0) lawF.names (lL rg sd) [.src [(91, r3), (5, r4)], .list (globs rs)] = some (.next, l', σ') ∧ at? σ' 0 = some (.src tp') ∧ at? σ' 1 = some (.list (globs rs)) ∧ (∀ x v, lk l'' x = some v → lk l' x = some v ∧ okV v) ∧ ∃ m, 0 ≤ m ∧ m ≤ 90 ∧ l'' = lM rg sd m := fun m m1 m2 e =>
    ⟨lM rg sd m, [.src [], .list (globs rs), .list [.int (.lit 0), .int (.lit 63), .int (.lit 64), .int (.lit 90), .int (.lit (.ofNat r3))]], [], lM rg sd m, e, rfl, rfl, fun x v e => ⟨e, okL_of (by rfl) x v e⟩, m, m1, m2, rfl⟩
  have : r4 = 0 ∨ r4 = 1 ∨ r4 = 2 ∨ r4 = 3 ∨ r4 = 4 := (by decide : ∀ n, n < 5 → n = 0 ∨ n = 1 ∨ n = 2 ∨ n = 3 ∨ n = 4) r4 hr4
  rcases this with rfl | rfl | rfl | rfl | rfl
  · exact fin 0 (by decide) (by decide) (by rfl)
  · exact fin 63 (by decide) (by decide) (by rfl)
  · exact fin 64 (by decide) (by decide) (by rfl)
  · exact fin 90 (by decide) (by decide) (by rfl)
  · exact fin (.ofNat r3) (Int.natCast_nonneg _) (by show (r3 : Int) ≤ 90; omega) (by rfl)
theorem ev_app {rg sd m : Int} (m1 : 0 ≤ m) (m2 : m ≤ 90) (rs : List Round) (hn : rs.length < 3) (tp : List (Nat × Nat)) (h : tp.map (·.1) = [3, 2, 2]) (hb : ∀ p ∈ tp, p.2 < p.1) : AppIs (tst 1) (lM rg sd m) (lL rg sd) rs tp := by
  obtain ⟨r5, tp, rfl, hr5, h, hb⟩ := tape1 h hb
  obtain ⟨r6, tp, rfl, hr6, h, hb⟩ := tape1 h hb
  obtain ⟨r7, tp, rfl, hr7, h, hb⟩ := tape1 h hb
  have : tp = [] := List.map_eq_nil_iff.mp h
  subst this
  clear h hb
  have sub : ∀ x v, lk (lL rg sd) x = some v → lk (lM rg sd m) x = some v ∧ okV v := fun x v e => ⟨lM_lL e, okL_of (by rfl) x v e⟩
  have c5 : r5 = 0 ∨ r5 = 1 ∨ r5 = 2 := (by decide : ∀ n, n < 3 → n = 0 ∨ n = 1 ∨ n = 2) r5 hr5
  have two : ∀ n, n < 2 → n = 0 ∨ n = 1 := by decide
  have c6 := two r6 hr6
  have c7 := two r7 hr7
  clear hr5 hr6 hr7 two
  have cs : rs = [] ∨ (∃ a, rs = [a]) ∨ ∃ a b, rs = [a, b] := by
    cases rs with
    | nil => exact .inl rfl
    | cons a rs =>
      cases rs with
      | nil => exact .inr (.inl ⟨a, rfl⟩)
      | cons b rs =>
        cases rs with
        | nil => exact .inr (.inr ⟨a, b, rfl⟩)
        | cons => exact absurd hn (by simp)
  clear hn
  have d0 : ([] : List AV) ∈ deedLists := by simp [deedLists]
  have d1 : [aD] ∈ deedLists := by simp [deedLists]
  have d2 : [oD] ∈ deedLists := by simp [deedLists]
  have d3 : [aD, aD] ∈ deedLists := by simp [deedLists]
  have d4 : [aD, oD] ∈ deedLists := by simp [deedLists]
  have d5 : [oD, aD] ∈ deedLists := by simp [deedLists]
  have d6 : [oD, oD] ∈ deedLists := by simp [deedLists]
  rcases cs with rfl | ⟨q, rfl⟩ | ⟨q, q', rfl⟩ <;> rcases c5 with rfl | rfl | rfl
  all_goals first
    | exact ⟨lM rg sd m, _, [(2, r6), (2, r7)], 4, 3, m, [], by rfl, by rfl, by rfl, by rfl, by rfl, by decide, by decide, m1, m2, d0, sub⟩
    | skip
  all_goals rcases c6 with rfl | rfl
  all_goals first
    | exact ⟨lM rg sd m, _, [(2, r7)], 5, 4, m, [aD], by rfl, by rfl, by rfl, by rfl, by rfl, by decide, by decide, m1, m2, d1, sub⟩
    | exact ⟨lM rg sd m, _, [(2, r7)], 5, 4, m, [oD], by rfl, by rfl, by rfl, by rfl, by rfl, by decide, by decide, m1, m2, d2, sub⟩
    | skip
  all_goals rcases c7 with rfl | rfl
  all_goals first
    | exact ⟨lM rg sd m, _, [], 6, 5, m, [aD, aD], by rfl, by rfl, by rfl, by rfl, by rfl, by decide, by decide, m1, m2, d3, sub⟩
    | exact ⟨lM rg sd m, _, [], 6, 5, m, [aD, oD], by rfl, by rfl, by rfl, by rfl, by rfl, by decide, by decide, m1, m2, d4, sub⟩
    | exact ⟨lM rg sd m, _, [], 6, 5, m, [oD, aD], by rfl, by rfl, by rfl, by rfl, by rfl, by decide, by decide, m1, m2, d5, sub⟩
    | exact ⟨lM rg sd m, _, [], 6, 5, m, [oD, oD], by rfl, by rfl, by rfl, by rfl, by rfl, by decide, by decide, m1, m2, d6, sub⟩
end Mine
-- M68
namespace Mine
open PySem PySem.W PySem.Calls PyProof.Rows PyProof PyProof.V PySem.SeqAt
theorem lFor_body : lFor.2.2 = [tst 0, tst 1] := by rfl
theorem lFor_target : ∃ x q, lFor.1 = .Name x q ∧ lk lawF.names x = some .local := ⟨_, _, rfl, by rfl⟩
theorem lFor_turn (rg sd : Int) (v : AV) (σ : AS) : assignN lawF.names σ lFor.1 v (lL rg sd) = some (List.append (lL rg sd) [(("turn" : Str), v)]) := by rfl
section
variable {p : Program} {w : World} {K : Frag} {h₁ : Heap} {A : Around} {env : Env} {s0 s : Shared} {src rnd : Addr} {rs : List Round} {l : Loc}
noncomputable def EvMany (rg sd : Int) (t0 : Stmt) : Prop := ∀ (rs : List Round) (tp : List (Nat × Nat)), tp.map (·.1) = [91, 5] → (∀ p ∈ tp, p.2 < p.1) → ∃ l' σ' tp' l'', (run Bt T00 60).X t0 lawF.names (lL rg sd) [.src tp, .list (globs rs)] = some (.next, l', σ') ∧ at? σ' 0 = some (.src tp') ∧ at? σ' 1 = some (.list (globs rs)) ∧ (∀ x v, lk l'' x = some v → lk l' x = some v ∧ okV v) ∧ ∃ m, 0 ≤ m ∧ m ≤ 90 ∧ l'' = lM rg sd m
noncomputable def EvApp (rg sd : Int) (t1 : Stmt) : Prop := ∀ (m : Int), 0 ≤ m → m ≤ 90 → ∀ (rs : List Round), rs.length < 3 → ∀ (tp : List (Nat × Nat)), tp.map (·.1) = [3, 2, 2] → (∀ p ∈ tp, p.2 < p.1) → AppIs t1 (lM rg sd m) (lL rg sd) rs tp
theorem law_loop (Z : Base K h₁) (rm : Room A 100) {rg sd : Int} {tg : Expr} {t0 t1 : Stmt} (hT : ∀ v σ, assignN lawF.names σ tg v (lL rg sd) = some (List.append (lL rg sd) [(("turn" : Str), v)])) (hM : EvMany rg sd t0) (hA : EvApp rg sd t1) {it : Addr} (fI : s0.heap.get? it = none) (apI : Apart env lawF.names [it]) (lowI : h₁.objs.size ≤ it) {Q : Flow → Shared → Prop} : ∀ (left k : Nat) (rs : List Round) (s : Shared), rs.length = k → k + left ≤ 3 → IsRangeIter s.heap it k left 1 →
    it ∉ src :: rnd :: flat rs → LawAt (cT p w K h₁) env s0 src rnd rs (lL rg sd) s → (∀ rs' s', LawAt (cT p w K h₁) env s0 src rnd rs' (lL rg sd) s' → Q .next s') → CG (model p w) A (.forLoop tg (.ref it) [t0, t1] [] env) Q s
  | 0, k, rs, s, hk, hn, hit, ni, L, h => by
    refine g_for (C := cT p w K h₁) (G.of (wpAny_pyNext_range_end rm.2.2 hit (by omega) fun h' hs => ?_))
    have x : Ext (· = it) [] s [] { s with heap := h' } := Ext.but (t := s.toks) fun b o hb e => hs b o hb e
    refine h rs { s with heap := h' } (L.move x (fun b q => q ▸ fI) (fun b q => q ▸ ni) (L.frame.ext (ρ' := [src, rnd]) x.more fun b q => apI b (by simp [q])) fun b o e => hs b o (fun q => absurd (Heap.lt_size e) (Nat.not_lt.mpr (q ▸ lowI))) (L.base b o e))
  | left + 1, k, rs, s, hk, hn, hit, ni, L, h => by
    refine g_for (C := cT p w K h₁) (G.of (wpAny_pyNext_range_item hit (by omega) fun h' hit' hs => ?_))
    have x1 : Ext (· = it) [] s [] { s with heap := h', toks := s.toks + 1 } := Ext.but (t := s.toks + 1) fun b o hb e => (hs.2 b hb).trans e
    have L1 := L.move x1 (fun b q => q ▸ fI) (fun b q => q ▸ ni) (L.frame.ext (ρ' := [src, rnd]) x1.more fun b q => apI b (by simp [q])) fun b o e => (hs.2 b (fun q => absurd (Heap.lt_size e) (Nat.not_lt.mpr (q ▸ lowI)))).trans (L.base b o e)
    refine G.of (let_plain (C := cT p w K h₁) (s := { s with heap := h', toks := s.toks + 1 }) hit' rfl (by decide) ?_)
    obtain ⟨tp, _, _, R1⟩ := L1.rel (ts := []) (fun t h => nomatch h)
    refine G.of (assign_keep (C := cT p w K h₁) (s := { s with heap := h', toks := s.toks + 1 }) R1 L1.frame rm.2.2 (hT (.int (.lit k)) _) (.int _ (by simp [SI.rel])) fun s2 R2 x2 F2 => ?_)
    have offI : ¬ FX env lawF.names it := apI.off it (by simp)
    have L2 : LawAt (cT p w K h₁) env s0 src rnd rs (lL rg sd) s2 := L1.move x2 (fun b q => L.fx b q) (fun b q hb => L.apart.off b hb q) (F2.less fun x v e => by
      refine (lk_append (lL rg sd) _ x).trans ?_
      rw [e]; rfl) R2.base
    have e1 : (k : Int) + 1 = ((k + 1 : Nat) : Int) := by push_cast; rfl
    have e2 : ((left + 1 : Nat) : Int) - 1 = (left : Int) := by push_cast; omega
    rw [e1, e2] at hit'
    have hit2 : IsRangeIter s2.heap it ((k + 1 : Nat) : Int) left 1 := x2.keep _ _ hit' (fun q => nomatch q) offI
    rw [execs_cons]
    refine G.bind (law_step Z rm L2 (ts := [91, 5]) (by simp) (P := fun l'' => ∃ m, 0 ≤ m ∧ m ≤ 90 ∧ l'' = lM rg sd m) (fun tp h1 h2 => hM rs tp h1 h2) fun l'' s3 hP L3 x3 => ?_)
    ((refine x1a3 (hP) (fun m m1 m2 qr1 => ?_)); subst qr1)
    have keepI : ∀ {b}, b = it → ¬ (FX env lawF.names b ∨ b ∈ [src, rnd]) := fun {b} e q => by
      subst e
      rcases q with q | q
      · exact offI q
      · simp at q
        rcases q with q | q <;> exact ni (by simp [q])
    have hit3 : IsRangeIter s3.heap it ((k + 1 : Nat) : Int) left 1 := x3.keep _ _ hit2 (fun q => nomatch q) (keepI rfl)
    dsimp only
    rw [execs_cons]
    refine G.bind (law_add Z rm L3 (ts := [3, 2, 2]) (by simp) (l'' := lL rg sd) (fun tp h1 h2 => hA m m1 m2 rs (by omega) tp h1 h2) fun r s4 L4 new x4 => ?_)
    have hit4 : IsRangeIter s4.heap it ((k + 1 : Nat) : Int) left 1 := x4.keep _ _ hit3 (fun q => nomatch q) (keepI rfl)
    dsimp only
    refine G.pure ?_
    have ni4 : it ∉ src :: rnd :: flat (rs ++ [r]) := fun q => by
      rw [flat_app] at q
      rcases List.mem_cons.mp q with q | q
      · exact ni (by simp [q])
      · rcases List.mem_cons.mp q with q | q
        · exact ni (by simp [q])
        · rcases List.mem_append.mp q with q | q
          · exact ni (by simp [q])
          · have := new it q
            have g : s3.heap.get? it = _ := hit3
            rw [this] at g; cases g
    exact law_loop Z rm hT hM hA fI apI lowI left (k + 1) (rs ++ [r]) s4 (by simp [hk]) (by omega) hit4 ni4 L4 h
end
end Mine
-- M69
namespace Mine
open PySem PySem.W PySem.Calls PyProof.Rows PyProof PyProof.V PySem.SeqAt
noncomputable def l0 : Loc := [("script", .own 0)]
noncomputable def l0' : Loc := [("script", .own 0), ("source", .own 1), ("rounds", .own 2)]
noncomputable def okSrc (sx sy : AV) : Prop := (∀ (C : Cx) (ρ : List Addr) (v : Value), VRel C ρ sx v → ∃ x t, v = .int x t ∧ 0 ≤ x) ∧ (∀ (C : Cx) (ρ : List Addr) (v : Value), VRel C ρ sy v → ∃ y t, v = .int y t ∧ 0 ≤ y ∧ y < seedMod)
theorem okSrc_bnd {h : Option Int} {x y : Int} : okSrc (.bnd (some 0) h x) (.bnd (some 0) (some 2147483646) y) := by
  refine ⟨fun C ρ v k => ?_, fun C ρ v k => ?_⟩
  · cases k with
    | bnd t k => exact ⟨x, t, rfl, k.1 _ rfl⟩
  · cases k with
    | bnd t k => exact ⟨y, t, rfl, k.1 _ rfl, by have := k.2 _ rfl; have e : seedMod = 2147483647 := rfl; omega⟩
theorem okSrc_lit : okSrc (.int (.lit 0)) (.int (.lit 820607)) := by
  refine ⟨fun C ρ v k => ?_, fun C ρ v k => ?_⟩
  · cases k with
    | int t k => exact ⟨_, t, rfl, by have : _ = (0 : Int) := k; omega⟩
  · cases k with
    | int t k => exact ⟨_, t, rfl, by have : _ = (820607 : Int) := k; omega, by have : _ = (820607 : Int) := k; have e : seedMod = 2147483647 := rfl; omega⟩
noncomputable def litsV : List Value → List AV
  | [] => []
  | .int n _ :: r => .int (.lit n) :: litsV r
  | _ :: r => .none :: litsV r
theorem litsV_rel {C : Cx} {ρ : List Addr} : ∀ {vs : List Value}, (∀ v ∈ vs, ∃ n t, v = .int n t) → VsRel C ρ (litsV vs) vs
  | [], _ => .nil
  | v :: vs, h => by
    ((refine x2a1 (h v (by simp)) (fun n t qr1 => ?_)); subst qr1)
    exact .cons (.int t (by simp [SI.rel])) (litsV_rel fun v hv => h v (by simp [hv]))
theorem ev_pool {vs : List Value} (n : Nat) (hv : ∀ v ∈ vs, ∃ n t, v = .int n t) : ∃ xs sx sy, (∀ (C : Cx) (ρ : List Addr), VsRel C ρ xs vs) ∧ okSrc sx sy ∧
    (run B T00 60).X (lst 1) lawF.names l0 [.flist xs vs n] = some (.next, l0', [.flist xs vs n, .list [sx, sy], .list [], .tup [.own 1, .own 2]]) := by
  cases vs with
  | nil => exact ⟨[], .int (.lit 0), .int (.lit 820607), fun C ρ => .nil, okSrc_lit, by rfl⟩
  | cons v vs =>
    ((refine x2a1 (hv v (by simp)) (fun c t qr2 => ?_)); subst qr2)
    have hr : ∀ (C : Cx) (ρ : List Addr), VsRel C ρ (litsV vs) vs := fun C ρ => litsV_rel fun v h => hv v (by simp [h])
    by_cases c1 : 1000000000000000000 ≤ c
    · exact ⟨.bnd (some 1000000000000000000) none c :: litsV vs, _, _, fun C ρ => .cons (.bnd _ ⟨fun a q => by cases q; exact c1, fun b q => by cases q⟩) (hr C ρ), okSrc_bnd, by rfl⟩
    · by_cases c2 : 0 ≤ c
      · exact ⟨.bnd (some 0) (some 999999999999999999) c :: litsV vs, _, _, fun C ρ => .cons (.bnd _ ⟨fun a q => by cases q; exact c2, fun b q => by cases q; omega⟩) (hr C ρ), okSrc_bnd, by rfl⟩
      · by_cases c3 : -1000000000000000000 ≤ c
        · exact ⟨.bnd (some (-1000000000000000000)) (some (-1)) c :: litsV vs, _, _, fun C ρ => .cons (.bnd _ ⟨fun a q => by cases q; exact c3, fun b q => by cases q; omega⟩) (hr C ρ), okSrc_bnd, by rfl⟩
        · exact ⟨.bnd none (some (-1000000000000000001)) c :: litsV vs, _, _, fun C ρ => .cons (.bnd _ ⟨fun a q => (by cases q), fun b q => by cases q; omega⟩) (hr C ρ), okSrc_bnd, by rfl⟩
/-! the calls of _law_right -/
section
variable {C : Cx} {A : Around} {env : Env} {ns : List (Str × NameKind)} {ρ : List Addr} {l : Loc} {σ σ' : AS} {s : Shared} {d : Nat} {r : Run}
theorem eval_call (S : Stat C) (hE : SE C d r.E) (rm : Room A d) {f : Expr} {args : List Expr} {p : Pos} {a : Nat} {avs : List AV} (hf : ∃ x q, f = .Name x q) (hfun : isFun C.B (.glob a) = true) (e1 : r.E f ns l σ = some (.glob a, σ)) (e2 : evL (fun e σ => r.E e ns l σ) args σ = some (avs, σ'))
    (R : Rel C ρ σ s.heap) (F : FrameOk C env ns ρ l s.heap) {Q : Value → Shared → Prop} (h : ∀ ρ' s' vals, Rel C ρ' σ' s'.heap → Ext NoX ρ s ρ' s' → VsRel C ρ' avs vals → G C.M A (PySem.call (.ref a) vals) Q s') : G C.M A (eval (.Call f args [] p) env) Q s := by
  ((refine x2a1 (hf) (fun x q qr3 => ?_)); subst qr3)
  have ev : eval (.Call (.Name x q) args [] p) env = (do callWith p (← eval (.Name x q) env) [] (backTo p (starEach args env)) (backToKw p (keywordEach [] env))) := rfl
  rw [ev]
  refine G.bind (hE e1 rm R F fun ρ1 s1 fval R1 x1 h1 => ?_)
  cases h1
  refine g_callWith (noStar e2) (evL_sound hE rm e2 R1 (F.extE x1) fun ρ2 s2 vals R2 x2 h2 => ⟨keeper_of S R2 hfun (.glob a), ?_⟩)
  rw [List.nil_append]
  exact h ρ2 s2 vals R2 (x1.trans x2) h2
theorem Ext.hold {X : Addr → Prop} {ρ' : List Addr} {s' : Shared} (x : Ext X ρ s ρ' s') (e : ∀ b ∈ ρ, X b ∨ s.heap.get? b = none ∨ ∃ o, s.heap.get? b = some o ∧ s'.heap.get? b = some o) : Ext X [] s [] s' :=
  ⟨⟨[], rfl⟩, fun a h => (nomatch h), x.alive, fun b o g _ hb => by
    by_cases q : b ∈ ρ
    · rcases e b q with z | z | ⟨o', z1, z2⟩
      · exact absurd z hb
      · rw [z] at g; cases g
      · rw [g] at z1; cases z1; exact z2
    · exact x.keep b o g q hb, x.gens, x.drawn, x.os⟩
end
noncomputable def fE0 : Expr := match lst 0 with
  | .If (.UnaryOp _ (.Call f _ _ _) _) _ _ _ => f
  | _ => default
noncomputable def args0 : List Expr := match lst 0 with
  | .If (.UnaryOp _ (.Call _ a _ _) _) _ _ _ => a
  | _ => []
theorem lst0 : ∃ p1 p2 b p3, lst 0 = .If (.UnaryOp .Not (.Call fE0 args0 [] p1) p2) b [] p3 := ⟨_, _, _, _, rfl⟩
theorem fE0_name : ∃ x q, fE0 = .Name x q := ⟨_, _, rfl⟩
theorem right_isFun (b : Tabs) (h : b.fn = fnTab) : isFun b (.glob 1964) = true := by
  unfold isFun
  rw [h]
  rfl
noncomputable def σ0 (xs : List AV) (vs : List Value) (n : Nat) : AS := [.flist xs vs n, .list [aD], .tup [.int (.lit 0), .own 1], .list [aD], .tup [.int (.lit 90), .own 3], .list [oD], .tup [.int (.lit 0), .own 5], .list [.own 2, .own 4, .own 6]]
theorem fE0_ev (xs : List AV) (vs : List Value) (n : Nat) : (run B T00 8).E fE0 lawF.names l0 [.flist xs vs n] = some (.glob 1964, [.flist xs vs n]) := by rfl
theorem args0_ev (xs : List AV) (vs : List Value) (n : Nat) : evL (fun e σ => (run B T00 8).E e lawF.names l0 σ) args0 [.flist xs vs n] = some ([.int (.lit 256), .int (.lit 160), .own 7], σ0 xs vs n) := by rfl
noncomputable def fE5 : Expr := match lst 5 with
  | .Return (some (.Call f _ _ _)) _ => f
  | _ => default
noncomputable def args5 : List Expr := match lst 5 with
  | .Return (some (.Call _ a _ _)) _ => a
  | _ => []
theorem lst5 : ∃ p1 p2, lst 5 = .Return (some (.Call fE5 args5 [] p1)) p2 := ⟨_, _, rfl⟩
theorem fE5_name : ∃ x q, fE5 = .Name x q := ⟨_, _, rfl⟩
theorem fE5_ev (rg sd : Int) (σ : AS) : (run Bt T00 3).E fE5 lawF.names (lL rg sd) σ = some (.glob 1964, σ) := by rfl
theorem args5_ev (rg sd : Int) (σ : AS) : evL (fun e σ => (run Bt T00 3).E e lawF.names (lL rg sd) σ) args5 σ = some ([.int (.lit rg), .int (.lit sd), .own 1], σ) := by rfl
theorem law_body : lawF.body = [lst 0, lst 1, lst 2, lst 3, lst 4, lst 5] := by rfl
theorem law_fn : nlk fnTab 1969 = some lawF := by rfl
theorem law_fill : fill lawF.ps [.own 0] lawF.ds = some l0 := by rfl
theorem lst4 : ∃ q, lst 4 = .For lFor.1 lFor.2.1 [tst 0, tst 1] [] q := ⟨_, rfl⟩
theorem lFor_set : notSet lFor.2.1 = true := by rfl
theorem lFor_iter0 (rg sd : Int) (sy : AV) : (run B T00 12).E lFor.2.1 lawF.names (lL rg sd) [.list [.int (.lit 0), sy], .list []] = some (.own 2, [.list [.int (.lit 0), sy], .list [], .rng 1]) := by rfl
theorem lFor_iter1 (rg sd x : Int) (sy : AV) : (run B T00 12).E lFor.2.1 lawF.names (lL rg sd) [.list [.bnd (some 1) none x, sy], .list []] = some (.own 2, [.list [.bnd (some 1) none x, sy], .list [], .rng 3]) := by rfl
end Mine
-- M70
namespace Mine
open PySem PySem.W PySem.Calls PyProof.Rows PyProof PyProof.V PySem.SeqAt
section
variable {p : Program} {w : World} {K : Frag} {h₁ : Heap} {A : Around} {env : Env} {s0 s : Shared} {src rnd : Addr} {rs : List Round} {l : Loc}
theorem round_of {C : Cx} {ρ : List Addr} {σ : AS} {h : Heap} (R : Rel C ρ σ h) {i j : Nat} {t d : Addr} {m : Int} {ds : List AV} (e1 : at? σ i = some (.tup [.int (.lit m), .own j])) (e2 : at? σ j = some (.list ds)) (a1 : at? ρ i = some t) (a2 : at? ρ j = some d) (m1 : 0 ≤ m) (m2 : m ≤ 90) (hds : ds ∈ deedLists) : Round.At C.h₁.objs.size h ⟨t, d, m, ds⟩ := by
  ((refine x1a3 (R.objs i _ t e1 a1) (fun tv gt ft _ => ?_)))
  ((refine x1a2 (R.objs j _ d e2 a2) (fun dv gd fd => ?_)))
  ((refine x2a3 (ft.two) (fun v1 v2 qr1 k1 k2 => ?_)); subst qr1)
  ((refine x2a2 (VRel.iInt k1) (fun mm tk qr2 hm => ?_)); subst qr2)
  ·
    have hm : mm = m := hm
    subst hm
    cases k2 with
    | @own _ da' ek =>
      rw [a2] at ek
      cases ek
      exact ⟨R.new t (mem_at a1), R.new d (mem_at a2), ⟨tk, gt⟩, ⟨dv, gd, deeds_any (deeds_strs hds) fd⟩, m1, m2, hds⟩
/-- the three told rounds, laid -/
noncomputable def FirstIs (N : Nat) (h : Heap) (r : List Addr) (vals : List Value) : Prop := ∃ (L : Addr) (items : Array Value) (rs : List Round) (t1 u1 : Tok), vals = [.int 256 t1, .int 160 u1, .ref L] ∧ items.toList = rs.map (fun r => .ref r.t) ∧ h.PlainList L items ∧ (∀ q ∈ rs, q.At N h) ∧ (L :: flat rs).Nodup ∧ (∀ b ∈ L :: flat rs, b ∈ r)
theorem first_of {C : Cx} {a : Addr} {r : List Addr} {xs : List AV} {vs : List Value} {n : Nat} {h : Heap} {vals : List Value} (R2 : Rel C (a :: r) (σ0 xs vs n) h) (hv : VsRel C (a :: r) [.int (.lit 256), .int (.lit 160), .own 7] vals) : FirstIs C.h₁.objs.size h r vals := by
  have hf : ∀ i, i < 8 → at? (a :: r) i = some ((at? (a :: r) i).getD 0) := fun i hi => by
    obtain ⟨x, e⟩ := at_some (l := a :: r) (i := i) (by rw [R2.len]; exact hi)
    rw [e]; rfl
  generalize hF : (fun i => (at? (a :: r) i).getD 0) = f
  have hf : ∀ i, i < 8 → at? (a :: r) i = some (f i) := by rw [← hF]; exact hf
  clear hF
  have inj : ∀ i j, i < 8 → j < 8 → i ≠ j → f i ≠ f j := fun i j hi hj ne e => ne ((List.getElem?_inj (by rw [R2.len]; exact hi) R2.nodup).mp (by rw [← at_eq, ← at_eq, hf i hi, hf j hj, e]))
  refine hv.rThree (p := (.int (.lit 256), .int (.lit 160), .own 7)) (P := FirstIs _ h r) rfl fun v1 v2 v3 h1 h2 h3 => h1.rLit (P := fun v1 => FirstIs _ h r [v1, v2, v3]) rfl fun t1 => h2.rLit (P := fun v2 => FirstIs _ h r [_, v2, v3]) rfl fun u1 => ?_
  rw [own_eq h3 (hf 7 (by decide))]
  refine x1a2 (R2.objs 7 _ (f 7) rfl (hf 7 (by decide))) fun items g fl => ⟨f 7, items, [⟨f 2, f 1, 0, [aD]⟩, ⟨f 4, f 3, 90, [aD]⟩, ⟨f 6, f 5, 0, [oD]⟩], t1, u1, rfl, ?_, g, ?_, ?_, ?_⟩
  · exact fl.rThree (p := (.own 2, .own 4, .own 6)) (P := fun l => l = [.ref (f 2), .ref (f 4), .ref (f 6)]) rfl fun w1 w2 w3 k1 k2 k3 => by rw [own_eq k1 (hf 2 (by decide)), own_eq k2 (hf 4 (by decide)), own_eq k3 (hf 6 (by decide))]
  · intro q hq
    refine memC hq (fun e => e ▸ round_of R2 (i := 2) (j := 1) rfl rfl (hf 2 (by decide)) (hf 1 (by decide)) (by decide) (by decide) (by simp [deedLists])) fun hq => memC hq
      (fun e => e ▸ round_of R2 (i := 4) (j := 3) rfl rfl (hf 4 (by decide)) (hf 3 (by decide)) (by decide) (by decide) (by simp [deedLists])) fun hq => ?_
    exact List.mem_singleton.mp hq ▸ round_of R2 (i := 6) (j := 5) rfl rfl (hf 6 (by decide)) (hf 5 (by decide)) (by decide) (by decide) (by simp [deedLists])
  · exact List.Pairwise.map (l := [7, 2, 1, 4, 3, 6, 5]) f (fun i j (q : i < 8 ∧ j < 8 ∧ i ≠ j) => inj i j q.1 q.2.1 q.2.2) (by decide)
  · intro b hb
    obtain ⟨i, hi, e⟩ := List.mem_map.mp (show b ∈ [7, 2, 1, 4, 3, 6, 5].map f from hb)
    have q : i ≠ 0 ∧ i < 8 := (show ∀ i ∈ [7, 2, 1, 4, 3, 6, 5], i ≠ 0 ∧ i < 8 by decide) i hi
    obtain ⟨k, rfl⟩ := Nat.exists_eq_succ_of_ne_zero q.1
    exact e ▸ mem_at (l := r) ((at_succ a r k).symm.trans (hf (k + 1) q.2))
theorem law_first_C {C : Cx} {a : Addr} {xs : List AV} {vs : List Value} {n : Nat} {F0 : Run} (S : Stat C) (hE : SE C 8 F0.E) (rm : Room A 100) (hfun : isFun C.B (.glob 1964) = true) (e1 : F0.E fE0 lawF.names l0 [.flist xs vs n] = some (.glob 1964, [.flist xs vs n]))
    (e2 : evL (fun e σ => F0.E e lawF.names l0 σ) args0 [.flist xs vs n] = some ([.int (.lit 256), .int (.lit 160), .own 7], σ0 xs vs n)) (R : Rel C [a] [.flist xs vs n] s.heap) (F : FrameOk C env lawF.names [a] l0 s.heap)
    (rt : ∀ {s : Shared} {t u : Tok} {L : Addr} {items : Array Value} {rs : List Round} {Q : Value → Shared → Prop}, items.toList = rs.map (fun r => .ref r.t) → s.heap.PlainList L items → (∀ r ∈ rs, r.At C.h₁.objs.size s.heap) → (L :: flat rs).Nodup → (∀ b o, C.h₁.get? b = some o → s.heap.get? b = some o) → C.h₁.objs.size ≤ L →
      (∀ s', Ext (· ∈ flat rs) [] s [] s' → (∀ b o, C.h₁.get? b = some o → s'.heap.get? b = some o) → Q (.bool true) s') → G C.M A (PySem.call (.ref 1964) [.int 256 t, .int 160 u, .ref L]) Q s)
    {Q : Flow → Shared → Prop} (h : ∀ s', Rel C [a] [.flist xs vs n] s'.heap → FrameOk C env lawF.names [a] l0 s'.heap → Ext NoX [] s [] s' → Q .next s') : G C.M A (exec (lst 0) env) Q s := by
  obtain ⟨p1, p2, b, p3, e0⟩ := lst0
  rw [e0, exec_If]
  refine G.bind (G.standAt ?_)
  show G _ A ((isTrue (.Call fE0 args0 [] p1) env (eval (.Call fE0 args0 [] p1) env) >>= fun t => pure !t) >>= _) Q s
  refine G.bind (G.bind ?_)
  show G _ A (eval (.Call fE0 args0 [] p1) env >>= fun v => standAt _ >>= fun _ => holding [v] (truthy v)) _ s
  refine G.bind (eval_call (r := F0) S hE (rm.less (by decide)) fE0_name hfun e1 e2 R F fun ρ2 s2 vals R2 x2 hv => ?_)
  obtain ⟨r, er⟩ := x2.pre
  subst er
  obtain ⟨L, items, rs, t1, u1, ev, hi, g, hr, nd, hsub⟩ := first_of (a := a) (r := r) R2 hv
  subst ev
  have notA : a ∉ r := (List.nodup_cons.mp (show (a :: r).Nodup from R2.nodup)).1
  refine rt hi g hr nd R2.base (R2.new L (List.mem_cons_of_mem _ (hsub L List.mem_cons_self))) fun s3 x3 base3 => ?_
  have ga := (R2.objs 0 _ a rfl rfl).1
  have o1 := R.objs 0 _ a rfl rfl
  have sub : ∀ b ∈ flat rs, b ∈ r := fun b hb => hsub b (List.mem_cons_of_mem _ hb)
  have ga3 := x3.keep _ _ ga (fun q => nomatch q) fun q => notA (sub _ q)
  have newer : ∀ b ∈ r, s.heap.get? b = none := fun b hb => by
    rcases x2.new b (List.mem_cons_of_mem a hb) with q | q | q
    · exact absurd (List.mem_singleton.mp q ▸ hb) notA
    · exact q
    · exact q.elim
  have x02 : Ext NoX [] s [] s2 := x2.hold fun b hb => .inr (.inr ⟨_, List.mem_singleton.mp hb ▸ o1.1, List.mem_singleton.mp hb ▸ ga⟩)
  have x03 : Ext NoX [] s [] s3 := Ext.fresh ((x02.weaken fun b q => q.elim).trans x3) fun b q => .inr (newer b (sub b q))
  have F2 := F.extE x2
  have F3 : FrameOk C env lawF.names (a :: r) l0 s3.heap := F2.ext (ρ' := a :: r) x3.more fun b hb =>
    ⟨fun q => F2.outL (q ▸ List.mem_cons_of_mem a (sub b hb)), fun y hy q => (F2.outC y b hy q).1 (List.mem_cons_of_mem a (sub b hb))⟩
  have apA : Apart env lawF.names [a] := fun b hb => by
    obtain rfl := List.mem_singleton.mp hb
    exact ⟨fun q => F.outL (q ▸ hb), fun y hy q => (F.outC y b hy q).1 hb⟩
  refine G.bind (G.standAt (G.holding (g_truthy (G.pure ?_))))
  show G _ A (if (!true) = true then _ else _) Q s3
  rw [if_neg (by decide)]
  refine G.pure (h s3 (Rel.alone (R.new a List.mem_cons_self) base3 ⟨ga3, o1.2.1, o1.2.2⟩) (F3.into2 rfl apA fun x v e => ⟨v, e, fun val hv => ?_⟩) x03)
  have z : v = .own 0 := by
    unfold l0 at e
    rw [lk_cons] at e
    by_cases q : x = "script"
    · rw [if_pos q] at e; exact (Option.some.inj e).symm
    · rw [if_neg q] at e; exact qN e
  subst z
  exact own_eq hv (a := a) rfl ▸ .own rfl
/-- the first look: three told rounds -/
theorem law_first (Z : Base K h₁) (all : AllRounds) (rm : Room A 100) {a : Addr} {xs : List AV} {vs : List Value} {n : Nat} (R : Rel (cx p w K h₁ B ν0 T00) [a] [.flist xs vs n] s.heap) (F : FrameOk (cx p w K h₁ B ν0 T00) env lawF.names [a] l0 s.heap)
    {Q : Flow → Shared → Prop} (h : ∀ s', Rel (cx p w K h₁ B ν0 T00) [a] [.flist xs vs n] s'.heap → FrameOk (cx p w K h₁ B ν0 T00) env lawF.names [a] l0 s'.heap → Ext NoX [] s [] s' → Q .next s') : G (model p w) A (exec (lst 0) env) Q s :=
  law_first_C (C := cx p w K h₁ B ν0 T00) (F0 := run B T00 8) Z.stat (Z.sound (p := p) (w := w) ν0_ok 8).sE rm (right_isFun B rfl) (fE0_ev xs vs n) (args0_ev xs vs n) R F (fun hi g hr nd base lo k => right_G Z all (rm.less (by decide)) (by decide) (by decide) hi g hr nd base lo k) h
end
end Mine
-- M71
namespace Mine
open PySem PySem.W PySem.Calls PyProof.Rows PyProof PyProof.V PySem.SeqAt
section
variable {p : Program} {w : World} {K : Frag} {h₁ : Heap} {A : Around} {env : Env} {s0 s : Shared} {src rnd : Addr} {rs : List Round} {l : Loc}
theorem four {ρ : List Addr} (h : ρ.length = 4) : ∃ a b c d, ρ = [a, b, c, d] := by
  match ρ, h with
  | [a, b, c, d], _ => exact ⟨a, b, c, d, rfl⟩
theorem three {ρ : List Addr} (h : ρ.length = 3) : ∃ a b c, ρ = [a, b, c] := by
  match ρ, h with
  | [a, b, c], _ => exact ⟨a, b, c, rfl⟩
/-- the two numbers are laid -/
theorem law_pool (Z : Base K h₁) (rm : Room A 100) {a : Addr} {xs : List AV} {vs : List Value} {n : Nat} {sx sy : AV} (ok : okSrc sx sy) (ev : (run B T00 60).X (lst 1) lawF.names l0 [.flist xs vs n] = some (.next, l0', [.flist xs vs n, .list [sx, sy], .list [], .tup [.own 1, .own 2]]))
    (R : Rel (cx p w K h₁ B ν0 T00) [a] [.flist xs vs n] s.heap) (F : FrameOk (cx p w K h₁ B ν0 T00) env lawF.names [a] l0 s.heap) (kp : Ext NoX [] s0 [] s) (fx : ∀ b, FX env lawF.names b → s0.heap.get? b = none)
    {Q : Flow → Shared → Prop} (h : ∀ src rnd s', LawAt (cT p w K h₁) env s0 src rnd [] l1 s' → Q .next s') : G (model p w) A (exec (lst 1) env) Q s := by
  have snd := Z.sound (p := p) (w := w) ν0_ok 60
  refine snd.sX (C := cx p w K h₁ B ν0 T00) ev (rm.less (by omega)) R F fun ρ2 s2 fv R2 x2 F2 h2 => ?_
  cases h2
  have x2 : Ext (FX env lawF.names) [a] s ρ2 s2 := x2
  ((first | refine x4a1 (four (by rw [R2.len]; rfl)) (fun a0 a1 a2 a3 qr1 => ?_) | refine x3a2 (four (by rw [R2.len]; rfl)) (fun a0 a1 a2 a3 qr1 => ?_) | refine x2a3 (four (by rw [R2.len]; rfl)) (fun a0 a1 a2 a3 qr1 => ?_) | refine x1a4 (four (by rw [R2.len]; rfl)) (fun a0 a1 a2 a3 qr1 => ?_) | refine x0a5 (four (by rw [R2.len]; rfl)) (fun a0 a1 a2 a3 qr1 => ?_)); subst qr1)
  have ha : a0 = a := by
    ((refine x1a1 (x2.pre) (fun r hr => ?_)))
    exact (List.cons.inj hr).1
  subst ha
  have nd := R2.nodup
  have notA : a0 ∉ [a1, a2, a3] := (List.nodup_cons.mp nd).1
  have n12 : a1 ≠ a2 := fun q => (List.nodup_cons.mp (List.nodup_cons.mp nd).2).1 (by rw [q]; simp)
  have qp := R2.objs 0 _ a0 rfl rfl; have ga := qp.1; clear qp
  have qp := R.objs 0 _ a0 rfl rfl; have ga1 := qp.1; clear qp
  have newer : ∀ b ∈ [a1, a2, a3], s0.heap.get? b = none := fun b hb => by
    have q : s.heap.get? b = none := by
      rcases x2.new b (List.mem_cons_of_mem _ hb) with q | q | q
      · obtain rfl := List.mem_singleton.mp q; exact absurd hb notA
      · exact q
      · rcases q with q | ⟨y, hy, hc⟩
        · exact absurd (List.mem_cons_of_mem _ hb) (q ▸ F2.outL)
        · exact absurd (List.mem_cons_of_mem _ hb) (F2.outC y b (.inl hy) hc).1
    exact none_of_ext kp (fun _ z => z) q
  have x02 : Ext (FX env lawF.names) [] s [] s2 := x2.hold fun b hb => by
    simp at hb
    subst hb
    exact .inr (.inr ⟨_, ga1, ga⟩)
  have kp2 : Ext NoX [] s0 [] s2 := Ext.fresh ((kp.weaken fun b q => q.elim).trans x02) fun b q => .inr (fx b q)
  have ap : Apart env lawF.names [a1, a2] := fun b hb => by
    have hb' : b ∈ [a0, a1, a2, a3] := by
      simp at hb
      rcases hb with q | q <;> simp [q]
    exact ⟨fun q => F2.outL (q ▸ hb'), fun y hy q => (F2.outC y b hy q).1 hb'⟩
  ((refine x1a2 (R2.objs 1 _ a1 rfl rfl) (fun items g f => ?_)))
  ((refine x2a3 (f.two) (fun v1 v2 hit k1 k2 => ?_)))
  ((refine x2a2 (ok.1 _ _ _ k1) (fun x t qr2 hx => ?_)); subst qr2)
  ((refine x2a3 (ok.2 _ _ _ k2) (fun y u qr3 hy hy2 => ?_)); subst qr3)
  have hit : items = #[.int x t, .int y u] := by rw [← Array.toList_inj]; exact hit
  subst hit
  ((refine x1a2 (R2.objs 2 _ a2 rfl rfl) (fun items2 g2 f2 => ?_)))
  have hit2 : items2.toList = [] := by
    generalize items2.toList = l at f2
    cases f2; rfl
  refine h a1 a2 s2 ⟨F2.into2 rfl ap fun z v e => ?_, kp2, by simp [flat, n12], ap, R2.new a1 (by simp), R2.new a2 (by simp), fun b hb => newer b (by simp [flat] at hb; rcases hb with q | q <;> simp [q]), fx, R2.base, ⟨x, y, t, u, g, hx, hy, hy2⟩, ⟨items2, g2, hit2⟩, fun r hr => nomatch hr⟩
  unfold l1 at e
  rw [lk_cons, lk_cons] at e
  by_cases z1 : z = "source"
  · rw [if_pos z1] at e
    (revert h; apply q1 e; intro h)
    subst z1
    refine ⟨.own 1, by rfl, fun val hv => ?_⟩
    (apply VRel.cOwn hv; intro _ k; clear hv)
    · cases k; exact .own rfl
  · rw [if_neg z1] at e
    by_cases z2 : z = "rounds"
    · rw [if_pos z2] at e
      (revert h; apply q1 e; intro h)
      subst z2
      refine ⟨.own 2, by rfl, fun val hv => ?_⟩
      (apply VRel.cOwn hv; intro _ k; clear hv)
      · cases k; exact .own rfl
    · rw [if_neg z2] at e; cases e
/-- the loop that draws the rounds -/
theorem law_draws (Z : Base K h₁) (rm : Room A 101) {rg sd : Int} (L : LawAt (cT p w K h₁) env s0 src rnd [] (lL rg sd) s) (hM : EvMany rg sd (tst 0)) (hA : EvApp rg sd (tst 1)) {Q : Flow → Shared → Prop}
    (h : ∀ rs' s', LawAt (cT p w K h₁) env s0 src rnd rs' (lL rg sd) s' → Q .next s') : G (model p w) A (exec (lst 4) env) Q s := by
  ((refine x1a1 (lst4) (fun q4 e4 => ?_)))
  rw [e4]
  have snd := Z.sound (p := p) (w := w) ν0_ok 12
  ((refine x4a4 (L.hsrc) (fun x y t u g hx hy hy2 => ?_)))
  ((refine x1a2 (L.hrnd) (fun items g2 hi2 => ?_)))
  have hne : src ≠ rnd := fun q => (List.nodup_cons.mp L.nd).1 (by rw [q]; simp)
  have apS : Apart env lawF.names [src, rnd] := fun b hb => L.apart b (by simp at hb; rcases hb with q | q <;> simp [q])
  have FB : FrameOk (cx p w K h₁ B ν0 T00) env lawF.names [src, rnd] (lL rg sd) s.heap := L.frame.into2 rfl apS fun z v e => ⟨v, e, fun val hv => hv.ok (okL_of (by rfl) z v e) rfl rfl⟩
  have go : ∀ (sx : AV) (nn : Nat), 0 < nn → nn ≤ 3 → VRel (cx p w K h₁ B ν0 T00) [src, rnd] sx (.int x t) → (∀ (ρ : List Addr) (v : Value), VRel (cx p w K h₁ B ν0 T00) ρ sx v → ∃ x t, v = .int x t ∧ 0 ≤ x) →
      (run B T00 12).E lFor.2.1 lawF.names (lL rg sd) [.list [sx, .bnd (some 0) (some 2147483646) y], .list []] = some (.own 2, [.list [sx, .bnd (some 0) (some 2147483646) y], .list [], .rng nn]) → G (model p w) A (exec (.For lFor.1 lFor.2.1 [tst 0, tst 1] [] q4) env) Q s := by
    intro sx nn hn0 hn3 hsx hback ev
    have RB : Rel (cx p w K h₁ B ν0 T00) [src, rnd] [.list [sx, .bnd (some 0) (some 2147483646) y], .list []] s.heap :=
      Rel.pair hne L.lo1 L.lo2 L.base ⟨_, g, .cons hsx (.cons (.bnd _ ⟨fun a q => by cases q; exact hy, fun b q => by cases q; have e : seedMod = 2147483647 := rfl; omega⟩) .nil)⟩ ⟨items, g2, by rw [hi2]; exact .nil⟩
    refine g_For (C := cx p w K h₁ B ν0 T00) lFor_set (snd.sE ev (rm.less (by omega)) RB FB fun ρ2 s2 val R2 x2 hv => ?_)
    ((first | refine x3a1 (three (by rw [R2.len]; rfl)) (fun b0 b1 b2 qr4 => ?_) | refine x2a2 (three (by rw [R2.len]; rfl)) (fun b0 b1 b2 qr4 => ?_) | refine x1a3 (three (by rw [R2.len]; rfl)) (fun b0 b1 b2 qr4 => ?_) | refine x0a4 (three (by rw [R2.len]; rfl)) (fun b0 b1 b2 qr4 => ?_)); subst qr4)
    ((refine x1a1 (x2.pre) (fun r hr => ?_)))
    have hb0 : b0 = src := (List.cons.inj hr).1
    have hb1 : b1 = rnd := (List.cons.inj (List.cons.inj hr).2).1
    subst hb0 hb1
    (apply VRel.cOwn hv; intro _ k; clear hv)
    ·
      (revert h; apply q1 k; intro h)
      ((refine x3a1 (R2.objs 2 _ b2 rfl rfl) (fun t' u' v' gr => ?_)))
      ((refine x1a2 (R2.objs 0 _ b0 rfl rfl) (fun i1 k1 f1 => ?_)))
      ((refine x2a3 (f1.two) (fun w1 w2 hw m1 m2 => ?_)))
      ((refine x2a2 (hback _ _ m1) (fun x' tx qr5 hx' => ?_)); subst qr5)
      cases m2 with
      | @bnd _ _ _ ty m2 =>
        have hw : i1 = #[.int x' tx, .int y ty] := by rw [← Array.toList_inj]; exact hw
        subst hw
        ((refine x1a2 (R2.objs 1 _ b1 rfl rfl) (fun i2 k2 f2 => ?_)))
        have hi : i2.toList = [] := by
          generalize i2.toList = l at f2
          cases f2; rfl
        refine G.of (wpAny_pyIter_range gr (rng_small (by omega)) ?_)
        rw [rng_size]
        have x3 : Ext NoX [] s2 [] { s2 with heap := s2.heap.push { cls := .type "range_iterator", data := .fields #[rawInt 0, rawInt nn, rawInt 1] } } := Ext.kept (t := s2.toks) (push_keeps _ _)
        have F2 : FrameOk (cT p w K h₁) env lawF.names [b0, b1] (lL rg sd) s2.heap := (FB.extE x2).into2 rfl apS fun z v e => ⟨v, e, fun val hv => hv.ok (okL_of (by rfl) z v e) rfl rfl⟩
        have fresh0 : s0.heap.get? s2.heap.objs.size = none := by
          cases e : s0.heap.get? s2.heap.objs.size with
          | none => rfl
          | some o =>
            obtain ⟨o', e'⟩ := L.kp.alive _ _ e fun z => z
            obtain ⟨o'', e''⟩ := x2.alive _ _ e' fun z => z
            exact absurd (Heap.lt_size e'') (Nat.lt_irrefl _)
        have kp2 : Ext NoX [] s0 [] s2 := Ext.fresh ((L.kp.weaken fun b q => q.elim).trans x2.forget) fun b q => .inr (by
          rcases q with q | q
          · exact q.elim
          · simp at q
            rcases q with q | q <;> exact L.fresh b (by simp [q]))
        have L3 : LawAt (cT p w K h₁) env s0 b0 b1 [] (lL rg sd) { s2 with heap := s2.heap.push { cls := .type "range_iterator", data := .fields #[rawInt 0, rawInt nn, rawInt 1] } } :=
          ⟨F2.extE (x3.more (ρ := [b0, b1])), kp2.trans x3, L.nd, L.apart, L.lo1, L.lo2, L.fresh, L.fx, fun b o e => push_keeps _ _ _ _ (R2.base b o e), ⟨x', y, tx, ty, k1.at fun o e => push_keeps _ _ _ _ e, hx', hy, hy2⟩, ⟨i2, k2.at fun o e => push_keeps _ _ _ _ e, hi⟩, fun r hr => nomatch hr⟩
        refine law_loop Z (rm.less (by omega)) (fun v σ => lFor_turn rg sd v σ) hM hA fresh0 (apart_of F2 fun b hb => by obtain rfl := List.mem_singleton.mp hb; exact none_at _) (R2.low (Z.ok ν0_ok)) nn 0 [] _ rfl (by omega) ?_ (fun q => ?_) L3 h
        · simpa [rawInt, IsRangeIter] using Heap.get?_push_size s2.heap (o := { cls := .type "range_iterator", data := .fields #[rawInt 0, rawInt nn, rawInt 1] }) rfl
        · simp [flat] at q
          rcases q with q | q
          · exact absurd (R2.lt (a := b0) (by simp)) (by rw [← q]; exact Nat.lt_irrefl _)
          · exact absurd (R2.lt (a := b1) (by simp)) (by rw [← q]; exact Nat.lt_irrefl _)
  by_cases z : x = 0
  · subst z
    exact go (.int (.lit 0)) 1 (by decide) (by decide) (.int t (by simp [SI.rel])) (fun ρ v k => by
      cases k with
      | int t k => exact ⟨_, t, rfl, by have : _ = (0 : Int) := k; omega⟩) (lFor_iter0 rg sd _)
  · exact go (.bnd (some 1) none x) 3 (by decide) (by decide) (.bnd t ⟨fun a q => by cases q; omega, fun b q => by cases q⟩) (fun ρ v k => by
      (apply VRel.cBnd k; intro t k; clear k)
      · exact ⟨_, t, rfl, hx⟩) (lFor_iter1 rg sd x _)
end
end Mine
-- M72
namespace Mine
open PySem PySem.W PySem.Calls PyProof.Rows PyProof PyProof.V PySem.SeqAt
section
variable {p : Program} {w : World} {K : Frag} {h₁ : Heap} {A : Around} {env : Env} {s0 s : Shared} {src rnd : Addr} {rs : List Round} {l : Loc}
/-- the last statement: all rounds at once -/
theorem law_last (Z : Base K h₁) (all : AllRounds) (rm : Room A 100) {rg sd : Int} (hrg : rg = 256 ∨ rg = 4294967296) (L : LawAt (cT p w K h₁) env s0 src rnd rs (lL rg sd) s) {Q : Flow → Shared → Prop} (h : ∀ s', Ext NoX [] s0 [] s' → Q (.ret (.bool true)) s') : G (model p w) A (exec (lst 5) env) Q s := by
  ((refine x2a1 (lst5) (fun p1 p2 e5 => ?_)))
  rw [e5, exec_Return_some]
  refine G.bind (G.standAt (G.bind ?_))
  have snd := Z.soundT (p := p) (w := w) ν0_ok 3
  obtain ⟨tp, _, _, R⟩ := L.rel (ts := []) fun t h => nomatch h
  refine eval_call (C := cT p w K h₁) (r := run Bt T00 3) Z.statT snd.sE (rm.less (by omega)) fE5_name (right_isFun Bt rfl) (fE5_ev rg sd _) (args5_ev rg sd _) R L.frame fun ρ2 s2 vals R2 x2 hv => ?_
  ((refine x1a1 (x2.pre) (fun r hr => ?_)))
  have a0 : at? ρ2 0 = some src := by rw [hr]; rfl
  have a1 : at? ρ2 1 = some rnd := by rw [hr]; rfl
  (revert hv; intro hvv; apply VsRel.cCons hvv; clear hvv; intro _ _ h1 hv)
  ·
    (revert hv; intro hvv; apply VsRel.cCons hvv; clear hvv; intro _ _ h2 hv)
    ·
      ((refine x1a2 (hv.one) (fun v3 qr1 h3 => ?_)); subst qr1)
      cases h1 with
      | @int _ n1 t1 h1 =>
        cases h2 with
        | @int _ n2 t2 h2 =>
          have h1 : n1 = rg := h1
          subst h1
          cases h3 with
          | own h3 =>
            rw [a1] at h3
            (revert h; apply q1 h3; intro h)
            ((refine x1a2 (R2.objs 1 _ rnd rfl a1) (fun items g f => ?_)))
            have hi : items.toList = rs.map fun r => Value.ref r.t := by
              have : ∀ (rs : List Round) (vs : List Value), VsRel (cT p w K h₁) ρ2 (globs rs) vs → vs = rs.map fun r : Round => Value.ref r.t := fun rs => by
                induction rs with
                | nil => intro vs h; cases h; rfl
                | cons r rs ih =>
                  intro vs h
                  (apply VsRel.cCons h; intro _ _ h1 h2)
                  ·
                    cases h1
                    rw [ih _ h2]; rfl
              exact this rs _ f
            refine right_G Z all (rm.less (by omega)) (by rcases hrg with q | q <;> rw [q] <;> decide) (by rcases hrg with q | q <;> rw [q] <;> decide) hi g (L.kept (x2.weaken fun b q => q.elim)) (List.nodup_cons.mp L.nd).2 R2.base L.lo2 fun s3 x3 base3 => ?_
            refine G.pure (h s3 (Ext.fresh (((L.kp.weaken fun b q => q.elim).trans (x2.forget.weaken fun b q => ?_)).trans (x3.weaken fun b q => ?_)) (X := fun b => b ∈ src :: rnd :: flat rs) fun b q => .inr (L.fresh b q)))
            · rcases q with q | q
              · exact q.elim
              · simp at q
                rcases q with q | q <;> simp [q]
            · simp [q]
theorem law_run (Z : Base K h₁) (all : AllRounds) (rm : Room A 102) {a : Addr} {xs : List AV} {vs : List Value} {n : Nat} {sx sy : AV} (ok : okSrc sx sy) (ev : (run B T00 60).X (lst 1) lawF.names l0 [.flist xs vs n] = some (.next, l0', [.flist xs vs n, .list [sx, sy], .list [], .tup [.own 1, .own 2]]))
    (R1 : Rel (cx p w K h₁ B ν0 T00) [a] [.flist xs vs n] s.heap) (F1 : FrameOk (cx p w K h₁ B ν0 T00) env lawF.names [a] l0 s.heap) (kp1 : Ext NoX [] s0 [] s) (fr : ∀ b, FX env lawF.names b → s0.heap.get? b = none) {Q : Flow → Shared → Prop} (h : ∀ s', Ext NoX [] s0 [] s' → Q (.ret (.bool true)) s') :
    G (model p w) A (execs [lst 0, lst 1, lst 2, lst 3, lst 4, lst 5] env) Q s := by
  have rm0 : Room A 100 := rm.less (by omega)
  have rm1 : Room A 101 := rm.less (by omega)
  rw [execs_cons]
  refine G.bind (law_first Z all rm0 R1 F1 fun s2 R2 F2 x2 => ?_)
  show G _ A (execs [lst 1, lst 2, lst 3, lst 4, lst 5] env) Q s2
  rw [execs_cons]
  refine G.bind (law_pool Z rm0 ok ev R2 F2 (kp1.trans x2) fr fun src rnd s3 L3 => ?_)
  show G _ A (execs [lst 2, lst 3, lst 4, lst 5] env) Q s3
  rw [execs_cons]
  refine G.bind (law_step Z rm0 L3 (ts := [2]) (by simp) (P := fun l'' => ∃ rg, (rg = 256 ∨ rg = 4294967296) ∧ l'' = l2 rg) ev_ring fun l'' s4 hP L4 _ => ?_)
  ((refine x1a2 (hP) (fun rg hrg qr2 => ?_)); subst qr2)
  show G _ A (execs [lst 3, lst 4, lst 5] env) Q s4
  rw [execs_cons]
  refine G.bind (law_step Z rm0 L4 (ts := [200]) (by simp) (P := fun l'' => ∃ sd, l'' = lL rg sd) (ev_seed hrg) fun l'' s5 hP L5 _ => ?_)
  ((refine x1a1 (hP) (fun sd qr3 => ?_)); subst qr3)
  show G _ A (execs [lst 4, lst 5] env) Q s5
  rw [execs_cons]
  refine G.bind (law_draws Z rm1 L5 (fun rs tp h1 h2 => ev_many rs tp h1 h2) (fun m m1 m2 rs hn tp h1 h2 => ev_app m1 m2 rs hn tp h1 h2) fun rs s6 L6 => ?_)
  show G _ A (execs [lst 5] env) Q s6
  rw [execs_cons]
  exact G.bind (law_last Z all rm0 hrg L6 fun s7 x7 => G.pure (h s7 x7))
end
end Mine
-- M73
namespace Mine
open PySem PySem.W PySem.Calls PyProof.Rows PyProof PyProof.V PySem.SeqAt
section
variable {p : Program} {w : World} {K : Frag} {h₁ : Heap} {A : Around} {s : Shared}
theorem law_G (Z : Base K h₁) (all : AllRounds) (rm : Room A 103) {a : Addr} {vs : List Value} {n : Nat} (g : s.heap.get? a = some { cls := .type "list", data := .seq vs.toArray n }) (hv : ∀ v ∈ vs, ∃ n t, v = .int n t) (hlen : vs.length < 4096) (lo : h₁.objs.size ≤ a) (base : ∀ b o, h₁.get? b = some o → s.heap.get? b = some o)
    {Q : Value → Shared → Prop} (h : ∀ s', Ext NoX [] s [] s' → Q (.bool true) s') : G (model p w) A (PySem.call (.ref 1969) [.ref a]) Q s := by
  ((refine x3a3 (ev_pool n hv) (fun xs sx sy hxs ok ev => ?_)))
  have S : Stat (cx p w K h₁ B ν0 T00) := Z.stat
  have O : Ok (cx p w K h₁ B ν0 T00) := Z.ok ν0_ok
  have R : Rel (cx p w K h₁ B ν0 T00) [a] [.flist xs vs n] s.heap := Rel.alone lo base ⟨g, hxs _ _, hlen⟩
  ((refine x2a1 (S.fn 1969 lawF law_fn) (fun o fd Kf => ?_)))
  refine G.call (fn_call S O R Kf (by have := rm.depth; omega) law_fill (.cons (.own rfl) .nil) fun env s1 F1 R1 x1 fr => ?_)
  have qp := R1.objs 0 _ a rfl rfl; have g1 := qp.1; clear qp
  have kp1 : Ext NoX [] s [] s1 := x1.hold fun b hb => by
    simp at hb
    subst hb
    exact .inr (.inr ⟨_, g, g1⟩)
  rw [law_body]
  exact law_run Z all (rm.deeper env) ok ev R1 F1 kp1 fr fun s7 x7 => ⟨_, rfl, h s7 x7⟩
end
/-! the arguments -/
theorem lay_ints {R : WRecords} {cl : Str → Option Addr} {P : Params} {ord : List DictEntry → List DictEntry} : ∀ {xs : List WData} {s s' : Shared} {vs : List Value}, (∀ x ∈ xs, ∃ n, x = .int n) → layAllW R cl P ord xs s = some (vs, s') → (∀ v ∈ vs, ∃ n t, v = Value.int n t) ∧ vs.length = xs.length ∧ s'.heap = s.heap
  | [], s, s', vs, _, e => by
    unfold layAllW at e
    cases e
    exact ⟨fun v h => (nomatch h), rfl, rfl⟩
  | x :: xs, s, s', vs, h, e => by
    ((refine x1a1 (h x (by simp)) (fun n qr1 => ?_)); subst qr1)
    unfold layAllW at e
    unfold layW at e
    dsimp only at e
    split at e
    · rename_i r hr
      (revert h; apply q2 e; intro h)
      have qp := r; have r1 := qp.1; have r2 := qp.2; clear qp
      obtain ⟨h1, h2, h3⟩ := lay_ints (fun x hx => h x (by simp [hx])) hr
      refine ⟨fun v hv => ?_, by simp [h2], h3⟩
      rcases List.mem_cons.mp hv with rfl | hv
      · exact ⟨_, _, rfl⟩
      · exact h1 v hv
    · cases e
theorem lay_list {R : WRecords} {cl : Str → Option Addr} {P : Params} {ord : List DictEntry → List DictEntry} {xs : List WData} {s s' : Shared} {vs : List Value} (h : ∀ x ∈ xs, ∃ n, x = .int n) (e : layAllW R cl P ord [.list xs] s = some (vs, s')) :
    ∃ ws : List Value, vs = [.ref s.heap.objs.size] ∧ (∀ v ∈ ws, ∃ n t, v = Value.int n t) ∧ ws.length = xs.length ∧ s'.heap.get? s.heap.objs.size = some { cls := .type "list", data := .seq ws.toArray 0 } := by
  unfold layAllW at e
  unfold layW at e
  cases q : layAllW R cl P ord xs s with
  | none => rw [q] at e; cases e
  | some r =>
    rw [q] at e
    obtain ⟨r1, r2⟩ := r
    ((refine x0a3 (lay_ints h q) (fun h1 h2 h3 => ?_)))
    have e : (match layAllW R cl P ord [] { r2 with heap := r2.heap.push { cls := .type "list", data := .seq r1.toArray } } with | some r => some (Value.ref r2.heap.objs.size :: r.1, r.2) | none => none) = some (vs, s') := e
    unfold layAllW at e
    (revert h; apply q2 e; intro h)
    exact ⟨r1, by rw [h3], h1, h2, by show (r2.heap.push _).get? _ = _; rw [← h3]; exact Heap.get?_push_size _ rfl⟩
end Mine
-- H11
namespace Mine
open MineH
open PySem PySem.W PySem.Calls PyProof.Rows
theorem good_caller : Good ⟨.builtin "claim.caller" {}, none, none, [], none⟩ := ⟨by decide +kernel, fun x hx => nomatch hx⟩
theorem thread_ends_G {prog : Program} {w : World} {t : Sem PySem.Fin} {s : Shared} {R : Result → Shared → Prop} (hreg : s.asleep)
    (h : G (model prog w) callerA t (fun fin s' => ∃ f, fin = .done f ∧ (R (.ok f) s' ∧ leftWithCleanup s'.gens = false)) s) :
    ∃ n r s' s'', runN (denote table) prog w n s ⟨t, .builtin "claim.caller" {}, default, []⟩ = .halted (outcomeOf r) s' ∧
      schedN (denote table) prog w n (.single s ⟨t, .builtin "claim.caller" {}, default, []⟩) = .halted (outcomeOf r) s' ∧ s'.forget = s''.forget ∧ R r s'' := by
  have h' : Sem.wp (model prog w) ⟨.builtin "claim.caller" {}, none, none, [], none⟩ t (Sem.finPost (model prog w) ⟨.builtin "claim.caller" {}, none, none, [], none⟩ fun r s' => R r s' ∧ leftWithCleanup s'.gens = false)
      (fun e _ s' => R (.error e) s' ∧ leftWithCleanup s'.gens = false) default s := by
    refine Sem.wp_mono _ _ t (fun fin p' s' h' => ?_) (fun _ _ _ h' => h'.elim) default s (h _ default caller_in good_caller)
    obtain ⟨f, rfl, hf⟩ := h'
    exact hf
  obtain ⟨n, r, s₁, s₂, hs, hn, hfo, hR⟩ := wp_halts_full (M := model prog w) (R := R) hreg h'
  exact ⟨n, r, s₂, s₁, hn, hs, hfo, hR⟩
theorem callFrom_G {c : ClaimW} {tree : List Value → Sem PySem.Fin} {w : World} {s : Shared} {free : Addr → Prop} {gens : Prop} {kept : Heap → Prop} (hz : s.asleep) (hgens : s.gens = #[])
    (hspec : ∀ args, c.pre args = true → WData.layableAll args = true →
      ∀ ord : List DictEntry → List DictEntry, (∀ l, (ord l).Perm l) →
      ∃ vs s₁, layAllW c.records (classAt s.heap) w.params ord args s = some (vs, s₁) ∧
        G (model c.prog w) callerA (tree vs) (fun fin s' => ∃ f, fin = .done f ∧ (c.Ends s args vs s₁ (.ok f) s' ∧ s'.os = s.os ∧ AllBare s'.gens ∧ kept s'.heap)) s₁) :
    c.CallFrom (fun vs => ⟨tree vs, .builtin "claim.caller" {}, default, []⟩) w free gens kept s := by
  intro args hpre hlay ord hord
  refine (?_ : ∀ P : Prop, (_ → P) → P) _ (fun x => x)
  intro P hP
  obtain ⟨vs, s₁, hlaid, hcode⟩ := hspec args hpre hlay ord hord
  have hal := layAllW_rest _ _ _ hlaid
  obtain ⟨k, r, s', s'', hrun, hsched, hfo, hcase, hos, hkp⟩ := thread_ends_G (prog := c.prog) (w := w) (t := tree vs) (s := s₁)
    (R := fun r s' => c.Ends s args vs s₁ r s' ∧ s'.os = s.os ∧ kept s'.heap)
    (Shared.asleep_of_life hal.2.2.2 hz)
    (G.mono hcode (by
      rintro fin s' ⟨f, e, h1, h2, h3, h4⟩
      exact ⟨f, e, ⟨h1, h2, h4⟩, leftWithCleanup_false_of_bare h3⟩))
  obtain ⟨eh, _, _, eo, _⟩ := Shared.forget_eq hfo
  have hcase := hcase.congr eh
  have hkp : kept s'.heap := by first | exact eh ▸ hkp | (rw [eh] at hkp; exact hkp) | (rw [← eh] at hkp; exact hkp)
  rw [← eo] at hos
  have hlife : s'.heap.life = s.heap.life := (runN_life _ _ _ hrun).trans hal.2.2.2
  refine hP ⟨vs, s₁, hlaid, k, _, s', hsched, ?_, (fun _ i x hx => by rw [hgens] at hx; simp at hx), hkp, by rw [hlife], Shared.rest_eq hos⟩
  rcases hcase with ⟨v, rfl, d1, d2, d3, d4, d5⟩ | ⟨e, ob, cls, rfl, d1, d2, d3, d4, d5⟩
  · exact .inl ⟨v, rfl, d1, d2, d3, fun b o y _ => d4 b o y, d5⟩
  · exact .inr ⟨e, ob, cls, rfl, d1, d2, d3, d4, fun b o y _ => d5 b o y⟩
theorem ns_same {h : Heap} {a : Addr} {m m' : Str → Option Value} (x : h.Ns a m) (y : h.Ns a m') : m = m' := by
  obtain ⟨o, es, ep, e1, e2, _, e3⟩ := x
  obtain ⟨o', es', ep', g1, g2, _, g3⟩ := y
  rw [e1] at g1
  cases g1
  rw [e2] at g2
  cases g2
  exact funext fun n => (e3 n).symm.trans (g3 n)
theorem law_named {h : Heap} (K : Known h) {m : Str → Option Value} (x : h.Ns mainGlobals m) : m "law" = some (.ref 1969) := by
  have q := K.seen
  unfold seenB at q
  obtain ⟨_, q⟩ := Bool.and_eq_true_iff.mp q
  obtain ⟨_, q⟩ := Bool.and_eq_true_iff.mp q
  obtain ⟨q3, q⟩ := Bool.and_eq_true_iff.mp q
  obtain ⟨ob, es, ep, g1, g2, g3, g4⟩ := isDict_of q3
  have hn := ns_of g1 g2 g3
  rw [ns_same x hn, ← nsL_eq, ← g4]
  have z := K.law
  unfold lawOk at z
  split at z
  · rename_i a e
    rw [e, Nat.eq_of_beq_eq_true z]
  · cases z
theorem call_head (call : ∀ (w : World) (s₀ s₁ : Shared) (args : List WData) (vs : List Value) (as : List Addr), Known s₀.heap → rw0.row.toRowW.claim.pre args = true → WData.layableAll args = true → Laid rw0.row.toRowW.records w s₀ s₁ args vs as →
      G (model rw0.row.prog w) callerA (PySem.call (.ref 1969) vs) (fun v s' => GoodWG rw0.row.toRowW.claim (classAt s₀.heap) (ExcName.means s₀.heap) args s₁ (.ok (.ret v)) s') s₁) : rw0.Holds := by
  refine holds_law said fun said => ?_
  have ok := hok
  obtain ⟨ok, k5⟩ := Bool.and_eq_true_iff.mp ok
  obtain ⟨hch, o1⟩ := Bool.and_eq_true_iff.mp ok
  obtain ⟨k5, k6⟩ := Bool.and_eq_true_iff.mp k5
  obtain ⟨hsame, hu, ha, hap, hm⟩ := frees_parts k5
  refine ⟨said, hw, ⟨hb, o1, rfl⟩, hw.witness, fun w => ⟨(left.behind (XP := fun _ _ => True) (fun _ _ => trivial) hch w).1, fun s' hs' => ?_⟩⟩
  have hRf : ∀ s : Shared, Xt s = true → RecFacts rw0.row.toRowW.records s.heap := fun s _ => recFacts_of (R := []) (by rfl)
  obtain ⟨s₀, hf, hg0, s, hT, hz, hgens, hg, G00, y⟩ := (left.behind (XP := fun mg h => True ∧ RecFacts rw0.row.toRowW.records h) (fun s hs => ⟨trivial, hRf s hs⟩) hch w).2 s' hs'
  have G0 : Ground q loose [] (fun _ _ => True) w s (s.heap.nsMap mainGlobals) (s.heap.nsMap builtinsNs) s.heap := ⟨G00.T, G00.B, G00.D, G00.TE, G00.TD, G00.W, G00.X.1, G00.cls, G00.has, G00.apart, G00.once, G00.K⟩
  have RF := G00.X.2
  have hT' := hT
  refine ⟨s₀, hf, hg0, s, hT, fun n hn => ?_, RF.1, RF.2.1, ?_⟩
  · obtain rfl : n = rw0.row.name := by split at hn <;> simp_all
    exact pinned_of_view hg G0 hdef hp hk
  have hgens : s.gens = #[] := Array.eq_empty_of_size_eq_zero (beq_iff_eq.mp hgens)
  have G1 : Ground q loose rw0.row.toRowW.records (fun _ _ => True) w s _ _ s.heap := RF.ground G0
  refine callFrom_G (c := rw0.row.toRowW.claim) hz hgens fun args hpre hlay ord hord => ?_
  obtain ⟨⟨vs, s₁⟩, hlaid⟩ := Option.isSome_iff_exists.mp (layAllW_isSome (P := w.params) (ord := ord) G1.has args rw0.row.toRowW.args s (pre_splitW hpre).1)
  have keeps := layAllW_keeps _ _ _ hlaid
  have hal := layAllW_rest _ _ _ hlaid
  obtain ⟨as, hrd, hin, hold⟩ := reads_layAllW hord _ _ _ hlaid hlay s₁.heap (fun _ _ e => e)
  have L : Laid rw0.row.toRowW.records w s s₁ args vs as := ⟨⟨ord, hord, hlaid⟩, hrd, hin, hold, keeps, hal.1.trans hgens, hal.2.2.1⟩
  have K := known_of y
  have h := call w s s₁ args vs as K hpre hlay L
  have hi := ident_freeW hu ha hap
  have hwi : rw0.row.toRowW.claim.within = [] := List.isEmpty_iff.mp k6
  have G2 := G1.keeps (fun _ _ _ _ _ => trivial) keeps
  refine ⟨vs, s₁, hlaid, ?_⟩
  show G (model rw0.row.prog w) callerA (nsGet mainNs rw0.row.name >>= fun r => match r with
    | some f => do ret (← PySem.call f vs)
    | none => unsupported "claim.caller:no-such-global") _ s₁
  refine G.bind (G.of (wpAny_nsGet G2.T.g ?_))
  rw [show (s.heap.nsMap mainGlobals) rw0.row.name = some (.ref 1969) from law_named K G1.T.g]
  refine G.bind (G.mono h fun v s' g => G.pure ⟨_, rfl, ?_⟩)
  have z := g.laid (c := rw0.row.toRowW.claim) hsame hwi hi L
  exact ⟨z.1, z.2.1, z.2.2, fun q => ⟨namesKept_of hT' hg _ keeps g.2.1.old, noTable hwr q⟩⟩
end Mine
-- J1
namespace Mine
open MineH
open PySem PySem.W PySem.Calls PyProof.Rows
theorem base_of {h : Heap} (k : Known h) : Base (fragAt h) h := ⟨fragOf_in addrs, k.seen, k.fns, k.size, k.last⟩
theorem most_is : rw0.most = some 63 ∧ rw0.bound = none := ⟨rfl, rfl⟩
theorem most_val (xs : List WData) : rw0.row.pre.value [] { args := [.list xs] } = some (.bool (!(decide ((63 : Int) < (xs.length : Int))) && true)) := by
  show (OpenLaw.pre rw0).value [] { args := [.list xs] } = _
  unfold OpenLaw.pre
  rw [most_is.1, most_is.2]
  simp [WTm.value, less?]
  have e : Num.less? (WData.int 63) (WData.int ↑xs.length) = some (decide ((63 : Int) < (xs.length : Int))) := by
    simp [Num.less?]
  rw [e]
  cases decide ((63 : Int) < (xs.length : Int)) <;> rfl
theorem most_of {xs : List WData} (h : rw0.row.pre.holds [] { args := [.list xs] } = true) : xs.length < 4096 := by
  by_cases q : xs.length < 4096
  · exact q
  · exfalso
    revert h
    unfold WTm.holds
    rw [most_val]
    have : decide ((63 : Int) < (xs.length : Int)) = true := decide_eq_true (by omega)
    rw [this]
    simp
theorem rw0_holds : rw0.Holds := call_head fun w s₀ s₁ args vs as K hpre hlay L => by
  obtain ⟨hs, hp⟩ := pre_splitW hpre
  obtain ⟨d, r, rfl, hd, hr⟩ := hasAllW_cons (e := .list .int) (es := []) hs
  have := hasAllW_nil hr
  subst this
  obtain ⟨xs, rfl, hxs⟩ := hasW_list hd
  obtain ⟨ns, rfl⟩ := PySem.W.items_int hxs
  obtain ⟨ord, _, hl⟩ := L.laid
  obtain ⟨ws, rfl, hw, hwl, g⟩ := lay_list (fun x hx => by
    obtain ⟨n, _, rfl⟩ := List.mem_map.mp hx
    exact ⟨n, rfl⟩) hl
  have hlen : ws.length < 4096 := by rw [hwl]; exact most_of hp
  refine law_G (p := rw0.row.prog) (w := w) (base_of K) allRounds ⟨by decide, by decide, rfl⟩ g hw hlen (Nat.le_refl _) L.keeps fun s' x => ?_
  refine ⟨.inl ⟨.bool true, .bool true, [], rfl, fun cls => by rfl, .bool true, ?_, fun h => ⟨by simp, fun a ha => by cases ha⟩⟩, .of_keep fun b o e => x.keep b o e (fun q => nomatch q) fun q => q, x.os, .of_eq (x.gens.trans L.gens)⟩
  show (WShape.has [] (.bool true) .bool && WTm.holds [] (.eq .res (.lit (.bool true))) { args := _, res := some (.bool true), after := _ }) = true
  simp [WShape.has, WShape.arms, WTm.holds, WTm.value, same]
end Mine
open PySem PySem.W in
theorem PySem.Challenge.cw_xw0366_01_holds : PySem.Challenge.rw_xw0366_01.Holds :=
  Mine.rw0_holds

import PyProof.Rows.All
import Wide.All
import OpenK.AllK
import Wide.FinOn
import Lean
import PySem.Challenge.RW_pb0423_01
set_option Elab.async false
set_option maxRecDepth 100000
set_option linter.unusedVariables false
set_option linter.unusedSectionVars false
set_option genSizeOf false
set_option genSizeOfSpec false
section
open PySem PySem.W PyProof.Rows

set_option maxHeartbeats 8000000
namespace Mine
/-! the head of the proof: the top, run at once over a tree of objects -/
noncomputable def topT (ok : Thread → Bool) (stp : SharedT → Thread → Option (SharedT × Thread)) : Nat → SharedT → Thread → Option SharedT
  | 0, _, _ => none
  | n + 1, s, t => match through t with
    | true => some s
    | false => match ok t with
      | false => none
      | true => match stp s t with
        | some q => topT ok stp n q.1 q.2
        | none => none
theorem topT_spec {tb : String → Option Builtin} {p : Program} {w : World} {n₀ : Nat} {ann : Option Value} : ∀ {n : Nat} {s s' : SharedT} {t : Thread}, topT (stepOk n₀ ann) (stepT (denote tb) p w) n s t = some s' → topRun tb p w n₀ ann n s.abs t = some s'.abs
  | 0, _, _, _, h => by cases h
  | n + 1, s, s', t, h => by
    unfold topT at h
    unfold topRun
    cases ht : through t with
    | true => rw [ht] at h; cases h; rfl
    | false =>
      rw [ht] at h
      cases hk : stepOk n₀ ann t with
      | false => rw [hk] at h; cases h
      | true =>
        rw [hk] at h
        cases hs : stepT (denote tb) p w s t with
        | none => rw [hs] at h; cases h
        | some q =>
          rw [hs] at h
          obtain ⟨s₂, t₂⟩ := q
          rw [stepT_spec hs]
          exact topT_spec h
noncomputable def treeOf : List Obj → Nat → BT → BT
  | [], _, T => T
  | o :: l, i, T => treeOf l (i + 1) (T.ins i o)
noncomputable def s0T (w : World) (os : OsState) : SharedT := ⟨treeOf (boot_heap w.params).objs.toList 0 .nil, 11, (boot_heap w.params).life, Array.mk [], boot_drawn, boot_toks, os⟩
theorem s0T_abs (w : World) (os : OsState) : (s0T w os).abs = ⟨boot_heap w.params, Array.mk [], boot_drawn, boot_toks, os⟩ := by kernel_rfl
theorem left_T {p q : Program} {loose : List Str} {Xt : Shared → Bool} {α : Type} {Yf : Shared → α} {Ya : World → α} {N : Nat} {g0 : Bool} (e : opening p = plainProg p.main.scope.names) (hN : Nat.ble 600 N = true) (f : ∀ s, fenceModules? p s = some s)
    (hA : ∀ (w : World) (os : OsState), (topT (stepOk 11 ((boot_heap w.params).nsMap mainGlobals "__annotations__")) (stepT (denote treeTable) p w) N (s0T w os) (topStub p)).map (fun s => (staticsOk (importedModules p.main.body) (boot_heap w.params) s.abs.heap && namesBound p s.abs.heap && gensDone s.abs && laidKept (boot_heap w.params) s.abs.heap,
      openSeen q loose (importedModules p.main.body) Xt g0 s.abs)) = some (true, openGood q loose))
    (hB : ∀ (w : World) (os : OsState), (topT (stepOk 11 ((boot_heap w.params).nsMap mainGlobals "__annotations__")) (stepT (denote treeTable) p w) N (s0T w os) (topStub p)).map (fun s => Yf s.abs) = some (Ya w)) : LeftO p q loose Xt Yf Ya N g0 := fun w => by
  obtain ⟨s, hs, hv⟩ := Option.map_eq_some_iff.mp (boot_open e hN f w)
  obtain ⟨hp, gs, d, k, os⟩ := s
  obtain ⟨rfl, rfl, rfl, rfl⟩ : hp = boot_heap w.params ∧ gs = Array.mk [] ∧ d = boot_drawn ∧ k = boot_toks := by simpa using hv
  unfold openEnds
  rw [hs]
  obtain ⟨sT, h1, h2⟩ := Option.map_eq_some_iff.mp (hA w os)
  have h3 := topT_spec h1
  rw [s0T_abs] at h3
  simp only [Prod.mk.injEq] at h2
  obtain ⟨h4, h5⟩ := h2
  have h6 : Yf sT.abs = Ya w := by
    have := hB w os
    rw [h1] at this
    exact Option.some.inj this
  have b1 : ((boot_heap w.params).isNs mainGlobals && (Array.mk [] : Array GenState).size == 0) = true := by kernel_rfl
  have b2 : (boot_heap w.params).objs.size = 11 := by kernel_rfl
  show (topFrom treeTable p w N ⟨boot_heap w.params, Array.mk [], boot_drawn, boot_toks, os⟩).map _ = _
  unfold topFrom
  dsimp only
  rw [b1, b2]
  dsimp only
  rw [h3]
  show Option.map _ (match (staticsOk (importedModules p.main.body) (boot_heap w.params) sT.abs.heap && namesBound p sT.abs.heap && gensDone sT.abs && laidKept (boot_heap w.params) sT.abs.heap) with | true => some sT.abs | false => none) = _
  rw [h4]
  show some (_, _) = _
  rw [h5, h6]
noncomputable def qv : Program := view PySem.Challenge.pw_pb0423_01 [63]
noncomputable def lo : List Str := [Str.ofString "_wall", Str.ofString "MintError", Str.ofString "OperandError", Str.ofString "mask", Str.ofString "wrap", Str.ofString "signed", Str.ofString "fits_signed", Str.ofString "fits_unsigned", Str.ofString "fits_either", Str.ofString "CONDITIONS", Str.ofString "LOCKED", Str.ofString "MOVED", Str.ofString "COMPARED", Str.ofString "condition_names", Str.ofString "is_fixed", Str.ofString "is_immediate", Str.ofString "is_relative", Str.ofString "takes_memory", Str.ofString "kind_size", Str.ofString "kind_width", Str.ofString "slot_of", Str.ofString "takes_register", Str.ofString "takes_worth", Str.ofString "takes_distance", Str.ofString "takes", Str.ofString "Form", Str.ofString "matches", Str.ofString "can_lock", Str.ofString "repeats", Str.ofString "Operand", Str.ofString "Reg", Str.ofString "Imm", Str.ofString "Rel", Str.ofString "Mem", Str.ofString "Instruction", Str.ofString "NAMES_8", Str.ofString "NAMES_16", Str.ofString "NAMES_32", Str.ofString "NAMES_64", Str.ofString "HIGH_NAMES", Str.ofString "SEGMENT_NAMES", Str.ofString "Register", Str.ofString "early_names", Str.ofString "late_ending", Str.ofString "gpr", Str.ofString "high", Str.ofString "xmm", Str.ofString "rip", Str.ofString "segment", Str.ofString "_law_kinds", Str.ofString "_law_next", Str.ofString "_law_row", Str.ofString "_law_number", Str.ofString "_law_operand", Str.ofString "_law_lets_number", Str.ofString "_law_lets", Str.ofString "_law_form_right", Str.ofString "_law_name_right"]
theorem left_A (w : World) (os : OsState) : (topT (stepOk 11 ((boot_heap w.params).nsMap mainGlobals "__annotations__")) (stepT (denote treeTable) PySem.Challenge.pw_pb0423_01 w) 9388 (s0T w os) (topStub PySem.Challenge.pw_pb0423_01)).map (fun s => (staticsOk (importedModules PySem.Challenge.pw_pb0423_01.main.body) (boot_heap w.params) s.abs.heap && namesBound PySem.Challenge.pw_pb0423_01 s.abs.heap && gensDone s.abs && laidKept (boot_heap w.params) s.abs.heap,
    openSeen qv lo (importedModules PySem.Challenge.pw_pb0423_01.main.body) (fun s => xlAt qv [] s && recOk (RowW.records PySem.Challenge.rw_pb0423_01.row.toRowW) s) true s.abs)) = some (true, openGood qv lo) := by
  rw [PySem.W.Fast.te10156331382660048174, PySem.W.Fast.te11892475500146522536, PySem.W.Fast.te6613529449190102663, PySem.W.Fast.te4187177175401517315]
  kernel_rfl
theorem well_said : PySem.Challenge.rw_pb0423_01.wellSaid = true := by
  rw [PySem.W.Fast.te9446332074065402090]
  kernel_rfl
local macro_rules
  | `(tactic| o_head $H) => `(tactic| (refine holds_open (q := qv) (loose := lo) (Xt := fun s => xlAt qv [] s && recOk (RowW.records PySem.Challenge.rw_pb0423_01.row.toRowW) s) (XP := XL qv []) (Yf := Hook.obs $H) (Ya := Hook.val $H) (YP := Hook.says $H) (N := 9388) ?hl (Hook.of $H) (Hook.keeps $H) (fun s e => xl_of s (Bool.and_eq_true_iff.mp e).1) XL.keeps (by rfl) (by rfl) (by rfl) (fun s e => recFacts_of (Bool.and_eq_true_iff.mp e).2) (by rfl) (by first | assumption | decide +kernel) (by decide +kernel) ⟨rfl, rfl, rfl, rfl, rfl, by decide +kernel⟩ ?hw ?hc; case hl => (refine left_T (by kernel_rfl) (by decide) (fun s => by kernel_rfl) left_A ?_; intro w os; rw [PySem.W.Fast.te10156331382660048174, PySem.W.Fast.te11892475500146522536, PySem.W.Fast.te6613529449190102663]; kernel_rfl)))
local macro_rules
  | `(tactic| o_law) => `(tactic| refine holds_law well_said fun said => ?_)
open_top hd for PySem.Challenge.rw_pb0423_01
end Mine

end
set_option maxHeartbeats 2000000
open PySem PySem.W PySem.Calls PyProof.Rows
/-! My own interpreter over tree values: values, result trees, operations. -/
namespace Mine

inductive PV where
  | none
  | bool (b : Bool)
  | int (i : Int)
  | str (s : Str)
  | tup (l : List PV)
  | lst (l : List PV)
  | arr (l : List PV)
  | dic (l : List (Str × PV))
  | obj (C : Addr) (l : List (Str × PV))
  | self
  | pen
  | raw (v : Value)

/-- a result tree: the draws are its branchings; `br` a test, `need` a value that may be lacking -/
inductive T (α : Type) where
  | ret (a : α)
  | fail
  | next (many : Int) (k : Int → T α)
  | br (b : Bool) (x y : T α)
  | need (o : Option PV) (k : PV → T α)

namespace T
noncomputable def bind {α β : Type} : T α → (α → T β) → T β
  | .ret a, f => f a
  | .fail, _ => .fail
  | .next m k, f => .next m fun i => (k i).bind f
  | .br b x y, f => .br b (x.bind f) (y.bind f)
  | .need o k, f => .need o fun v => (k v).bind f
end T

/-- every way through the tree ends in `post`; at most b draws -/
inductive Sat {α : Type} : Nat → T α → (Nat → α → Prop) → Prop
  | ret {b : Nat} {a : α} {post : Nat → α → Prop} : post b a → Sat b (.ret a) post
  | next {b : Nat} {m : Int} {k : Int → T α} {post : Nat → α → Prop} : (∀ i, 0 ≤ i → i < m → Sat b (k i) post) → Sat (b + 1) (.next m k) post
  | br {b : Nat} {c : Bool} {x y : T α} {post : Nat → α → Prop} : (c = true → Sat b x post) → (c = false → Sat b y post) → Sat b (.br c x y) post
  | need {b : Nat} {o : Option PV} {k : PV → T α} {v : PV} {post : Nat → α → Prop} : o = some v → Sat b (k v) post → Sat b (.need o k) post

section
variable {α β : Type} {b : Nat} {post : Nat → α → Prop}
theorem sat_ret {a : α} : Sat b (.ret a) post ↔ post b a := ⟨fun h => (by cases h with | ret h => exact h), .ret⟩
theorem sat_fail : Sat b (.fail : T α) post ↔ False := ⟨fun h => (by cases h), fun h => h.elim⟩
theorem sat_next {m : Int} {k : Int → T α} : Sat b (.next m k) post ↔ ∃ c, b = c + 1 ∧ ∀ i, 0 ≤ i → i < m → Sat c (k i) post :=
  ⟨fun h => (by cases h with | next h => exact ⟨_, rfl, h⟩), fun ⟨c, e, h⟩ => by subst e; exact .next h⟩
theorem sat_br {c : Bool} {x y : T α} : Sat b (.br c x y) post ↔ (c = true → Sat b x post) ∧ (c = false → Sat b y post) := ⟨fun h => (by cases h with | br h1 h2 => exact ⟨h1, h2⟩), fun h => .br h.1 h.2⟩
theorem sat_need {o : Option PV} {k : PV → T α} : Sat b (.need o k) post ↔ ∃ v, o = some v ∧ Sat b (k v) post := ⟨fun h => (by cases h with | need e h => exact ⟨_, e, h⟩), fun ⟨v, e, h⟩ => .need e h⟩

theorem sat_bind {t : T α} {f : α → T β} {post : Nat → β → Prop} : ∀ {b : Nat}, Sat b (t.bind f) post ↔ Sat b t fun b' a => Sat b' (f a) post := by
  induction t with
  | ret a => intro b; rw [sat_ret]; exact Iff.rfl
  | fail => intro b; rw [T.bind, sat_fail, sat_fail]
  | next m k ih =>
    intro b
    rw [T.bind, sat_next, sat_next]
    exact ⟨fun ⟨c, e, h⟩ => ⟨c, e, fun i h0 h1 => (ih i).mp (h i h0 h1)⟩, fun ⟨c, e, h⟩ => ⟨c, e, fun i h0 h1 => (ih i).mpr (h i h0 h1)⟩⟩
  | br c x y ix iy => intro b; rw [T.bind, sat_br, sat_br, ix, iy]
  | need o k ih =>
    intro b
    rw [T.bind, sat_need, sat_need]
    exact ⟨fun ⟨v, e, h⟩ => ⟨v, e, (ih v).mp h⟩, fun ⟨v, e, h⟩ => ⟨v, e, (ih v).mpr h⟩⟩

theorem sat_mono {t : T α} {post post' : Nat → α → Prop} (hp : ∀ b a, post b a → post' b a) : ∀ {b : Nat}, Sat b t post → Sat b t post' := by
  induction t with
  | ret a => intro b h; rw [sat_ret] at h ⊢; exact hp _ _ h
  | fail => intro b h; rw [sat_fail] at h; exact h.elim
  | next m k ih => intro b h; rw [sat_next] at h ⊢; obtain ⟨c, e, h⟩ := h; exact ⟨c, e, fun i h0 h1 => ih i (h i h0 h1)⟩
  | br c x y ix iy => intro b h; rw [sat_br] at h ⊢; exact ⟨fun e => ix (h.1 e), fun e => iy (h.2 e)⟩
  | need o k ih => intro b h; rw [sat_need] at h ⊢; obtain ⟨v, e, h⟩ := h; exact ⟨v, e, ih v h⟩
end

noncomputable def natEqL : List Nat → List Nat → Bool
  | [], [] => true
  | x :: xs, y :: ys => match Nat.beq x y with | true => natEqL xs ys | false => false
  | [], _ :: _ => false
  | _ :: _, [] => false
theorem natEqL_iff : ∀ {a b : List Nat}, natEqL a b = true ↔ a = b
  | [], [] => by simp [natEqL]
  | x :: xs, y :: ys => by
    have e : natEqL (x :: xs) (y :: ys) = match Nat.beq x y with | true => natEqL xs ys | false => false := rfl
    rw [e]
    cases h : Nat.beq x y with
    | true => have := Nat.eq_of_beq_eq_true h; subst this; simp [natEqL_iff]
    | false =>
      have : x ≠ y := Nat.ne_of_beq_eq_false h
      simp [this]
  | [], _ :: _ => by simp [natEqL]
  | _ :: _, [] => by simp [natEqL]
noncomputable def idL : List Nat → Nat
  | [] => 1
  | c :: r => c + 256 * idL r
noncomputable def sid (a : Str) : Nat := idL a.cps.toList
noncomputable def strEq (a b : Str) : Bool := match Nat.beq (sid a) (sid b) with
  | true => natEqL a.cps.toList b.cps.toList
  | false => false
theorem strEq_iff {a b : Str} : strEq a b = true ↔ a = b := by
  unfold strEq
  cases h : Nat.beq (sid a) (sid b) with
  | true =>
    simp only []
    rw [natEqL_iff]
    constructor
    · intro h
      obtain ⟨a⟩ := a; obtain ⟨b⟩ := b
      congr 1
      exact Array.ext' h
    · rintro rfl; rfl
  | false =>
    simp only []
    constructor
    · intro q; cases q
    · rintro rfl
      exact absurd rfl (Nat.ne_of_beq_eq_false h)
theorem strEq_beq (a b : Str) : strEq a b = (a == b) := by
  rw [Bool.eq_iff_iff, strEq_iff, beq_iff_eq]

noncomputable def look {α : Type} (x : Str) : List (Str × α) → Option α
  | [] => none
  | (y, v) :: r => match strEq y x with
    | true => some v
    | false => look x r
theorem look_lookup {α : Type} (x : Str) : ∀ l : List (Str × α), look x l = l.lookup x
  | [] => rfl
  | (y, v) :: r => by
    have ih := look_lookup x r
    unfold look
    rw [List.lookup_cons, strEq_beq, ih]
    by_cases h : x = y
    · subst h; simp
    · have h1 : (x == y) = false := by simpa using h
      have h2 : (y == x) = false := by simpa using fun e : y = x => h e.symm
      rw [h1, h2]
theorem look_cons {α : Type} {x y : Str} {v : α} {r : List (Str × α)} : look x ((y, v) :: r) = if y = x then some v else look x r := by
  have e : look x ((y, v) :: r) = match strEq y x with | true => some v | false => look x r := rfl
  rw [e]
  by_cases h : y = x
  · rw [strEq_iff.mpr h, if_pos h]
  · have : strEq y x = false := by cases q : strEq y x with | false => rfl | true => exact absurd (strEq_iff.mp q) h
    rw [this, if_neg h]

mutual
noncomputable def toPy : PV → Option PyData
  | .none => some .none
  | .bool b => some (.bool b)
  | .int i => some (.int i)
  | .str s => some (.str s)
  | .tup l => match toPyL l with | some d => some (.tuple d) | none => none
  | .lst l => match toPyL l with | some d => some (.list d) | none => none
  | .arr _ => none
  | .dic _ => none
  | .obj _ _ => none
  | .self => none
  | .pen => none
  | .raw _ => none
noncomputable def toPyL : List PV → Option (List PyData)
  | [] => some []
  | x :: xs => match toPy x with
    | some d => match toPyL xs with | some ds => some (d :: ds) | none => none
    | none => none
end
noncomputable def cpsOk : List Nat → Bool
  | [] => true
  | c :: r => match Nat.blt c 0x110000 with | true => cpsOk r | false => false
mutual
noncomputable def pyOk : Nat → PyData → Bool
  | _, .none => true
  | _, .bool _ => true
  | _, .int _ => true
  | _, .str s => cpsOk s.cps.toList
  | n, .tuple l => match n with | 0 => false | n + 1 => pyOkL n l
  | n, .list l => match n with | 0 => false | n + 1 => pyOkL n l
  | _, .dict _ => false
noncomputable def pyOkL : Nat → List PyData → Bool
  | _, [] => true
  | n, x :: xs => match pyOk n x with | true => pyOkL n xs | false => false
end
mutual
noncomputable def eqD : PyData → PyData → Bool
  | .none, .none => true
  | .bool a, .bool b => a == b
  | .bool a, .int j => (if a then 1 else 0) == j
  | .int i, .bool b => i == (if b then 1 else 0)
  | .int i, .int j => i == j
  | .str x, .str y => strEq x y
  | .list xs, .list ys => eqDL xs ys
  | .tuple xs, .tuple ys => eqDL xs ys
  | _, _ => false
noncomputable def eqDL : List PyData → List PyData → Bool
  | [], [] => true
  | x :: xs, y :: ys => eqD x y && eqDL xs ys
  | _, _ => false
end


noncomputable def isS {α : Type} (o : Option α) : Bool := match o with
  | some _ => true
  | none => false
noncomputable def getB (o : Option Bool) : Bool := match o with
  | some b => b
  | none => false
noncomputable def needB {α : Type} (o : Option Bool) (k : Bool → T α) : T α := .br (isS o) (k (getB o)) .fail
noncomputable def ok1 {α : Type} (b : Bool) (t : T α) : T α := .br b t .fail

noncomputable def eqOp (a b : PV) : Option Bool := match toPy a with
  | some x => match toPy b with
    | some y => match pyOk 8 x with
      | true => match pyOk 8 y with
        | true => some (eqD x y)
        | false => none
      | false => none
    | none => none
  | none => none
noncomputable def inOp (a c : PV) : Option Bool := match c with
  | .tup l => match toPy a with
    | some x => match toPyL l with
      | some ys => match pyOk 8 x with
        | true => match pyOkL 8 ys with
          | true => some (ys.any fun y => eqD y x)
          | false => none
        | false => none
      | none => none
    | none => none
  | .lst l => match toPy a with
    | some x => match toPyL l with
      | some ys => match pyOk 8 x with
        | true => match pyOkL 8 ys with
          | true => some (ys.any fun y => eqD y x)
          | false => none
        | false => none
      | none => none
    | none => none
  | .str x => match a with
    | .str y => some (!(Builtin.Str.occurrences x y 0 x.length 1).isEmpty)
    | _ => none
  | .dic l => match a with
    | .str k => some (look k l).isSome
    | _ => none
  | _ => none

noncomputable def cmp (op : CmpOp) (a b : PV) : T Bool := match op with
  | .Lt => match a, b with | .int x, .int y => .ret (decide (x < y)) | _, _ => .fail
  | .LtE => match a, b with | .int x, .int y => .ret (decide (x ≤ y)) | _, _ => .fail
  | .Gt => match a, b with | .int x, .int y => .ret (decide (x > y)) | _, _ => .fail
  | .GtE => match a, b with | .int x, .int y => .ret (decide (x ≥ y)) | _, _ => .fail
  | .Eq => needB (eqOp a b) .ret
  | .NotEq => needB (eqOp a b) fun c => .ret (!c)
  | .In => needB (inOp a b) .ret
  | .NotIn => needB (inOp a b) fun c => .ret (!c)
  | _ => .fail

noncomputable def truth (v : PV) : T Bool := match v with
  | .bool b => .ret b
  | _ => .fail

noncomputable def fitsI (x : Int) : Bool := decide (x.natAbs < 18446744073709551616)
noncomputable def binop (op : Operator) (a b : PV) : T PV := match a with
  | .int x => match b with
    | .int y => match op with
      | .Add => .ret (.int (x + y))
      | .Sub => .ret (.int (x - y))
      | .Mult => ok1 (fitsI x) (ok1 (fitsI y) (.ret (.int (x * y))))
      | .Mod => ok1 (decide (y ≠ 0)) (.ret (.int (Int.fmod x y)))
      | .FloorDiv => ok1 (decide (y ≠ 0)) (ok1 (decide (y.natAbs < 1073741824)) (.ret (.int (Int.fdiv x y))))
      | .Pow => ok1 (decide (0 ≤ y)) (ok1 (decide (y ≤ 100)) (ok1 (fitsI x) (.ret (.int (x ^ y.toNat)))))
      | .LShift => ok1 (decide (0 ≤ y)) (ok1 (decide (y ≤ 1000)) (ok1 (fitsI x) (.ret (.int (x * 2 ^ y.toNat)))))
      | .RShift => ok1 (decide (0 ≤ y)) (.ret (.int (x.fdiv (2 ^ y.toNat))))
      | .BitAnd => .ret (.int (Builtin.bitAnd x y))
      | _ => .fail
    | _ => .fail
  | .str x => match b with
    | .str y => match op with
      | .Add => ok1 (Nat.ble x.length 1000) (ok1 (Nat.ble y.length 1000) (.ret (.str (x ++ y))))
      | _ => .fail
    | _ => .fail
  | .lst x => match b with
    | .lst y => match op with
      | .Add => ok1 (Nat.ble x.length 1000) (ok1 (Nat.ble y.length 1000) (.ret (.lst (x ++ y))))
      | _ => .fail
    | _ => .fail
  | _ => .fail
noncomputable def unop (op : UnaryOp) (a : PV) : T PV := match op with
  | .USub => match a with | .int x => .ret (.int (-x)) | _ => .fail
  | .Not => (truth a).bind fun b => .ret (.bool (!b))
  | _ => .fail

/-- what is known of the pen: nothing (there is none), all of it, or that it is sound -/
inductive PenS where
  | off
  | at (P : List Int × Int × Int)
  | any

noncomputable def itemAt (l : List PV) (k : Int) : T PV := ok1 (decide (0 ≤ k)) (ok1 (decide (k < 1000)) (.need l[k.toNat]? .ret))
noncomputable def signAt (s : Str) (k : Int) : Option PV := match (seqIndex? k s.length).bind (s.cps[·]?) with
  | some c => some (.str ⟨#[c]⟩)
  | none => none
noncomputable def getitem (σp : PenS) (o i : PV) : T PV := match o with
  | .lst l => match i with | .int k => itemAt l k | _ => .fail
  | .tup l => match i with | .int k => itemAt l k | _ => .fail
  | .str s => match i with | .int k => ok1 (decide (-1000 ≤ k)) (ok1 (decide (k < 1000)) (.need (signAt s k) .ret)) | _ => .fail
  | .dic l => match i with | .str k => .need (look k l) .ret | _ => .fail
  | .pen => match i with
    | .int k => match σp with
      | .at P => match k with
        | .ofNat 0 => .ret (.lst (P.1.map .int))
        | .ofNat 1 => .ret (.int P.2.1)
        | .ofNat 2 => .ret (.int P.2.2)
        | _ => .fail
      | .any => .fail
      | .off => .fail
    | _ => .fail
  | _ => .fail
noncomputable def pick {α : Type} (lo hi st : Option Int) (l : List α) : List α :=
  (sliceRange (sliceBounds lo hi st l.length).1 (sliceBounds lo hi st l.length).2.1 (sliceBounds lo hi st l.length).2.2).filterMap (l[·]?)
noncomputable def tpick {α : Type} (lo : Int) (step : Int) (n : Nat) (l : List α) : List α := (List.range n).filterMap fun (k : Nat) => l[(lo + (k : Int) * step).toNat]?
noncomputable def tslice (lo hi : Option Int) (l : List PV) : List PV :=
  match (Builtin.Slice.sliceAdjust lo hi 1 l.length).1 == 0 && Builtin.Slice.slicePlaces (Builtin.Slice.sliceAdjust lo hi 1 l.length).1 (Builtin.Slice.sliceAdjust lo hi 1 l.length).2 1 == l.length with
  | true => l
  | false => tpick (Builtin.Slice.sliceAdjust lo hi 1 l.length).1 1 (Builtin.Slice.slicePlaces (Builtin.Slice.sliceAdjust lo hi 1 l.length).1 (Builtin.Slice.sliceAdjust lo hi 1 l.length).2 1) l
noncomputable def fsl (s : Str) (lo hi : Option Int) : Str := match lo with
  | none => match hi with
    | some (.ofNat n) => ⟨(s.cps.toList.take n).toArray⟩
    | hi => Txt.slice s none hi
  | some (.ofNat n) => match hi with
    | none => ⟨(s.cps.toList.drop n).toArray⟩
    | hi => Txt.slice s (some (.ofNat n)) hi
  | lo => Txt.slice s lo hi
noncomputable def slice (o : PV) (lo hi st : Option Int) : T PV := match o with
  | .arr l => ok1 (Nat.ble l.length 1000) (ok1 (decide (st ≠ some 0)) (.ret (.lst (pick lo hi st l))))
  | .lst l => ok1 (Nat.ble l.length 1000) (ok1 (decide (st ≠ some 0)) (.ret (.lst (pick lo hi st l))))
  | .tup l => match st with
    | none => ok1 (Nat.ble l.length 1000) (ok1 (Nat.ble (tslice lo hi l).length 1000) (.ret (.tup (tslice lo hi l))))
    | some _ => .fail
  | .str s => match st with
    | none => ok1 (Nat.ble s.length 1000) (.ret (.str (fsl s lo hi)))
    | some _ => .fail
  | _ => .fail

inductive PF where
  | nxt
  | ret (v : PV)
noncomputable def penKind : PenS → Nat
  | .off => 0
  | .at _ => 1
  | .any => 2
structure Sg where
  slf : Option (List (Str × PV)) := none
  cl : Addr := 0
  pen : PenS := .off
noncomputable abbrev PEnv := List (Str × PV)

structure Tab where
  glob : List (Str × PV)
  fn : List (Addr × (List PV → T PV))
  cls : List (Addr × (List PV → T (List (Str × PV))))
  ini : List (Addr × (Addr → List PV → List (Str × PV) → T (List (Str × PV))))
  meth : List (Addr × Str × (List PV → T PV))
  att : List (Addr × Str × Unit)
  nxt : Addr

noncomputable def lookN {α : Type} (a : Addr) : List (Addr × α) → Option α
  | [] => none
  | (b, v) :: r => match Nat.beq b a with
    | true => some v
    | false => lookN a r
noncomputable def lookM {α : Type} (a : Addr) (x : Str) : List (Addr × Str × α) → Option α
  | [] => none
  | (b, y, v) :: r => match Nat.beq b a with
    | true => match strEq y x with
      | true => some v
      | false => lookM a x r
    | false => lookM a x r

noncomputable def setE (x : Str) (v : PV) : PEnv → PEnv
  | [] => [(x, v)]
  | (y, u) :: r => match strEq y x with
    | true => (y, v) :: r
    | false => (y, u) :: setE x v r
noncomputable def kindIn (sc : Scope) (x : Str) : Option NameKind := look x sc.names
noncomputable def stOk (sc : Scope) (x : Str) : Bool := match kindIn sc x with
  | some .local => true
  | some .cell => true
  | _ => false

noncomputable def anyB : List PV → Option Bool
  | [] => some false
  | .bool b :: r => match anyB r with | some c => some (b || c) | none => none
  | _ :: _ => none
noncomputable def textsOf : List PV → Option (List Str)
  | [] => some []
  | .str s :: r => match textsOf r with | some l => some (s :: l) | none => none
  | _ :: _ => none

noncomputable def iN (n : Nat) : PV := .int n
noncomputable def callV (Γ : Tab) (σp : PenS) (f : PV) (as : List PV) : T PV := match f with
  | .raw v => match v with
    | .type t => match t with
      | "int" => match as with
        | [.int i] => .ret (.int i)
        | [.bool b] => .ret (.int (if b then 1 else 0))
        | [.str s] => ok1 (Nat.ble s.length 640) (.need ((PySem.intText? s).map .int) .ret)
        | _ => .fail
      | "str" => match as with
        | [.int i] => ok1 (decide (0 ≤ i)) (ok1 (decide (i < 1000)) (.ret (.str (Str.ofString (toString i)))))
        | _ => .fail
      | "tuple" => match as with
        | [.lst l] => ok1 (Nat.ble l.length 1000) (.ret (.tup l))
        | _ => .fail
      | "list" => match as with
        | [.tup l] => ok1 (Nat.ble l.length 1000) (.ret (.lst l))
        | _ => .fail
      | _ => .fail
    | .builtin t => match t with
      | "len" => match as with
        | [.lst l] => ok1 (Nat.ble l.length 1000) (.ret (iN l.length))
        | [.tup l] => ok1 (Nat.ble l.length 1000) (.ret (iN l.length))
        | _ => .fail
      | "abs" => match as with
        | [.int i] => .ret (.int (if i < 0 then -i else i))
        | _ => .fail
      | "any" => match as with
        | [.lst l] => needB (anyB l) fun b => .ret (.bool b)
        | _ => .fail
      | _ => .fail
    | .ref a => match Nat.beq a Γ.nxt with
      | true => match as with
        | [.pen, .int m] => match σp with
          | .any => ok1 (decide (0 < m)) (ok1 (decide (m ≤ 1000)) (.next m fun i => .ret (.int i)))
          | .at _ => .fail
          | .off => .fail
        | _ => .fail
      | false => match lookN a Γ.fn with
        | some F => F as
        | none => match lookN a Γ.cls with
          | some F => (F as).bind fun fs => .ret (.obj a fs)
          | none => .fail
    | _ => .fail
  | _ => .fail

noncomputable def strMeth (s : Str) (attr : Str) (as : List PV) : T PV := match strEq attr "split" with
  | true => match as with
    | [] => ok1 (Nat.ble s.length 1000) (.ret (.lst ((Txt.words s).map .str)))
    | [.str y] => ok1 (Nat.ble s.length 1000) (ok1 (!(y.length == 0)) (.ret (.lst ((Txt.split s y).map .str))))
    | _ => .fail
  | false => match strEq attr "lstrip" with
    | true => match as with
      | [.str y] => ok1 (Nat.ble s.length 1000) (.ret (.str (Txt.lstripChars s y)))
      | _ => .fail
    | false => match strEq attr "index" with
      | true => match as with
        | [.str y] => .need ((Builtin.Str.occurrences s y 0 s.length 1).head?.map iN) .ret
        | _ => .fail
      | false => match strEq attr "join" with
        | true => match as with
          | [.lst l] => .need ((textsOf l).bind fun l => if JoinOk s l then some (.str (Txt.join s l)) else none) .ret
          | _ => .fail
        | false => .fail
noncomputable def posOf (y : Str) : List Str → Option Nat
  | [] => none
  | x :: r => match strEq x y with
    | true => some 0
    | false => match posOf y r with
      | some i => some (i + 1)
      | none => none
noncomputable def lstMeth (l : List PV) (attr : Str) (as : List PV) : T PV := match strEq attr "index" with
  | true => match as with
    | [.str y] => ok1 (Nat.ble l.length 1000) (.need ((textsOf l).bind fun ts => (posOf y ts).map iN) .ret)
    | _ => .fail
  | false => .fail
noncomputable def methV (Γ : Tab) (o : PV) (attr : Str) (as : List PV) : T PV := match o with
  | .str s => strMeth s attr as
  | .lst l => lstMeth l attr as
  | .obj C fs => match look attr fs with
    | some _ => .fail
    | none => match lookM C attr Γ.meth with
      | some F => F (.obj C fs :: as)
      | none => .fail
  | _ => .fail

noncomputable def methOk (Γ : Tab) (o : PV) (attr : Str) : Bool := match o with
  | .str _ => match strEq attr "split" with
    | true => true
    | false => match strEq attr "lstrip" with
      | true => true
      | false => match strEq attr "index" with
        | true => true
        | false => strEq attr "join"
  | .lst _ => strEq attr "index"
  | .obj C fs => match look attr fs with
    | some _ => false
    | none => match lookM C attr Γ.meth with
      | some _ => true
      | none => false
  | _ => false
noncomputable def items (v : PV) : T (List PV) := match v with
  | .tup l => ok1 (Nat.ble l.length 1000) (.ret l)
  | .lst l => ok1 (Nat.ble l.length 1000) (.ret l)
  | .str s => ok1 (Nat.ble s.length 1000) (.ret (s.cps.toList.map fun c => .str ⟨#[c]⟩))
  | _ => .fail
noncomputable def zipL : List PV → List PV → List PV
  | x :: xs, y :: ys => .tup [x, y] :: zipL xs ys
  | _, _ => []

noncomputable def relab (scope sc : Scope) : Scope :=
  { scope with names := scope.names.map fun (n, k) => if (k == .free && sc.kind == .function && sc.names.lookup n == some .cell) then (n, .cell) else (n, k) }
noncomputable def onlyFree (scope : Scope) : PEnv → PEnv
  | [] => []
  | (x, v) :: r => match kindIn scope x with
    | some .free => (x, v) :: onlyFree scope r
    | _ => onlyFree scope r

noncomputable def stL (sc : Scope) (x : Str) : Bool := match kindIn sc x with
  | some .local => true
  | _ => false
noncomputable def stV (lo : Bool) (sc : Scope) (x : Str) : Bool := match lo with
  | true => stL sc x
  | false => stOk sc x
noncomputable def bindNs (lo : Bool) (sc : Scope) (ts : List Expr) (vs : List PV) (ρ : PEnv) : Option PEnv := match ts with
  | [] => match vs with
    | [] => some ρ
    | _ :: _ => none
  | t :: ts => match vs with
    | [] => none
    | v :: vs => match t with
      | .Name x _ => match stV lo sc x with
        | true => bindNs lo sc ts vs (setE x v ρ)
        | false => none
      | _ => none
noncomputable def bindT (lo : Bool) (sc : Scope) (t : Expr) (v : PV) (ρ : PEnv) : Option PEnv := match t with
  | .Name x _ => match stV lo sc x with
    | true => some (setE x v ρ)
    | false => none
  | .Tuple ts _ _ => match v with
    | .tup l => bindNs lo sc ts l ρ
    | _ => none
  | _ => none
noncomputable def optT {α β : Type} (o : Option α) (k : α → T β) : T β := match o with
  | some a => k a
  | none => .fail

noncomputable def isSetE : Expr → Bool
  | .Set _ _ _ => true
  | _ => false
noncomputable def isStar : Expr → Bool
  | .Starred _ _ => true
  | _ => false
noncomputable def globV (Γ : Tab) (sc : Scope) (x : Str) : Option PV := match kindIn sc x with
  | some .globalImplicit => look x Γ.glob
  | _ => none


/-- the interpreter at some fuel: one function a kind of node -/
structure R where
  ev : Scope → PEnv → Sg → Expr → T PV
  evL : Scope → PEnv → Sg → List Expr → T (List PV)
  evD : Scope → PEnv → Sg → List (Option Expr) → List Expr → T (List (Str × PV))
  evBool : Scope → PEnv → Sg → BoolOp → List Expr → T PV
  evC : Scope → PEnv → Sg → PV → List CmpOp → List Expr → T Bool
  tst : Scope → PEnv → Sg → Expr → T Bool
  allT : Scope → PEnv → Sg → BoolOp → List Expr → T Bool
  evIter : Scope → PEnv → Sg → Expr → Expr → T (List PV)
  comp : Scope → PEnv → Sg → Expr → Expr → List Expr → List PV → T (List PV)
  ex : Scope → PEnv → Sg → Stmt → T (PF × PEnv × Sg)
  exs : Scope → PEnv → Sg → List Stmt → T (PF × PEnv × Sg)
  loop : Scope → PEnv → Sg → Expr → List Stmt → List PV → T (PF × PEnv × Sg)

noncomputable def R.none : R := ⟨fun _ _ _ _ => .fail, fun _ _ _ _ => .fail, fun _ _ _ _ _ => .fail, fun _ _ _ _ _ => .fail, fun _ _ _ _ _ _ => .fail, fun _ _ _ _ => .fail, fun _ _ _ _ _ => .fail,
  fun _ _ _ _ _ => .fail, fun _ _ _ _ _ _ _ => .fail, fun _ _ _ _ => .fail, fun _ _ _ _ => .fail, fun _ _ _ _ _ _ => .fail⟩

noncomputable def hConst (c : Const) : T PV := match c with
  | .int i => .ret (.int i)
  | .str s => .ret (.str s)
  | .bool b => .ret (.bool b)
  | .none => .ret .none
  | _ => .fail
noncomputable def noSelf (v : PV) : T PV := match v with
  | .self => .fail
  | v => .ret v
noncomputable def hName2 (Γ : Tab) (ρ : PEnv) (x : Str) (k : Option NameKind) : T PV := match k with
  | some k => match k with
    | .globalImplicit => optT (look x Γ.glob) .ret
    | .globalExplicit => .fail
    | .local => optT (look x ρ) noSelf
    | .cell => optT (look x ρ) noSelf
    | .free => match strEq x "__classdict__" with
      | true => .fail
      | false => optT (look x ρ) noSelf
  | none => .fail
noncomputable def hName (Γ : Tab) (sc : Scope) (ρ : PEnv) (x : Str) : T PV := match strEq x "__debug__" with
  | true => .fail
  | false => hName2 Γ ρ x (kindIn sc x)
section
variable (Γ : Tab) (r : R) (sc : Scope) (ρ : PEnv) (σ : Sg)
noncomputable def hBin (l : Expr) (op : Operator) (e : Expr) : T PV := (r.ev sc ρ σ l).bind fun a => (r.ev sc ρ σ e).bind fun b => binop op a b
noncomputable def hUn (op : UnaryOp) (x : Expr) : T PV := (r.ev sc ρ σ x).bind fun a => unop op a
noncomputable def hIf (t b o : Expr) : T PV := (r.tst sc ρ σ t).bind fun c => .br c (r.ev sc ρ σ b) (r.ev sc ρ σ o)
noncomputable def hList (es : List Expr) : T PV := (r.evL sc ρ σ es).bind fun l => ok1 (Nat.ble l.length 1000) (.ret (.lst l))
noncomputable def hTuple (es : List Expr) : T PV := (r.evL sc ρ σ es).bind fun l => ok1 (Nat.ble l.length 1000) (.ret (.tup l))
noncomputable def nodupK : List (Str × PV) → Bool
  | [] => true
  | (k, _) :: r => match (look k r).isSome with
    | true => false
    | false => nodupK r
noncomputable def hDict (ks : List (Option Expr)) (vs : List Expr) : T PV := match ks with
  | [] => .fail
  | k :: ks => match vs with
    | [] => .fail
    | v :: vs => ok1 (Nat.beq ks.length vs.length) (ok1 (Nat.ble ks.length 10) (ok1 (ks.all (·.isSome)) (ok1 k.isSome ((r.evD sc ρ σ (k :: ks) (v :: vs)).bind fun l => ok1 (nodupK l) (.ret (.dic l))))))
noncomputable def hCmp (l : Expr) (ops : List CmpOp) (rs : List Expr) : T PV := (r.ev sc ρ σ l).bind fun a => (r.evC sc ρ σ a ops rs).bind fun c => .ret (.bool c)
noncomputable def noStars : List Expr → Bool
  | [] => true
  | e :: es => match isStar e with
    | true => false
    | false => match Nat.ble es.length 20 with
      | true => noStars es
      | false => false
noncomputable def baseOk : Expr → Bool
  | .Name _ _ => true
  | .Constant _ _ _ => true
  | .Call _ (_ :: _) _ _ => true
  | _ => false
noncomputable def evArgs (args : List Expr) : T (List PV) := match args with
  | [] => .ret []
  | e :: es => r.evL sc ρ σ (e :: es)
noncomputable def hCallN (x : Str) (args : List Expr) : T PV := match strEq x "__debug__" with
  | true => .fail
  | false => match noStars args with
    | false => .fail
    | true => optT (globV Γ sc x) fun fv => (evArgs r sc ρ σ args).bind fun as => callV Γ σ.pen fv as
noncomputable def hCallA (o : Expr) (attr : Str) (apos pos : Pos) (args : List Expr) : T PV := match decide (apos.endLine = pos.line) with
  | true => match baseOk o with
    | true => match noStars args with
      | true => (r.ev sc ρ σ o).bind fun ov => ok1 (methOk Γ ov attr) ((evArgs r sc ρ σ args).bind fun as => methV Γ ov attr as)
      | false => .fail
    | false => .fail
  | false => .fail
noncomputable def hCall (f : Expr) (args : List Expr) (kws : List Keyword) (pos : Pos) : T PV := match kws with
  | [] => match f with
    | .Name x _ => hCallN Γ r sc ρ σ x args
    | .Attribute o attr apos => hCallA Γ r sc ρ σ o attr apos pos args
    | _ => .fail
  | _ :: _ => .fail
noncomputable def noRaw (v : PV) : T PV := match v with
  | .raw _ => .fail
  | v => .ret v
noncomputable def fieldOf (attr : Str) (v : PV) : T PV := match v with
  | .obj C fs => match lookM C attr Γ.att with
    | some _ => .need (look attr fs) noRaw
    | none => .fail
  | _ => .fail
noncomputable def isSelf (v : Option PV) : Bool := match v with
  | some .self => true
  | _ => false
noncomputable def hAttr (o : Expr) (attr : Str) : T PV := match o with
  | .Name x p => match isSelf (look x ρ) with
    | true => match stOk sc x with
      | true => match strEq x "__debug__" with
        | true => .fail
        | false => match lookM σ.cl attr Γ.att with
          | some _ => optT σ.slf fun fs => .need (look attr fs) noRaw
          | none => .fail
      | false => .fail
    | false => (r.ev sc ρ σ (.Name x p)).bind (fieldOf Γ attr)
  | _ => .fail
noncomputable def part (v : PV) : Option Int := match v with
  | .int i => some i
  | _ => none
noncomputable def evP (o : Option Expr) : T (Option Int) := match o with
  | none => .ret none
  | some e => (r.ev sc ρ σ e).bind fun v => match v with
    | .int i => .ret (some i)
    | _ => .fail
noncomputable def hSlice (o : Expr) (lo hi st : Option Expr) : T PV :=
  (r.ev sc ρ σ o).bind fun v => (evP r sc ρ σ lo).bind fun a => (evP r sc ρ σ hi).bind fun b => (evP r sc ρ σ st).bind fun c => slice v a b c
noncomputable def hItem (o i : Expr) : T PV := (r.ev sc ρ σ o).bind fun v => (r.ev sc ρ σ i).bind fun k => getitem σ.pen v k
noncomputable def hSub (o i : Expr) : T PV := match i with
  | .Slice lo hi st _ => hSlice r sc ρ σ o lo hi st
  | .Constant c k p => hItem r sc ρ σ o (.Constant c k p)
  | .Name x p => hItem r sc ρ σ o (.Name x p)
  | .Call f a k p => hItem r sc ρ σ o (.Call f a k p)
  | .BinOp a op b p => hItem r sc ρ σ o (.BinOp a op b p)
  | .UnaryOp op a p => hItem r sc ρ σ o (.UnaryOp op a p)
  | _ => .fail
noncomputable def namesOk (sc : Scope) (names : List (Str × NameKind)) : List (Str × NameKind) → Bool
  | [] => true
  | (x, k) :: r => match k with
    | .cell => false
    | .local => match look x names with
      | some .local => namesOk sc names r
      | _ => false
    | .free => match kindIn sc x with
      | some .cell => namesOk sc names r
      | _ => false
    | _ => namesOk sc names r
noncomputable def isFnK : ScopeKind → Bool
  | .function => true
  | _ => false
noncomputable def compOk (sc scope : Scope) (iter : Expr) : Bool := match isFnK scope.kind with
  | true => match isSetE iter with
    | true => false
    | false => namesOk sc scope.names scope.names
  | false => false
noncomputable def hComp1 (elt target iter : Expr) (ifs : List Expr) (async : Int) (scope : Scope) : T PV := match decide (async = 0) with
  | true => ok1 (compOk sc scope iter) ((r.evIter sc ρ σ target iter).bind fun xs => (r.comp (relab scope sc) (onlyFree scope ρ) σ elt target ifs xs).bind fun l => .ret (.lst l))
  | false => .fail
noncomputable def hComp (elt : Expr) (gens : List Comprehension) (scope : Scope) : T PV := match gens with
  | [] => .fail
  | g :: gs => match gs with
    | [] => hComp1 r sc ρ σ elt g.target g.iter g.ifs g.is_async scope
    | _ :: _ => .fail
noncomputable def stepEv (e : Expr) : T PV := match e with
  | .Constant c _ _ => hConst c
  | .Name x _ => hName Γ sc ρ x
  | .BoolOp op vs _ => r.evBool sc ρ σ op vs
  | .BinOp l op e _ => hBin r sc ρ σ l op e
  | .UnaryOp op x _ => hUn r sc ρ σ op x
  | .IfExp t b o _ => hIf r sc ρ σ t b o
  | .List es _ => hList r sc ρ σ es
  | .Tuple es _ _ => hTuple r sc ρ σ es
  | .Dict ks vs _ => hDict r sc ρ σ ks vs
  | .Compare l ops rs _ => hCmp r sc ρ σ l ops rs
  | .Call f args kws pos => hCall Γ r sc ρ σ f args kws pos
  | .Attribute o attr _ => hAttr Γ r sc ρ σ o attr
  | .Subscript o i _ => hSub r sc ρ σ o i
  | .ListComp elt gens scope _ => hComp r sc ρ σ elt gens scope
  | _ => .fail
noncomputable def hL (e : Expr) (es : List Expr) : T (List PV) := (r.ev sc ρ σ e).bind fun v => (r.evL sc ρ σ es).bind fun vs => .ret (v :: vs)
noncomputable def stepL (es : List Expr) : T (List PV) := match es with
  | [] => .ret []
  | e :: es => match isStar e with
    | true => .fail
    | false => hL r sc ρ σ e es
noncomputable def hD (k : Str) (v : Expr) (ks : List (Option Expr)) (vs : List Expr) : T (List (Str × PV)) := (r.ev sc ρ σ v).bind fun x => (r.evD sc ρ σ ks vs).bind fun l => .ret ((k, x) :: l)
noncomputable def keyOf (k : Option Expr) : Option Str := match k with
  | some (.Constant (.str k) _ _) => some k
  | _ => none
noncomputable def stepD (ks : List (Option Expr)) (vs : List Expr) : T (List (Str × PV)) := match ks with
  | [] => match vs with
    | [] => .ret []
    | _ :: _ => .fail
  | k :: ks => match vs with
    | [] => .fail
    | v :: vs => optT (keyOf k) fun k => hD r sc ρ σ k v ks vs
noncomputable def hBool (op : BoolOp) (e : Expr) (es : List Expr) : T PV := (r.ev sc ρ σ e).bind fun v => (truth v).bind fun b => match op with
  | .And => .br b (r.evBool sc ρ σ op es) (.ret v)
  | .Or => .br b (.ret v) (r.evBool sc ρ σ op es)
noncomputable def stepBool (op : BoolOp) (vs : List Expr) : T PV := match vs with
  | [] => .fail
  | e :: es => match es with
    | [] => r.ev sc ρ σ e
    | e' :: es => hBool r sc ρ σ op e (e' :: es)
noncomputable def hC1 (a : PV) (op : CmpOp) (e : Expr) : T Bool := (r.ev sc ρ σ e).bind fun b => cmp op a b
noncomputable def hC (a : PV) (op op' : CmpOp) (ops : List CmpOp) (e e' : Expr) (rs : List Expr) : T Bool := (r.ev sc ρ σ e).bind fun b => (cmp op a b).bind fun c => .br c (r.evC sc ρ σ b (op' :: ops) (e' :: rs)) (.ret false)
noncomputable def stepC (a : PV) (ops : List CmpOp) (rs : List Expr) : T Bool := match ops with
  | [] => .fail
  | op :: ops => match rs with
    | [] => .fail
    | e :: rs => match isSetE e with
      | true => .fail
      | false => match ops with
        | [] => match rs with
          | [] => hC1 r sc ρ σ a op e
          | _ :: _ => .fail
        | op' :: ops => match rs with
          | [] => .fail
          | e' :: rs => hC r sc ρ σ a op op' ops e e' rs
noncomputable def hTst (e : Expr) : T Bool := (r.ev sc ρ σ e).bind fun v => truth v
noncomputable def hTstN (op : UnaryOp) (x : Expr) (p : Pos) : T Bool := match op with
  | .Not => (r.tst sc ρ σ x).bind fun b => .ret (!b)
  | op => hTst r sc ρ σ (.UnaryOp op x p)
noncomputable def stepTst (e : Expr) : T Bool := match e with
  | .UnaryOp op x p => hTstN r sc ρ σ op x p
  | .BoolOp op vs _ => r.allT sc ρ σ op vs
  | .IfExp _ _ _ _ => .fail
  | .Compare l ops rs _ => (r.ev sc ρ σ l).bind fun a => r.evC sc ρ σ a ops rs
  | e => hTst r sc ρ σ e
noncomputable def hAll (op : BoolOp) (e : Expr) (es : List Expr) : T Bool := (r.tst sc ρ σ e).bind fun b => match op with
  | .And => .br b (r.allT sc ρ σ op es) (.ret false)
  | .Or => .br b (.ret true) (r.allT sc ρ σ op es)
noncomputable def stepAll (op : BoolOp) (vs : List Expr) : T Bool := match vs with
  | [] => match op with | .And => .ret true | .Or => .ret false
  | e :: es => hAll r sc ρ σ op e es
noncomputable def rangeOf (as : List PV) : T (List PV) := match as with
  | [.int k] => ok1 (decide (0 ≤ k)) (ok1 (decide (k ≤ 1000)) (.ret ((List.range k.toNat).map iN)))
  | _ => .fail
noncomputable def zipOf (as : List PV) : T (List PV) := match as with
  | [.lst l, .lst q] => ok1 (Nat.ble l.length 1000) (ok1 (Nat.ble q.length 1000) (.ret (zipL l q)))
  | [.tup l, .tup q] => ok1 (Nat.ble l.length 1000) (ok1 (Nat.ble q.length 1000) (.ret (zipL l q)))
  | _ => .fail
/-- 1: a range, 2: a zip -/
noncomputable def iterKind (v : Option PV) : Nat := match v with
  | some v => match v with
    | .raw v => match v with
      | .type t => match t with
        | "range" => 1
        | "zip" => 2
        | _ => 0
      | _ => 0
    | _ => 0
  | none => 0
noncomputable def isTupE : Expr → Bool
  | .Tuple _ _ _ => true
  | _ => false
noncomputable def hIter (e : Expr) : T (List PV) := (r.ev sc ρ σ e).bind items
noncomputable def hIterN (tg : Expr) (x : Str) (e : Expr) (args : List Expr) (kws : List Keyword) : T (List PV) := match kws with
  | [] => match iterKind (globV Γ sc x) with
      | 0 => hIter r sc ρ σ e
      | 1 => match noStars args with
        | true => match strEq x "__debug__" with
          | true => .fail
          | false => (evArgs r sc ρ σ args).bind rangeOf
        | false => .fail
      | _ => match noStars args with
        | true => match isTupE tg with
          | true => match strEq x "__debug__" with
            | true => .fail
            | false => (evArgs r sc ρ σ args).bind zipOf
          | false => .fail
        | false => .fail
  | _ :: _ => .fail
noncomputable def stepIter (tg e : Expr) : T (List PV) := match e with
  | .Call f args kws p => match f with
    | .Name x q => hIterN Γ r sc ρ σ tg x (.Call (.Name x q) args kws p) args kws
    | f => hIter r sc ρ σ (.Call f args kws p)
  | e => hIter r sc ρ σ e
noncomputable def hIfs (ρ' : PEnv) (ifs : List Expr) : T Bool := match ifs with
  | [] => .ret true
  | c :: cs => match cs with
    | [] => r.tst sc ρ' σ c
    | _ :: _ => .fail
noncomputable def hCompT (elt target : Expr) (ifs : List Expr) (xs : List PV) (ρ' : PEnv) : T (List PV) := (hIfs r sc σ ρ' ifs).bind fun b =>
  .br b ((r.ev sc ρ' σ elt).bind fun y => (r.comp sc ρ' σ elt target ifs xs).bind fun l => .ret (y :: l)) (r.comp sc ρ' σ elt target ifs xs)
noncomputable def stepComp (elt target : Expr) (ifs : List Expr) (xs : List PV) : T (List PV) := match xs with
  | [] => .ret []
  | x :: xs => optT (bindT true sc target x ρ) fun ρ' => hCompT r sc σ elt target ifs xs ρ'
noncomputable def otherComp : Expr → Bool
  | .SetComp _ _ _ _ => true
  | .DictComp _ _ _ _ _ => true
  | _ => false
noncomputable def hSetN (x : Str) (value : Expr) : T (PF × PEnv × Sg) := ok1 (stOk sc x) (match value with
  | .ListComp elt gens scope _ => (hComp r sc ρ σ elt gens scope).bind fun v => .ret (.nxt, setE x v ρ, σ)
  | value => match otherComp value with
    | true => .fail
    | false => (r.ev sc ρ σ value).bind fun v => .ret (.nxt, setE x v ρ, σ))
noncomputable def nameOf : Expr → Option Str
  | .Name x _ => some x
  | _ => none
noncomputable def memS (x : Str) : List Expr → Bool
  | [] => false
  | e :: es => match nameOf e with
    | some y => match strEq y x with
      | true => true
      | false => memS x es
    | none => true
noncomputable def distinctT : List Expr → Bool
  | [] => true
  | e :: es => match nameOf e with
    | some x => match memS x es with
      | true => false
      | false => distinctT es
    | none => false
noncomputable def hSetT (ts : List Expr) (value : Expr) : T (PF × PEnv × Sg) := match value with
  | .Tuple vs _ _ => ok1 (!(vs.all (constantsAlone 8))) (ok1 (distinctT ts) ((r.ev sc ρ σ value).bind fun v => match v with
    | .tup l => optT (bindNs false sc ts l ρ) fun ρ' => .ret (.nxt, ρ', σ)
    | _ => .fail))
  | _ => .fail
noncomputable def isComp : Expr → Bool
  | .ListComp _ _ _ _ => true
  | e => otherComp e
noncomputable def hSetA (o : Expr) (a : Str) (value : Expr) : T (PF × PEnv × Sg) := match o with
  | .Name x _ => ok1 (isSelf (look x ρ)) (ok1 (stOk sc x) (ok1 (!strEq x "__debug__") (ok1 (lookM σ.cl a Γ.att).isSome (optT σ.slf fun fs => (r.ev sc ρ σ value).bind fun v => ok1 (Nat.ble fs.length 100) (.ret (.nxt, ρ, { σ with slf := some (setE a v fs) }))))))
  | _ => .fail
noncomputable def penAt (s : PenS) : Option (List Int × Int × Int) := match s with
  | .at P => some P
  | _ => none
noncomputable def isPen (v : Option PV) : Bool := match v with
  | some .pen => true
  | _ => false
noncomputable def penSet (P : List Int × Int × Int) (j : Int) (v : PV) : T (PF × PEnv × Sg) := match v with
  | .int u => match j with
    | .ofNat 1 => .ret (.nxt, ρ, { σ with pen := .at (P.1, u, P.2.2) })
    | .ofNat 2 => .ret (.nxt, ρ, { σ with pen := .at (P.1, P.2.1, u) })
    | _ => .fail
  | _ => .fail
noncomputable def hSetS (o i : Expr) (value : Expr) : T (PF × PEnv × Sg) := match o with
  | .Name x _ => match i with
    | .Constant (.int j) _ _ => ok1 (isPen (look x ρ)) (ok1 (stOk sc x) (ok1 (!strEq x "__debug__") (optT (penAt σ.pen) fun P => (r.ev sc ρ σ value).bind fun v => penSet ρ σ P j v)))
    | _ => .fail
  | _ => .fail
noncomputable def hAsg (targets : List Expr) (value : Expr) : T (PF × PEnv × Sg) := match targets with
  | [] => .fail
  | t :: ts => match ts with
    | _ :: _ => .fail
    | [] => match t with
      | .Name x _ => hSetN r sc ρ σ x value
      | .Tuple ts _ _ => hSetT r sc ρ σ ts value
      | .Attribute o a _ => hSetA Γ r sc ρ σ o a value
      | .Subscript o i _ => hSetS r sc ρ σ o i value
      | _ => .fail
noncomputable def hIfS (t : Expr) (b o : List Stmt) : T (PF × PEnv × Sg) := (r.tst sc ρ σ t).bind fun c => .br c (r.exs sc ρ σ b) (r.exs sc ρ σ o)
noncomputable def hFor (target iter : Expr) (body orelse : List Stmt) : T (PF × PEnv × Sg) := match orelse with
  | [] => match isSetE iter with
    | true => .fail
    | false => (r.evIter sc ρ σ target iter).bind fun xs => r.loop sc ρ σ target body xs
  | _ :: _ => .fail
noncomputable def refOf (v : Option PV) : Option Addr := match v with
  | some (.raw (.ref a)) => some a
  | _ => none
noncomputable def hIniCall (c m x : Str) (args : List Expr) : T (PF × PEnv × Sg) :=
  ok1 (isSelf (look x ρ)) (ok1 (stOk sc x) (ok1 (!strEq x "__debug__") (ok1 (!strEq c "__debug__") (ok1 (strEq m "__init__") (optT (refOf (globV Γ sc c)) fun a =>
    optT (lookN a Γ.ini) fun F => optT σ.slf fun fs => (r.evL sc ρ σ args).bind fun as => (F σ.cl as fs).bind fun fs' => .ret (.nxt, ρ, { σ with slf := some fs' }))))))
noncomputable def hExpr (e : Expr) : T (PF × PEnv × Sg) := match e with
  | .Call f args kws pos => match kws with
    | _ :: _ => .fail
    | [] => match f with
      | .Attribute o m apos => match o with
        | .Name c _ => match args with
          | [] => .fail
          | a :: args => match a with
            | .Name x px => ok1 (decide (apos.endLine = pos.line)) (ok1 (noStars (.Name x px :: args)) (hIniCall Γ r sc ρ σ c m x args))
            | _ => .fail
        | _ => .fail
      | _ => .fail
  | _ => .fail
noncomputable def hRet (e : Option Expr) : T (PF × PEnv × Sg) := match e with
  | some e => (r.ev sc ρ σ e).bind fun v => .ret (.ret v, ρ, σ)
  | none => .fail
noncomputable def stepEx (s : Stmt) : T (PF × PEnv × Sg) := match s with
  | .Assign targets value _ => hAsg Γ r sc ρ σ targets value
  | .Return e _ => hRet r sc ρ σ e
  | .If t b o _ => hIfS r sc ρ σ t b o
  | .For target iter body orelse _ => hFor r sc ρ σ target iter body orelse
  | .Expr e _ => hExpr Γ r sc ρ σ e
  | _ => .fail
noncomputable def hSeq (s : Stmt) (ss : List Stmt) : T (PF × PEnv × Sg) := (r.ex sc ρ σ s).bind fun q => match q.1 with
  | .nxt => r.exs sc q.2.1 q.2.2 ss
  | .ret v => .ret (.ret v, q.2.1, q.2.2)
noncomputable def stepExs (ss : List Stmt) : T (PF × PEnv × Sg) := match ss with
  | [] => .ret (.nxt, ρ, σ)
  | s :: ss => hSeq r sc ρ σ s ss
/-- what a turn has added to the frame is forgotten -/
noncomputable def hLoop (n : Nat) (target : Expr) (body : List Stmt) (xs : List PV) (ρ' : PEnv) : T (PF × PEnv × Sg) := (r.exs sc ρ' σ body).bind fun q => match q.1 with
  | .nxt => r.loop sc (q.2.1.take n) q.2.2 target body xs
  | .ret v => .ret (.ret v, q.2.1, q.2.2)
noncomputable def stepLoop (target : Expr) (body : List Stmt) (xs : List PV) : T (PF × PEnv × Sg) := match xs with
  | [] => .ret (.nxt, ρ, σ)
  | x :: xs => optT (bindT false sc target x ρ) fun ρ' => hLoop r sc σ ρ.length target body xs ρ'
end
noncomputable def step (Γ : Tab) (r : R) : R := ⟨stepEv Γ r, stepL r, stepD r, stepBool r, stepC r, stepTst r, stepAll r, stepIter Γ r, stepComp r, stepEx Γ r, stepExs r, stepLoop r⟩
noncomputable def Rn (Γ : Tab) (n : Nat) : R := Nat.rec (motive := fun _ => R) R.none (fun _ r => step Γ r) n
theorem Rn_zero (Γ : Tab) : Rn Γ 0 = R.none := rfl
theorem Rn_succ (Γ : Tab) (n : Nat) : Rn Γ (n + 1) = step Γ (Rn Γ n) := rfl

end Mine

namespace Mine

noncomputable abbrev Frz := Addr → Option Obj

structure Cx where
  prog : Program
  w : World
  K : Frag
  hb : Heap
  mg : Str → Option Value
  mb : Str → Option Value
  p : Addr

structure Cx.Ok (c : Cx) : Prop where
  K : c.K.In c.hb
  lim : c.hb.NoLimit
  g : c.hb.Ns mainGlobals c.mg
  b : c.hb.Ns builtinsNs c.mb
  boot : ∀ x : Str, x ≠ "__name__" → c.mb x = bootBuiltins x

mutual
/-- the value stands for the tree, by the frozen part g of the heap -/
inductive Rel (c : Cx) (g : Frz) : Value → PV → Prop
  | none : Rel c g .none .none
  | bool (b : Bool) : Rel c g (.bool b) (.bool b)
  | int (i : Int) (t : Tok) : Rel c g (.int i t) (.int i)
  | str (s : Str) (t : Tok) : Rel c g (.str s t) (.str s)
  | tup {a : Addr} {o : Obj} {vs : Array Value} {n : Nat} {l : List PV} : g a = some o → o.cls = .type "tuple" → o.data = .seq vs n → RelL c g vs.toList l → Rel c g (.ref a) (.tup l)
  | lst {a : Addr} {o : Obj} {vs : Array Value} {n : Nat} {l : List PV} : g a = some o → o.cls = .type "list" → o.data = .seq vs n → o.dict = Option.none → RelL c g vs.toList l → Rel c g (.ref a) (.lst l)
  | arr {a : Addr} {o : Obj} {vs : Array Value} {n : Nat} {l : List PV} : g a = some o → o.cls = .type "list" → o.data = .seq vs n → RelL c g vs.toList l → Rel c g (.ref a) (.arr l)
  | dic {a : Addr} {o : Obj} {kvs : List (Str × Value)} {l : List (Str × PV)} : (a == sysModules) = false → g a = some o → o.IsDictOf (strKind c.prog c.w) kvs → RelK c g kvs l → Rel c g (.ref a) (.dic l)
  | obj {a C d : Addr} {es : List DictEntry} {n : Nat} {l : List (Str × PV)} : g a = some (instObj C d) → g d = some (dictOf es n) → RelD c g es l → Rel c g (.ref a) (.obj C l)
  | pen : Rel c g (.ref c.p) .pen
  | raw (v : Value) : Rel c g v (.raw v)
inductive RelL (c : Cx) (g : Frz) : List Value → List PV → Prop
  | nil : RelL c g [] []
  | cons {v : Value} {x : PV} {vs : List Value} {l : List PV} : Rel c g v x → RelL c g vs l → RelL c g (v :: vs) (x :: l)
inductive RelK (c : Cx) (g : Frz) : List (Str × Value) → List (Str × PV) → Prop
  | nil : RelK c g [] []
  | cons {k : Str} {v : Value} {x : PV} {vs : List (Str × Value)} {l : List (Str × PV)} : Rel c g v x → RelK c g vs l → RelK c g ((k, v) :: vs) ((k, x) :: l)
inductive RelD (c : Cx) (g : Frz) : List DictEntry → List (Str × PV) → Prop
  | nil : RelD c g [] []
  | cons {h : Int} {k : Str} {t : Tok} {v : Value} {x : PV} {es : List DictEntry} {l : List (Str × PV)} : Rel c g v x → RelD c g es l → RelD c g (⟨h, .str k t, v⟩ :: es) ((k, x) :: l)
end

noncomputable def LeF (g g' : Frz) : Prop := ∀ a o, g a = some o → g' a = some o
theorem LeF.refl (g : Frz) : LeF g g := fun _ _ e => e
theorem LeF.trans {g g' g'' : Frz} (h : LeF g g') (k : LeF g' g'') : LeF g g'' := fun a o e => k a o (h a o e)

mutual
theorem Rel.mono {c : Cx} {g g' : Frz} (m : LeF g g') : ∀ {v : Value} {x : PV}, Rel c g v x → Rel c g' v x
  | _, _, .none => .none
  | _, _, .bool b => .bool b
  | _, _, .int i t => .int i t
  | _, _, .str s t => .str s t
  | _, _, .tup a b d r => .tup (m _ _ a) b d (RelL.mono m r)
  | _, _, .lst a b d e r => .lst (m _ _ a) b d e (RelL.mono m r)
  | _, _, .arr a b d r => .arr (m _ _ a) b d (RelL.mono m r)
  | _, _, .dic s a b r => .dic s (m _ _ a) b (RelK.mono m r)
  | _, _, .obj a b r => .obj (m _ _ a) (m _ _ b) (RelD.mono m r)
  | _, _, .pen => .pen
  | _, _, .raw v => .raw v
theorem RelL.mono {c : Cx} {g g' : Frz} (m : LeF g g') : ∀ {vs : List Value} {l : List PV}, RelL c g vs l → RelL c g' vs l
  | _, _, .nil => .nil
  | _, _, .cons h r => .cons (Rel.mono m h) (RelL.mono m r)
theorem RelK.mono {c : Cx} {g g' : Frz} (m : LeF g g') : ∀ {vs : List (Str × Value)} {l : List (Str × PV)}, RelK c g vs l → RelK c g' vs l
  | _, _, .nil => .nil
  | _, _, .cons h r => .cons (Rel.mono m h) (RelK.mono m r)
theorem RelD.mono {c : Cx} {g g' : Frz} (m : LeF g g') : ∀ {vs : List DictEntry} {l : List (Str × PV)}, RelD c g vs l → RelD c g' vs l
  | _, _, .nil => .nil
  | _, _, .cons h r => .cons (Rel.mono m h) (RelD.mono m r)
end
section
variable {c : Cx} {g : Frz} {v : Value}
theorem rel_none (h : Rel c g v .none) : v = .none := by cases h; rfl
theorem rel_bool {b : Bool} (h : Rel c g v (.bool b)) : v = .bool b := by cases h; rfl
theorem rel_int {i : Int} (h : Rel c g v (.int i)) : ∃ t, v = .int i t := by cases h; exact ⟨_, rfl⟩
theorem rel_str {s : Str} (h : Rel c g v (.str s)) : ∃ t, v = .str s t := by cases h; exact ⟨_, rfl⟩
theorem rel_pen (h : Rel c g v .pen) : v = .ref c.p := by cases h; rfl
theorem rel_tup {l : List PV} (h : Rel c g v (.tup l)) : ∃ (a : Addr) (o : Obj) (vs : Array Value) (n : Nat), v = .ref a ∧ g a = some o ∧ o.cls = .type "tuple" ∧ o.data = .seq vs n ∧ RelL c g vs.toList l := by
  cases h with
  | tup a b d r => exact ⟨_, _, _, _, rfl, a, b, d, r⟩
theorem rel_lst {l : List PV} (h : Rel c g v (.lst l)) : ∃ (a : Addr) (o : Obj) (vs : Array Value) (n : Nat), v = .ref a ∧ g a = some o ∧ o.cls = .type "list" ∧ o.data = .seq vs n ∧ o.dict = Option.none ∧ RelL c g vs.toList l := by
  cases h with
  | lst a b d e r => exact ⟨_, _, _, _, rfl, a, b, d, e, r⟩
theorem rel_arr {l : List PV} (h : Rel c g v (.arr l)) : ∃ (a : Addr) (o : Obj) (vs : Array Value) (n : Nat), v = .ref a ∧ g a = some o ∧ o.cls = .type "list" ∧ o.data = .seq vs n ∧ RelL c g vs.toList l := by
  cases h with
  | arr a b d r => exact ⟨_, _, _, _, rfl, a, b, d, r⟩
theorem rel_dic {l : List (Str × PV)} (h : Rel c g v (.dic l)) : ∃ (a : Addr) (o : Obj) (kvs : List (Str × Value)), v = .ref a ∧ (a == sysModules) = false ∧ g a = some o ∧ o.IsDictOf (strKind c.prog c.w) kvs ∧ RelK c g kvs l := by
  cases h with
  | dic s a b r => exact ⟨_, _, _, rfl, s, a, b, r⟩
theorem rel_obj {C : Addr} {l : List (Str × PV)} (h : Rel c g v (.obj C l)) : ∃ (a d : Addr) (es : List DictEntry) (n : Nat), v = .ref a ∧ g a = some (instObj C d) ∧ g d = some (dictOf es n) ∧ RelD c g es l := by
  cases h with
  | obj a b r => exact ⟨_, _, _, _, rfl, a, b, r⟩
theorem relL_nil {vs : List Value} (h : RelL c g vs []) : vs = [] := by cases h; rfl
theorem relL_cons {vs : List Value} {x : PV} {l : List PV} (h : RelL c g vs (x :: l)) : ∃ (u : Value) (us : List Value), vs = u :: us ∧ Rel c g u x ∧ RelL c g us l := by
  cases h with
  | cons a r => exact ⟨_, _, rfl, a, r⟩
end
theorem RelL.length {c : Cx} {g : Frz} : ∀ {vs : List Value} {l : List PV}, RelL c g vs l → vs.length = l.length
  | _, _, .nil => rfl
  | _, _, .cons _ r => by rw [List.length_cons, List.length_cons, r.length]
theorem RelL.append {c : Cx} {g : Frz} : ∀ {vs ws : List Value} {l k : List PV}, RelL c g vs l → RelL c g ws k → RelL c g (vs ++ ws) (l ++ k)
  | _, _, _, _, .nil, h => h
  | _, _, _, _, .cons a r, h => .cons a (r.append h)
theorem RelL.get {c : Cx} {g : Frz} : ∀ {vs : List Value} {l : List PV} {i : Nat} {x : PV}, RelL c g vs l → l[i]? = some x → ∃ v, vs[i]? = some v ∧ Rel c g v x
  | _, _, 0, x, .cons a _, e => by simp at e; subst e; exact ⟨_, by simp, a⟩
  | _, _, i + 1, x, .cons _ r, e => by simp at e; obtain ⟨v, h1, h2⟩ := r.get e; exact ⟨v, by simpa using h1, h2⟩
  | _, _, _, _, .nil, e => by simp at e
theorem RelL.get_none {c : Cx} {g : Frz} {vs : List Value} {l : List PV} {i : Nat} (h : RelL c g vs l) (e : l[i]? = none) : vs[i]? = none := by
  rw [List.getElem?_eq_none_iff] at e ⊢
  rw [h.length]; exact e

/-- g' is a larger frozen part of the later heap h'; all that stood still stands, but for W -/
structure Ext (W : Addr → Prop) (g : Frz) (h : Heap) (g' : Frz) (h' : Heap) : Prop where
  mono : LeF g g'
  new : ∀ a o, g' a = some o → g a = some o ∨ h.get? a = none
  keep : ∀ a o, h.get? a = some o → ¬ W a → h'.get? a = some o
  live : ∀ a, (h.get? a).isSome = true → (h'.get? a).isSome = true
  sub : LeF g' h'.get?
theorem Ext.refl {W : Addr → Prop} {g : Frz} {h : Heap} (s : LeF g h.get?) : Ext W g h g h := ⟨.refl g, fun _ _ e => .inl e, fun _ _ e _ => e, fun _ e => e, s⟩
theorem Ext.trans {W : Addr → Prop} {g g' g'' : Frz} {h h' h'' : Heap} (x : Ext W g h g' h') (y : Ext W g' h' g'' h'') : Ext W g h g'' h'' where
  mono := x.mono.trans y.mono
  new := fun a o e => by
    rcases y.new a o e with q | q
    · exact x.new a o q
    · refine .inr ?_
      cases z : h.get? a with
      | none => rfl
      | some o' => have := x.live a (by rw [z]; rfl); rw [q] at this; cases this
  keep := fun a o e n => y.keep a o (x.keep a o e n) n
  live := fun a e => y.live a (x.live a e)
  sub := y.sub
theorem Ext.weaken {W W' : Addr → Prop} {g g' : Frz} {h h' : Heap} (x : Ext W g h g' h') (s : ∀ a, W a → W' a) : Ext W' g h g' h' :=
  ⟨x.mono, x.new, fun a o e n => x.keep a o e fun q => n (s a q), x.live, x.sub⟩
noncomputable def W0 : Addr → Prop := fun _ => False
theorem Ext.any {W : Addr → Prop} {g g' : Frz} {h h' : Heap} (x : Ext W0 g h g' h') : Ext W g h g' h' := x.weaken fun _ q => q.elim
/-- a free address stays out of the frozen part -/
theorem Ext.out {W : Addr → Prop} {g g' : Frz} {h h' : Heap} (x : Ext W g h g' h') {a : Addr} (f : g a = none) (e : (h.get? a).isSome = true) : g' a = none := by
  cases q : g' a with
  | none => rfl
  | some o =>
    rcases x.new a o q with z | z
    · rw [f] at z; cases z
    · rw [z] at e; cases e
theorem Ext.outG {W : Addr → Prop} {g g' : Frz} {h h' : Heap} (x : Ext W g h g' h') {a : Addr} {o : Obj} (f : g a = none) (e : h.get? a = some o) : g' a = none := x.out f (by rw [e]; rfl)
/-- heap grown, the frozen part as it was -/
theorem Ext.grown {W : Addr → Prop} {g : Frz} {h h' : Heap} (s : LeF g h.get?) (k : ∀ a o, h.get? a = some o → h'.get? a = some o) : Ext W g h g h' :=
  ⟨.refl g, fun _ _ e => .inl e, fun a o e _ => k a o e, fun a e => by
    cases q : h.get? a with
    | none => rw [q] at e; cases e
    | some o => rw [k a o q]; rfl, fun a o e => k a o (s a o e)⟩
/-- one more object frozen -/
noncomputable def put (g : Frz) (a : Addr) (o : Obj) : Frz := fun b => if b = a then some o else g b
theorem put_same (g : Frz) (a : Addr) (o : Obj) : put g a o a = some o := if_pos rfl
theorem put_le {g : Frz} {a : Addr} {o : Obj} (f : g a = none) : LeF g (put g a o) := fun b o' e => by
  unfold put
  rw [if_neg (fun q => by rw [q, f] at e; cases e)]; exact e
theorem Ext.freeze {W : Addr → Prop} {g g' : Frz} {h h' : Heap} (x : Ext W g h g' h') {a : Addr} {o : Obj} (n : h.get? a = none) (f : g' a = none) (e : h'.get? a = some o) : Ext W g h (put g' a o) h' where
  mono := x.mono.trans (put_le f)
  new := fun b o' q => by
    unfold put at q
    by_cases hb : b = a
    · exact .inr (hb ▸ n)
    · rw [if_neg hb] at q; exact x.new b o' q
  keep := x.keep
  live := x.live
  sub := fun b o' q => by
    unfold put at q
    by_cases hb : b = a
    · rw [if_pos hb] at q; cases q; rw [hb]; exact e
    · rw [if_neg hb] at q; exact x.sub b o' q
theorem Ext.alloc {W : Addr → Prop} {g : Frz} {h : Heap} {o : Obj} (s : LeF g h.get?) (hf : o.isFreed = false) : Ext W g h (put g h.objs.size o) (h.push o) := by
  have n : h.get? h.objs.size = none := by
    cases q : h.get? h.objs.size with
    | none => rfl
    | some o' => exact absurd (Heap.lt_size q) (Nat.lt_irrefl _)
  have f : g h.objs.size = none := by
    cases q : g h.objs.size with
    | none => rfl
    | some o' => rw [s _ _ q] at n; cases n
  exact (Ext.grown s fun a o' e => Heap.get?_push_of_some _ e).freeze n f (Heap.get?_push_size _ hf)
/-- as Ext, but what may be changed may die -/
structure ExtN (W : Addr → Prop) (g : Frz) (h : Heap) (g' : Frz) (h' : Heap) : Prop where
  mono : LeF g g'
  new : ∀ a o, g' a = some o → g a = some o ∨ h.get? a = none
  keep : ∀ a o, h.get? a = some o → ¬ W a → h'.get? a = some o
  sub : LeF g' h'.get?
theorem Ext.n {W : Addr → Prop} {g g' : Frz} {h h' : Heap} (x : Ext W g h g' h') : ExtN W g h g' h' := ⟨x.mono, x.new, x.keep, x.sub⟩
theorem Ext.transN {W : Addr → Prop} {g g' g'' : Frz} {h h' h'' : Heap} (x : Ext W g h g' h') (y : ExtN W g' h' g'' h'') : ExtN W g h g'' h'' where
  mono := x.mono.trans y.mono
  new := fun a o e => by
    rcases y.new a o e with q | q
    · exact x.new a o q
    · refine .inr ?_
      cases z : h.get? a with
      | none => rfl
      | some o' => have := x.live a (by rw [z]; rfl); rw [q] at this; cases this
  keep := fun a o e n => y.keep a o (x.keep a o e n) n
  sub := y.sub
theorem ExtN.out {W : Addr → Prop} {g g' : Frz} {h h' : Heap} (x : ExtN W g h g' h') {a : Addr} (f : g a = none) (e : (h.get? a).isSome = true) : g' a = none := by
  cases q : g' a with
  | none => rfl
  | some o =>
    rcases x.new a o q with z | z
    · rw [f] at z; cases z
    · rw [z] at e; cases e
/-- what was made since, and has changed or died, is forgotten -/
theorem ExtN.close {W W' : Addr → Prop} {g0 g g' : Frz} {h0 h h' : Heap} (z : Ext W' g0 h0 g h) (y : ExtN W g h g' h') (hw : ∀ a, W a → W' a ∨ h0.get? a = none) (hl : ∀ a, W' a → (h'.get? a).isSome = true) : Ext W' g0 h0 g' h' where
  mono := z.mono.trans y.mono
  new := fun a o e => by
    rcases y.new a o e with q | q
    · exact z.new a o q
    · refine .inr ?_
      cases k : h0.get? a with
      | none => rfl
      | some o' => have := z.live a (by rw [k]; rfl); rw [q] at this; cases this
  keep := fun a o e n => y.keep a o (z.keep a o e n) fun q => by
    rcases hw a q with q | q
    · exact n q
    · rw [q] at e; cases e
  live := fun a e => by
    by_cases q : W' a
    · exact hl a q
    · cases k : h0.get? a with
      | none => rw [k] at e; cases e
      | some o =>
        rw [y.keep a o (z.keep a o k q) fun q' => by
          rcases hw a q' with q' | q'
          · exact q q'
          · rw [q'] at k; cases k]
        rfl
  sub := y.sub
theorem get_size {h : Heap} : h.get? h.objs.size = none := by
  cases q : h.get? h.objs.size with
  | none => rfl
  | some o' => exact absurd (Heap.lt_size q) (Nat.lt_irrefl _)
theorem none_of_sub {g : Frz} {h : Heap} {a : Addr} (s : LeF g h.get?) (n : h.get? a = none) : g a = none := by
  cases q : g a with
  | none => rfl
  | some o' => rw [s _ _ q] at n; cases n

noncomputable def PenAt (c : Cx) (g : Frz) (P : List Int × Int × Int) (h : Heap) : Prop :=
  ∃ l t u, h.IsList c.p #[.ref l, .int P.2.1 t, .int P.2.2 u] ∧ Rel c g (.ref l) (.lst (P.1.map .int))
noncomputable def PenOk (b : Nat) (P : List Int × Int × Int) : Prop := P.1.length ≤ 40 ∧ 0 ≤ P.2.1 ∧ P.2.1 + b ≤ 1000000 ∧ 0 ≤ P.2.2
noncomputable def PenB (c : Cx) (g : Frz) (s : PenS) (b : Nat) (h : Heap) : Prop := match s with
  | .off => True
  | .at P => PenAt c g P h
  | .any => ∃ P, PenAt c g P h ∧ PenOk b P
noncomputable def Wp (s : PenS) (p : Addr) : Addr → Prop := match s with
  | .off => fun _ => False
  | _ => fun a => a = p

theorem Wp.is {s : PenS} {p a : Addr} (h : Wp s p a) : s ≠ .off ∧ a = p := by
  cases s with
  | off => exact h.elim
  | «at» P => exact ⟨PenS.noConfusion, h⟩
  | any => exact ⟨PenS.noConfusion, h⟩

structure Slf where
  x : Addr
  dx : Addr
  C : Addr
noncomputable def SlfB (c : Cx) (sf : Slf) (g : Frz) (s : Option (List (Str × PV))) (h : Heap) : Prop := match s with
  | none => True
  | some fs => h.get? sf.x = some (instObj sf.C sf.dx) ∧ ∃ es n, h.get? sf.dx = some (dictOf es n) ∧ RelD c g es fs

structure Inv (c : Cx) (sf : Slf) (g : Frz) (σ : Sg) (b : Nat) (h : Heap) : Prop where
  base : LeF c.hb.get? g
  sub : LeF g h.get?
  pen : PenB c g σ.pen b h
  penF : σ.pen ≠ .off → g c.p = none
  slf : SlfB c sf g σ.slf h
  slfC : σ.slf ≠ none → sf.C = σ.cl
  slfF : σ.slf ≠ none → g sf.x = none ∧ g sf.dx = none ∧ sf.x ≠ sf.dx ∧ (σ.pen ≠ .off → sf.x ≠ c.p ∧ sf.dx ≠ c.p)

section
variable {c : Cx} {sf : Slf} {g g' : Frz} {σ : Sg} {b b' : Nat} {h h' : Heap}
theorem PenAt.mono {P : List Int × Int × Int} (m : LeF g g') (k : ∀ o, h.get? c.p = some o → h'.get? c.p = some o) (x : PenAt c g P h) : PenAt c g' P h' :=
  let ⟨l, t, u, ⟨o, e, q⟩, r⟩ := x; ⟨l, t, u, ⟨o, k _ e, q⟩, r.mono m⟩
theorem Inv.penLive (I : Inv c sf g σ b h) (n : σ.pen ≠ .off) : (h.get? c.p).isSome = true := by
  have q := I.pen
  unfold PenB at q
  split at q
  · rename_i e; exact absurd e n
  · obtain ⟨l, t, u, ⟨o, e, _⟩, _⟩ := q; rw [e]; rfl
  · obtain ⟨P, ⟨l, t, u, ⟨o, e, _⟩, _⟩, _⟩ := q; rw [e]; rfl
/-- all that the frame's state speaks of still stands -/
theorem Inv.extN {W : Addr → Prop} (I : Inv c sf g σ b h) (x : ExtN W g h g' h') (hp : σ.pen ≠ .off → ¬ W c.p) (hs : σ.slf ≠ none → ¬ W sf.x ∧ ¬ W sf.dx) : Inv c sf g' σ b h' where
  base := I.base.trans x.mono
  sub := x.sub
  pen := by
    have q := I.pen
    have n := hp
    unfold PenB at q ⊢
    split at q
    · exact trivial
    · rename_i e; exact q.mono x.mono fun o e' => x.keep _ o e' (n (by rw [e]; exact fun h => nomatch h))
    · rename_i e
      obtain ⟨P, y, z⟩ := q
      exact ⟨P, y.mono x.mono (fun o e' => x.keep _ o e' (n (by rw [e]; exact fun h => nomatch h))), z⟩
  penF := fun n => x.out (I.penF n) (I.penLive n)
  slf := by
    have q := I.slf
    have n := hs
    unfold SlfB at q ⊢
    split at q
    · exact trivial
    · rename_i e
      obtain ⟨n1, n2⟩ := n (by rw [e]; exact Option.some_ne_none _)
      obtain ⟨q1, es, n, q2, q3⟩ := q
      exact ⟨x.keep _ _ q1 n1, es, n, x.keep _ _ q2 n2, q3.mono x.mono⟩
  slfC := I.slfC
  slfF := fun n => by
    obtain ⟨f1, f2, f3⟩ := I.slfF n
    have q := I.slf
    unfold SlfB at q
    split at q
    · rename_i e; exact absurd e n
    · obtain ⟨q1, es, m, q2, q3⟩ := q
      exact ⟨x.out f1 (by rw [q1]; rfl), x.out f2 (by rw [q2]; rfl), f3⟩
theorem Inv.extW {W : Addr → Prop} (I : Inv c sf g σ b h) (x : Ext W g h g' h') (hp : σ.pen ≠ .off → ¬ W c.p) (hs : σ.slf ≠ none → ¬ W sf.x ∧ ¬ W sf.dx) : Inv c sf g' σ b h' := I.extN x.n hp hs
theorem Inv.slfLive (I : Inv c sf g σ b h) (n : σ.slf ≠ none) : (h.get? sf.x).isSome = true ∧ (h.get? sf.dx).isSome = true := by
  have q := I.slf
  unfold SlfB at q
  split at q
  · rename_i e; exact absurd e n
  · obtain ⟨q1, es, m, q2, q3⟩ := q
    rw [q1, q2]; exact ⟨rfl, rfl⟩
/-- all that stood still stands (the pen too) -/
theorem Inv.ext0 (I : Inv c sf g σ b h) (x : Ext W0 g h g' h') : Inv c sf g' σ b h' where
  base := I.base.trans x.mono
  sub := x.sub
  pen := by
    have q := I.pen
    have k : ∀ o, h.get? c.p = some o → h'.get? c.p = some o := fun o e => x.keep _ o e (fun q => q)
    unfold PenB at q ⊢
    split at q
    · exact trivial
    · exact q.mono x.mono k
    · obtain ⟨P, y, z⟩ := q; exact ⟨P, y.mono x.mono k, z⟩
  penF := fun n => x.out (I.penF n) (I.penLive n)
  slf := by
    have q := I.slf
    unfold SlfB at q ⊢
    split at q
    · exact trivial
    · obtain ⟨q1, es, n, q2, q3⟩ := q
      exact ⟨x.keep _ _ q1 fun q => q, es, n, x.keep _ _ q2 (fun q => q), q3.mono x.mono⟩
  slfC := I.slfC
  slfF := fun n => by
    obtain ⟨f1, f2, f3⟩ := I.slfF n
    have q := I.slf
    unfold SlfB at q
    split at q
    · rename_i e; exact absurd e n
    · obtain ⟨q1, es, m, q2, q3⟩ := q
      exact ⟨x.outG f1 q1, x.outG f2 q2, f3⟩
/-- as ext0, where the pen has turned -/
theorem Inv.extP (I : Inv c sf g σ b h) (x : Ext (Wp σ.pen c.p) g h g' h') (hp : PenB c g' σ.pen b' h') : Inv c sf g' σ b' h' where
  base := I.base.trans x.mono
  sub := x.sub
  pen := hp
  penF := fun n => x.out (I.penF n) (I.penLive n)
  slf := by
    have q := I.slf
    unfold SlfB at q ⊢
    split at q
    · exact trivial
    · rename_i fs e
      obtain ⟨q1, es, n, q2, q3⟩ := q
      obtain ⟨_, _, _, f⟩ := I.slfF (by rw [e]; exact Option.some_ne_none _)
      have nw : ∀ a, (σ.pen ≠ .off → a ≠ c.p) → ¬ Wp σ.pen c.p a := fun a ha hw => ha hw.is.1 hw.is.2
      exact ⟨x.keep _ _ q1 (nw _ fun n => (f n).1), es, n, x.keep _ _ q2 (nw _ fun n => (f n).2), q3.mono x.mono⟩
  slfC := I.slfC
  slfF := fun n => by
    obtain ⟨f1, f2, f3⟩ := I.slfF n
    have q := I.slf
    unfold SlfB at q
    split at q
    · rename_i e; exact absurd e n
    · obtain ⟨q1, es, m, q2, q3⟩ := q
      exact ⟨x.outG f1 q1, x.outG f2 q2, f3⟩
end

/-- at this state the computation m is served by the tree t -/
noncomputable def At {α β : Type} (c : Cx) (sf : Slf) (A : Around) (σ : Sg) (R : Frz → α → β → Prop) (m : Sem α) (t : T β) (g : Frz) (b : Nat) (s : Shared) : Prop :=
  ∀ (Q : α → Shared → Prop) (E : Value → Shared → Prop) (post : Nat → β → Prop), Sat b t post →
    (∀ v r b' g' h' tk, post b' r → Ext (Wp σ.pen c.p) g s.heap g' h' → Inv c sf g' σ b' h' → R g' v r → Q v { s with heap := h', toks := tk }) →
    wpAny (model c.prog c.w) A m Q E s

section
variable {α β γ δ : Type} {c : Cx} {sf : Slf} {A : Around} {σ : Sg} {R : Frz → α → β → Prop} {R' : Frz → γ → δ → Prop} {g : Frz} {b : Nat} {s : Shared}
theorem at_bind {m : Sem α} {t : T β} {f : α → Sem γ} {k : β → T δ} (h1 : At c sf A σ R m t g b s)
    (h2 : ∀ v r b' g' h' tk, Ext (Wp σ.pen c.p) g s.heap g' h' → Inv c sf g' σ b' h' → R g' v r → At c sf A σ R' (f v) (k r) g' b' { s with heap := h', toks := tk }) :
    At c sf A σ R' (m >>= f) (t.bind k) g b s := by
  intro Q E post hs hq
  refine wpAny_bind (h1 _ _ _ (sat_bind.mp hs) fun v r b' g' h' tk hp x I hr => ?_)
  exact h2 v r b' g' h' tk x I hr Q E post hp fun v2 r2 b2 g2 h3 tk2 hp2 x2 I2 hr2 => hq v2 r2 b2 g2 h3 tk2 hp2 (x.trans x2) I2 hr2
theorem at_map {m : Sem α} {t : T β} {f : α → Sem γ} {k : β → T δ} (h1 : At c sf A σ R m t g b s)
    (h2 : ∀ v r b' g' h' tk, Ext (Wp σ.pen c.p) g s.heap g' h' → Inv c sf g' σ b' h' → R g' v r → At c sf A σ R' (f v) (k r) g' b' { s with heap := h', toks := tk }) :
    At c sf A σ R' (m >>= f) (t.bind k) g b s := at_bind h1 h2
/-- a step of the model that the tree does not show -/
theorem at_skip {m : Sem α} {f : α → Sem γ} {t : T δ} (h1 : ∀ Q E, (∀ v, Q v s) → wpAny (model c.prog c.w) A m Q E s) (h2 : ∀ v, At c sf A σ R' (f v) t g b s) : At c sf A σ R' (m >>= f) t g b s :=
  fun Q E post hs hq => wpAny_bind (h1 _ _ fun v => h2 v Q E post hs hq)
theorem at_standAt {pos : Pos} {f : Unit → Sem γ} {t : T δ} (h : At c sf A σ R' (f ()) t g b s) : At c sf A σ R' (standAt pos >>= f) t g b s :=
  fun Q E post hs hq => wpAny_bind (wpAny_standAt (h Q E post hs hq))
theorem at_holding {vs : List Value} {m : Sem α} {t : T β} (h : At c sf A σ R m t g b s) : At c sf A σ R (holding vs m) t g b s :=
  fun Q E post hs hq => wpAny_holding (h Q E post hs hq)
theorem at_fail {m : Sem α} : At c sf A σ R m .fail g b s := fun _ _ _ hs _ => (sat_fail.mp hs).elim
theorem at_br {m : Sem α} {z : Bool} {x y : T β} (h1 : z = true → At c sf A σ R m x g b s) (h2 : z = false → At c sf A σ R m y g b s) : At c sf A σ R m (.br z x y) g b s :=
  fun Q E post hs hq => by
    have := sat_br.mp hs
    cases z with
    | true => exact h1 rfl Q E post (this.1 rfl) hq
    | false => exact h2 rfl Q E post (this.2 rfl) hq
theorem at_ok1 {m : Sem α} {z : Bool} {t : T β} (h1 : z = true → At c sf A σ R m t g b s) : At c sf A σ R m (ok1 z t) g b s := at_br h1 fun _ => at_fail
theorem at_need {m : Sem α} {o : Option PV} {k : PV → T β} (h : ∀ v, o = some v → At c sf A σ R m (k v) g b s) : At c sf A σ R m (.need o k) g b s :=
  fun Q E post hs hq => by
    obtain ⟨v, e, hs⟩ := sat_need.mp hs
    exact h v e Q E post hs hq
theorem at_needB {m : Sem α} {o : Option Bool} {k : Bool → T β} (h : ∀ z, o = some z → At c sf A σ R m (k z) g b s) : At c sf A σ R m (needB o k) g b s :=
  at_br (fun e => by
    cases o with
    | none => cases e
    | some z => exact h z rfl) fun _ => at_fail
theorem at_optT {χ : Type} {m : Sem α} {o : Option χ} {k : χ → T β} (h : ∀ z, o = some z → At c sf A σ R m (k z) g b s) : At c sf A σ R m (optT o k) g b s := by
  cases o with
  | none => exact at_fail
  | some z => exact h z rfl
/-- a leaf: the heap stays -/
theorem at_leaf {m : Sem α} {r : β} (I : Inv c sf g σ b s.heap) (h : ∀ Q E, (∀ v tk, R g v r → Q v { s with toks := tk }) → wpAny (model c.prog c.w) A m Q E s) : At c sf A σ R m (.ret r) g b s :=
  fun Q E post hs hq => h Q E fun v tk hr => hq v r b g s.heap tk (sat_ret.mp hs) (Ext.refl I.sub) I hr
theorem at_pure {a : α} {r : β} (I : Inv c sf g σ b s.heap) (h : R g a r) : At c sf A σ R (pure a) (.ret r) g b s := at_leaf I fun _ _ q => wpAny_pure (q a s.toks h)
/-- a leaf that makes objects -/
theorem at_made {m : Sem α} {r : β} (I : Inv c sf g σ b s.heap)
    (h : ∀ Q E, (∀ v g' h' tk, Ext W0 g s.heap g' h' → R g' v r → Q v { s with heap := h', toks := tk }) → wpAny (model c.prog c.w) A m Q E s) : At c sf A σ R m (.ret r) g b s :=
  fun Q E post hs hq => h Q E fun v g' h' tk x hr => hq v r b g' h' tk (sat_ret.mp hs) x.any (I.ext0 x) hr
theorem at_mono {m : Sem α} {t : T β} {R2 : Frz → α → β → Prop} (h : At c sf A σ R m t g b s) (hR : ∀ g v r, R g v r → R2 g v r) : At c sf A σ R2 m t g b s :=
  fun Q E post hs hq => h Q E post hs fun v r b' g' h' tk hp x I hr => hq v r b' g' h' tk hp x I (hR _ _ _ hr)
theorem at_eq {m m' : Sem α} {t : T β} (e : m = m') (h : At c sf A σ R m' t g b s) : At c sf A σ R m t g b s := e ▸ h
/-- a rule that hands on the value, made of another tree -/
theorem at_of {m : Sem α} {t : T β} {m' : Sem γ} {t' : T δ} (h : At c sf A σ R' m' t' g b s)
    (k : ∀ Q E post, Sat b t post → (∀ v r b' g' h' tk, post b' r → Ext (Wp σ.pen c.p) g s.heap g' h' → Inv c sf g' σ b' h' → R g' v r → Q v { s with heap := h', toks := tk }) →
      (∀ Q' E' post', Sat b t' post' → (∀ v r b' g' h' tk, post' b' r → Ext (Wp σ.pen c.p) g s.heap g' h' → Inv c sf g' σ b' h' → R' g' v r → Q' v { s with heap := h', toks := tk }) → wpAny (model c.prog c.w) A m' Q' E' s) →
      wpAny (model c.prog c.w) A m Q E s) : At c sf A σ R m t g b s :=
  fun Q E post hs hq => k Q E post hs hq fun Q' E' post' hs' hq' => h Q' E' post' hs' hq'
end

noncomputable def RelI (_ : Frz) (v : Bool) (x : Bool) : Prop := v = x
end Mine

namespace Mine

mutual
theorem rel_reads {c : Cx} {g : Frz} {h : Heap} (s : LeF g h.get?) : ∀ {v : Value} {x : PV} {d : PyData}, Rel c g v x → toPy x = some d → ∃ as, Reads h v d as
  | _, _, d, .none, e => by rw [toPy] at e; cases e; exact ⟨_, .none⟩
  | _, _, d, .bool b, e => by rw [toPy] at e; cases e; exact ⟨_, .bool b⟩
  | _, _, d, .int i t, e => by rw [toPy] at e; cases e; exact ⟨_, .int i t⟩
  | _, _, d, .str x t, e => by rw [toPy] at e; cases e; exact ⟨_, .str x t⟩
  | _, .tup l, d, .tup a b q r, e => by
    rw [toPy] at e
    split at e
    · rename_i ds hd
      cases e
      obtain ⟨as, z⟩ := relL_reads s r hd
      exact ⟨_, .tuple (s _ _ a) b q z⟩
    · cases e
  | _, .lst l, d, .lst a b q _ r, e => by
    rw [toPy] at e
    split at e
    · rename_i ds hd
      cases e
      obtain ⟨as, z⟩ := relL_reads s r hd
      exact ⟨_, .list (s _ _ a) b q z⟩
    · cases e
  | _, _, d, .arr _ _ _ _, e => by rw [toPy] at e; cases e
  | _, _, d, .dic _ _ _ _, e => by rw [toPy] at e; cases e
  | _, _, d, .obj _ _ _, e => by rw [toPy] at e; cases e
  | _, _, d, .pen, e => by rw [toPy] at e; cases e
  | _, _, d, .raw _, e => by rw [toPy] at e; cases e
theorem relL_reads {c : Cx} {g : Frz} {h : Heap} (s : LeF g h.get?) : ∀ {vs : List Value} {l : List PV} {ds : List PyData}, RelL c g vs l → toPyL l = some ds → ∃ as, ReadsAll h vs ds as
  | _, _, ds, .nil, e => by rw [toPyL] at e; cases e; exact ⟨_, .nil⟩
  | _, x :: l, ds, .cons a r, e => by
    rw [toPyL] at e
    split at e
    · rename_i d hd
      split at e
      · rename_i es he
        cases e
        obtain ⟨as, z⟩ := rel_reads s a hd
        obtain ⟨bs, y⟩ := relL_reads s r he
        exact ⟨_, .cons z y⟩
      · cases e
    · cases e
end

theorem cpsOk_all : ∀ {l : List Nat}, cpsOk l = true → ∀ c ∈ l, c < 0x110000
  | [], _, c, h => by cases h
  | a :: l, e, c, h => by
    rw [cpsOk] at e
    cases q : Nat.blt a 0x110000 with
    | false => rw [q] at e; cases e
    | true =>
      rw [q] at e
      rcases List.mem_cons.mp h with rfl | h
      · simpa [Nat.blt, Nat.lt_iff_add_one_le] using q
      · exact cpsOk_all e c h
theorem strOk_of {s : Str} (e : cpsOk s.cps.toList = true) : PyData.strOk s = true := by
  unfold PyData.strOk
  rw [← Array.all_toList]
  exact List.all_eq_true.mpr fun c h => decide_eq_true (cpsOk_all e c h)
mutual
theorem pyOk_of : ∀ {n : Nat} {d : PyData}, pyOk n d = true → d.canLay0 = true ∧ d.depth ≤ n
  | n, .none, _ => by simp [PyData.canLay0, PyData.depth]
  | n, .bool _, _ => by simp [PyData.canLay0, PyData.depth]
  | n, .int _, _ => by simp [PyData.canLay0, PyData.depth]
  | n, .str s, e => by
    rw [pyOk] at e
    simp [PyData.canLay0, PyData.depth, strOk_of e]
  | 0, .tuple l, e => by rw [pyOk] at e; cases e
  | n + 1, .tuple l, e => by
    rw [pyOk] at e
    have := pyOkL_of e
    simp only [PyData.canLay0, PyData.depth]
    exact ⟨this.1, by have := this.2; omega⟩
  | 0, .list l, e => by rw [pyOk] at e; cases e
  | n + 1, .list l, e => by
    rw [pyOk] at e
    have := pyOkL_of e
    simp only [PyData.canLay0, PyData.depth]
    exact ⟨this.1, by have := this.2; omega⟩
  | n, .dict _, e => by rw [pyOk] at e; cases e
theorem pyOkL_of : ∀ {n : Nat} {l : List PyData}, pyOkL n l = true → PyData.canLayAll0 l = true ∧ PyData.depthAll l ≤ n
  | n, [], _ => by simp [PyData.canLayAll0, PyData.depthAll]
  | n, d :: l, e => by
    rw [pyOkL] at e
    cases q : pyOk n d with
    | false => rw [q] at e; cases e
    | true =>
      rw [q] at e
      have a := pyOk_of q
      have b := pyOkL_of e
      simp only [PyData.canLayAll0, PyData.depthAll, a.1, b.1, Bool.and_self, true_and]
      have := a.2; have := b.2; omega
end
mutual
theorem eqD_eq : ∀ x y : PyData, eqD x y = PyData.eqv x y
  | .none, y => by cases y <;> rfl
  | .bool a, y => by cases y <;> rfl
  | .int a, y => by cases y <;> rfl
  | .str a, y => by cases y <;> first | rfl | exact strEq_beq _ _
  | .list xs, y => by
    cases y with
    | list ys => exact eqDL_eq xs ys
    | _ => rfl
  | .tuple xs, y => by
    cases y with
    | tuple ys => exact eqDL_eq xs ys
    | _ => rfl
  | .dict _, y => by cases y <;> rfl
theorem eqDL_eq : ∀ xs ys : List PyData, eqDL xs ys = PyData.eqvAll xs ys
  | [], ys => by cases ys <;> simp [eqDL, PyData.eqvAll]
  | x :: xs, ys => by
    cases ys with
    | nil => simp [eqDL, PyData.eqvAll]
    | cons y ys => rw [eqDL, PyData.eqvAll, eqD_eq x y, eqDL_eq xs ys]
end
theorem eqD_any (d : PyData) : ∀ l : List PyData, (l.any fun y => eqD y d) = l.any fun y => PyData.eqv y d
  | [] => rfl
  | x :: l => by rw [List.any_cons, List.any_cons, eqD_eq, eqD_any d l]

/-- room for n more calls within one another -/
structure Room (A : Around) (n : Nat) : Prop where
  d : A.depth + n < recursionLimit
  u : A.units + 20 * n + 100 < cLine
  h : A.handled = none
theorem Room.le {A : Around} {n m : Nat} (r : Room A n) (h : m ≤ n) : Room A m := ⟨by have := r.d; omega, by have := r.u; omega, r.h⟩
theorem Room.in1 {A : Around} {n : Nat} (r : Room A (n + 1)) : Room A.in1 n := ⟨by have := r.d; show A.depth + n < _; omega, by have := r.u; show A.units + 1 + 20 * n + 100 < _; omega, r.h⟩

noncomputable def RelB (_ : Frz) (v : Value) (r : Bool) : Prop := v = .bool r

section
variable {c : Cx} {sf : Slf} {A : Around} {σ : Sg} {g : Frz} {b : Nat} {s : Shared} {va vb : Value} {x y : PV}

theorem at_truth {n : Nat} (I : Inv c sf g σ b s.heap) (h : Rel c g va x) : At c sf A σ (fun _ v r => v = r) (truthy va) (truth x) g b s := by
  cases x with
  | bool z => cases h; exact at_leaf I fun Q E q => wpAny_truthy_bool (q _ s.toks rfl)
  | _ => exact at_fail

theorem eqOp_some {z : Bool} (e : eqOp x y = some z) : ∃ d k, toPy x = some d ∧ toPy y = some k ∧ pyOk 8 d = true ∧ pyOk 8 k = true ∧ z = PyData.eqv d k := by
  unfold eqOp at e
  split at e
  · rename_i d hd
    split at e
    · rename_i k hk
      split at e
      · split at e
        · cases e; exact ⟨d, k, hd, hk, by assumption, by assumption, eqD_eq d k⟩
        · cases e
      · cases e
    · cases e
  · cases e
theorem room_eq {n : Nat} (R : Room A n) {d k : PyData} (hd : pyOk 8 d = true) : A.units + min d.depth k.depth < cLine := by
  have := (pyOk_of hd).2
  have := R.u
  omega
theorem at_eq_op {n : Nat} (R : Room A n) (I : Inv c sf g σ b s.heap) (ha : Rel c g va x) (hb : Rel c g vb y) : At c sf A σ RelB (compareOp .Eq va vb) (needB (eqOp x y) .ret) g b s :=
  at_needB fun z e => by
    obtain ⟨d, k, hd, hk, od, ok, rfl⟩ := eqOp_some e
    obtain ⟨as, ra⟩ := rel_reads I.sub ha hd
    obtain ⟨bs, rb⟩ := rel_reads I.sub hb hk
    exact at_leaf I fun Q E q => SeqAt.compareEq_reads ra rb (pyOk_of od).1 (pyOk_of ok).1 (room_eq R od) (q _ s.toks rfl)
theorem at_ne_op {n : Nat} (R : Room A n) (I : Inv c sf g σ b s.heap) (ha : Rel c g va x) (hb : Rel c g vb y) : At c sf A σ RelB (compareOp .NotEq va vb) (needB (eqOp x y) fun z => .ret (!z)) g b s :=
  at_needB fun z e => by
    obtain ⟨d, k, hd, hk, od, ok, rfl⟩ := eqOp_some e
    obtain ⟨as, ra⟩ := rel_reads I.sub ha hd
    obtain ⟨bs, rb⟩ := rel_reads I.sub hb hk
    exact at_leaf I fun Q E q => SeqAt.compareNe_reads ra rb (pyOk_of od).1 (pyOk_of ok).1 (room_eq R od) (q _ s.toks rfl)

theorem look_kvs {kvs : List (Str × Value)} {l : List (Str × PV)} (h : RelK c g kvs l) (k : Str) : (look k l).isSome = (valueAt kvs k).isSome ∧ ∀ x, look k l = some x → ∃ v, valueAt kvs k = some v ∧ Rel c g v x := by
  induction l generalizing kvs with
  | nil => cases h; exact ⟨rfl, fun x e => by cases e⟩
  | cons p l ih =>
    obtain ⟨k', y⟩ := p
    cases h with
    | cons hv r =>
      rename_i v vs
      have := ih r
      rw [look_cons]
      by_cases q : k' = k
      · subst q
        rw [if_pos rfl]
        have e : valueAt ((k', v) :: vs) k' = some v := by simp [valueAt]
        rw [e]
        exact ⟨rfl, fun x e => by cases e; exact ⟨v, rfl, hv⟩⟩
      · rw [if_neg q]
        have e : valueAt ((k', v) :: vs) k = valueAt vs k := by simp [valueAt, q]
        rw [e]
        exact ih r
/-- the two lists of a container's items, and what is sought -/
theorem inL_some {l : List PV} {z : Bool} (e : (match toPy x with
    | some d => match toPyL l with
      | some ys => match pyOk 8 d with
        | true => match pyOkL 8 ys with
          | true => some (ys.any fun y => eqD y d)
          | false => none
        | false => none
      | none => none
    | none => none) = some z) : ∃ d ys, toPy x = some d ∧ toPyL l = some ys ∧ pyOk 8 d = true ∧ pyOkL 8 ys = true ∧ z = ys.any fun y => PyData.eqv y d := by
  split at e
  · rename_i d hd
    split at e
    · rename_i ys hy
      split at e
      · split at e
        · cases e; exact ⟨d, ys, hd, hy, by assumption, by assumption, eqD_any d ys⟩
        · cases e
      · cases e
    · cases e
  · cases e
theorem room_in {n : Nat} (R : Room A n) {d : PyData} {l : List PyData} (hd : pyOk 8 d = true) : A.units + 1 + min (PyData.depthAll l) d.depth < cLine := by
  have := (pyOk_of hd).2
  have := R.u
  omega
theorem at_in_op {n : Nat} (R : Room A n) (I : Inv c sf g σ b s.heap) (ha : Rel c g va x) (hb : Rel c g vb y) :
    At c sf A σ RelB (compareOp .In va vb) (needB (inOp x y) .ret) g b s ∧ At c sf A σ RelB (compareOp .NotIn va vb) (needB (inOp x y) fun z => .ret (!z)) g b s := by
  have key : ∀ z, inOp x y = some z → (∀ Q E, (∀ v tk, v = Value.bool z → Q v { s with toks := tk }) → wpAny (model c.prog c.w) A (compareOp .In va vb) Q E s) ∧
      (∀ Q E, (∀ v tk, v = Value.bool (!z) → Q v { s with toks := tk }) → wpAny (model c.prog c.w) A (compareOp .NotIn va vb) Q E s) := by
    intro z e
    unfold inOp at e
    cases hb with
    | tup a o d r =>
      obtain ⟨k, ys, hk, hy, ok, oy, rfl⟩ := inL_some e
      obtain ⟨as, ra⟩ := rel_reads I.sub ha hk
      obtain ⟨bs, rb⟩ := relL_reads I.sub r hy
      exact ⟨fun Q E q => SeqAt.in_tuple_reads (.tuple (I.sub _ _ a) o d rb) ra (pyOkL_of oy).1 (pyOk_of ok).1 (room_in R ok) (q _ s.toks rfl),
        fun Q E q => SeqAt.notIn_tuple_reads (.tuple (I.sub _ _ a) o d rb) ra (pyOkL_of oy).1 (pyOk_of ok).1 (room_in R ok) (q _ s.toks rfl)⟩
    | lst a o d _ r =>
      obtain ⟨k, ys, hk, hy, ok, oy, rfl⟩ := inL_some e
      obtain ⟨as, ra⟩ := rel_reads I.sub ha hk
      obtain ⟨bs, rb⟩ := relL_reads I.sub r hy
      exact ⟨fun Q E q => SeqAt.in_list_reads (.list (I.sub _ _ a) o d rb) ra (pyOkL_of oy).1 (pyOk_of ok).1 (room_in R ok) (q _ s.toks rfl),
        fun Q E q => SeqAt.notIn_list_reads (.list (I.sub _ _ a) o d rb) ra (pyOkL_of oy).1 (pyOk_of ok).1 (room_in R ok) (q _ s.toks rfl)⟩
    | str t u =>
      cases x with
      | str k =>
        obtain ⟨_, rfl⟩ := rel_str ha
        simp only [Option.some.injEq] at e
        subst e
        exact ⟨fun Q E q => PyProof.Rows.in_str (q _ s.toks rfl), fun Q E q => PyProof.Rows.notIn_str (q _ s.toks rfl)⟩
      | _ => cases e
    | dic sm a d r =>
      cases x with
      | str k =>
        obtain ⟨_, rfl⟩ := rel_str ha
        simp only [Option.some.injEq] at e
        subst e
        have D : Heap.DictOf (strKind c.prog c.w) s.heap _ _ := Heap.dictOf_iff.mpr ⟨_, I.sub _ _ a, d⟩
        have M := D.mapOf
        have L := (look_kvs r k).1
        exact ⟨fun Q E q => wpAny_in_of (strKind_is _ _ _ _) sm M (q _ _ (by rw [L])), fun Q E q => wpAny_notIn_of (strKind_is _ _ _ _) sm M (q _ _ (by rw [L]))⟩
      | _ => cases e
    | _ => cases e
  exact ⟨at_needB fun z e => at_leaf I (key z e).1, at_needB fun z e => at_leaf I (key z e).2⟩
theorem at_cmp {n : Nat} (R : Room A n) (op : CmpOp) (I : Inv c sf g σ b s.heap) (ha : Rel c g va x) (hb : Rel c g vb y) : At c sf A σ RelB (compareOp op va vb) (cmp op x y) g b s := by
  cases op with
  | Eq => exact at_eq_op R I ha hb
  | NotEq => exact at_ne_op R I ha hb
  | In => exact (at_in_op R I ha hb).1
  | NotIn => exact (at_in_op R I ha hb).2
  | Lt =>
    cases x with
    | int i => cases ha; cases y with
      | int j => cases hb; exact at_leaf I fun Q E q => PyProof.Rows.lt_int (q _ s.toks rfl)
      | _ => exact at_fail
    | _ => exact at_fail
  | LtE =>
    cases x with
    | int i => cases ha; cases y with
      | int j => cases hb; exact at_leaf I fun Q E q => PyProof.Rows.le_int (q _ s.toks rfl)
      | _ => exact at_fail
    | _ => exact at_fail
  | Gt =>
    cases x with
    | int i => cases ha; cases y with
      | int j => cases hb; exact at_leaf I fun Q E q => PyProof.Rows.gt_int (q _ s.toks rfl)
      | _ => exact at_fail
    | _ => exact at_fail
  | GtE =>
    cases x with
    | int i => cases ha; cases y with
      | int j => cases hb; exact at_leaf I fun Q E q => PyProof.Rows.ge_int (q _ s.toks rfl)
      | _ => exact at_fail
    | _ => exact at_fail
  | Is => exact at_fail
  | IsNot => exact at_fail
end
end Mine

namespace Mine

theorem natAbs_lt {x : Int} (h : fitsI x = true) : x.natAbs < 2 ^ 64 := of_decide_eq_true h
theorem bits64 {x : Int} (h : fitsI x = true) : Builtin.Int.intBits x ≤ 64 := by
  have := natAbs_lt h
  exact intBits_le_64 (by omega) (by omega)

theorem fsl_eq (s : Str) (lo hi : Option Int) : fsl s lo hi = Txt.slice s lo hi := by
  have ln : s.length = s.cps.toList.length := by simp [Str.length]
  unfold fsl
  split
  · split
    · rename_i n
      by_cases h : n ≤ s.cps.toList.length
      · have := beq_iff_eq.mp (slice_closes_to (x := s) (j := (n : Int)) ⟨by omega, by omega⟩)
        show _ = Txt.slice s none (some (n : Int))
        rw [this]
        simp
      · have e : Builtin.Str.strSliceIndices none (some (n : Int)) 1 s.length = Builtin.Str.strSliceIndices none (some (s.length : Int)) 1 s.length := by
          have h0 : ¬ ((n : Int) < 0) := by omega
          have h1 : ¬ ((s.length : Int) < 0) := by omega
          have h2 : min (n : Int) (s.length : Int) = s.length := by rw [ln]; omega
          have h3 : min (s.length : Int) (s.length : Int) = s.length := by omega
          simp only [Builtin.Str.strSliceIndices, h0, h1, h2, h3, if_false, show (1 : Int) > 0 by decide, if_true]
        have e2 : Txt.slice s none (some (Int.ofNat n)) = Txt.slice s none (some (s.length : Int)) := by
          show Txt.slice s none (some (n : Int)) = _
          unfold Txt.slice
          rw [e]
        rw [e2, beq_iff_eq.mp (slice_closes_to (x := s) (j := (s.length : Int)) ⟨by omega, by rw [ln]; omega⟩), List.take_of_length_le (by omega), List.take_of_length_le (by simp [Str.length])]
        simp
    · rfl
  · rename_i n
    split
    · by_cases h : n ≤ s.cps.toList.length
      · show _ = Txt.slice s (some (n : Int)) none
        rw [slice_from_eq (b := (s.length : Int)) (by omega) (by rw [ln]; omega) rfl]
        rw [List.take_of_length_le (by rw [List.length_drop, ln]; omega)]
        simp
      · show _ = Txt.slice s (some (n : Int)) none
        rw [slice_beyond (by rw [ln]; omega), List.drop_of_length_le (by omega)]
        rfl
    · rfl
  · rfl

section
variable {c : Cx} {sf : Slf} {A : Around} {σ : Sg} {g : Frz} {b : Nat} {s : Shared} {va vb : Value} {x y : PV}

theorem addlists {l k : Addr} {o o' : Obj} {vs ws : Array Value} {n m : Nat} {Q : Value → Shared → Prop} {E} (hl : s.heap.get? l = some o) (hc : o.cls = .type "list") (hd : o.data = .seq vs n)
    (hk : s.heap.get? k = some o') (hc' : o'.cls = .type "list") (hd' : o'.data = .seq ws m) (hz : vs.size + ws.size ≤ sizeLine)
    (h : Q (.ref s.heap.objs.size) { s with heap := s.heap.push { cls := .type "list", data := .seq (vs ++ ws) } }) : wpAny (model c.prog c.w) A (binaryOp .Add (.ref l) (.ref k)) Q E s := by
  obtain ⟨cls, dd, data, sl⟩ := o
  obtain ⟨cls2, dd2, data2, sl2⟩ := o'
  simp only at hc hd hc' hd'
  subst hc hd hc' hd'
  exact concat_meets ⟨_, hl, rfl⟩ ⟨_, hk, rfl⟩ noFill_list_add seq_list_add PySem.F.slot_list_add PySem.F.entry_list_add (PySem.F.args_list_add_2 _ _) (list_addW l k vs ws n m dd dd2 sl sl2 hz) ⟨hl, hk, h⟩

theorem at_binop (op : Operator) (I : Inv c sf g σ b s.heap) (ha : Rel c g va x) (hb : Rel c g vb y) : At c sf A σ (Rel c) (binaryOp op va vb) (binop op x y) g b s := by
  cases x with
  | int i =>
    obtain ⟨_, rfl⟩ := rel_int ha
    cases y with
    | int j =>
      obtain ⟨_, rfl⟩ := rel_int hb
      cases op with
      | Add => exact at_leaf I fun Q E q => PyProof.Rows.add_int (q _ _ (.int _ _))
      | Sub => exact at_leaf I fun Q E q => PyProof.Rows.sub_int' (q _ _ (.int _ _))
      | Mult =>
        refine at_ok1 fun h1 => at_ok1 fun h2 => at_leaf I fun Q E q => PyProof.Rows.mul_int (q _ _ (.int _ _)) ?_
        unfold IntMulOk
        have := bits64 h1
        have h3 : decide (Builtin.Int.intBits i > shortFactorBits) = false := decide_eq_false (by show ¬ Builtin.Int.intBits i > 64; omega)
        rw [h3]; simp
      | Mod => exact at_ok1 fun h1 => at_leaf I fun Q E q => PyProof.Rows.mod_int' (of_decide_eq_true h1) (q _ _ (.int _ _))
      | FloorDiv => exact at_ok1 fun h1 => at_ok1 fun h2 => at_leaf I fun Q E q => PyProof.Rows.floordiv_int (of_decide_eq_true h1) (q _ _ (.int _ _)) (.inl (PyProof.noPylong_small (of_decide_eq_true h2)))
      | Pow =>
        refine at_ok1 fun h1 => at_ok1 fun h2 => at_ok1 fun h3 => at_leaf I fun Q E q => PyProof.Rows.pow_int (of_decide_eq_true h1) ?_ (q _ _ (.int _ _))
        have h1 := of_decide_eq_true h1
        have h2 := of_decide_eq_true h2
        have h3 := bits64 h3
        have h4 : (Builtin.Int.intBits i : Int) * j ≤ 64 * 100 := Int.mul_le_mul (by omega) h2 h1 (by omega)
        omega
      | LShift =>
        refine at_ok1 fun h1 => at_ok1 fun h2 => at_ok1 fun h3 => at_leaf I fun Q E q => PyProof.Rows.lshift_int_small (of_decide_eq_true h1) (by have := of_decide_eq_true h2; omega) (natAbs_lt h3) (q _ _ (.int _ _))
      | RShift => exact at_ok1 fun h1 => at_leaf I fun Q E q => PyProof.Rows.rshift_int (of_decide_eq_true h1) (q _ _ (.int _ _))
      | BitAnd => exact at_leaf I fun Q E q => PyProof.Rows.and_int (q _ _ (.int _ _))
      | _ => exact at_fail
    | _ => exact at_fail
  | str i =>
    obtain ⟨_, rfl⟩ := rel_str ha
    cases y with
    | str j =>
      obtain ⟨_, rfl⟩ := rel_str hb
      cases op with
      | Add =>
        refine at_ok1 fun h1 => at_ok1 fun h2 => at_leaf I fun Q E q => PyProof.Rows.add_str (fun t' tk => q _ _ (.str _ _)) ?_
        have h1 := Nat.le_of_ble_eq_true h1
        have h2 := Nat.le_of_ble_eq_true h2
        rw [sizeLine_eq]; omega
      | _ => exact at_fail
    | _ => exact at_fail
  | lst i =>
    cases y with
    | lst j =>
      obtain ⟨_, _, _, _, rfl, a1, a2, a3, ad, ra⟩ := rel_lst ha
      rename_i vs _
      obtain ⟨_, _, _, _, rfl, b1, b2, b3, bd, rb⟩ := rel_lst hb
      rename_i ws _
      cases op with
      | Add =>
        refine at_ok1 fun h1 => at_ok1 fun h2 => at_made I fun Q E q => ?_
        have h1 := Nat.le_of_ble_eq_true h1
        have h2 := Nat.le_of_ble_eq_true h2
        have l1 := ra.length
        have l2 := rb.length
        refine addlists (I.sub _ _ a1) a2 a3 (I.sub _ _ b1) b2 b3 (by rw [sizeLine_eq, ← Array.length_toList, ← Array.length_toList, l1, l2]; omega) ?_
        have x := Ext.alloc (W := W0) (o := { cls := .type "list", data := .seq (vs ++ ws) }) I.sub rfl
        refine q _ _ _ s.toks x (.lst (put_same _ _ _) rfl rfl rfl ?_)
        rw [Array.toList_append]
        exact (ra.mono x.mono).append (rb.mono x.mono)
      | _ => exact at_fail
    | _ => exact at_fail
  | _ => exact at_fail

theorem at_unop (op : UnaryOp) (I : Inv c sf g σ b s.heap) (ha : Rel c g va x) : At c sf A σ (Rel c) (unaryOp op va) (unop op x) g b s := by
  cases op with
  | USub =>
    cases x with
    | int i => cases ha; exact at_leaf I fun Q E q => PyProof.Rows.neg_int (q _ _ (.int _ _))
    | _ => exact at_fail
  | Not =>
    cases x with
    | bool z => cases ha; exact at_leaf I fun Q E q => not_value (wpAny_truthy_bool (q _ s.toks (.bool _)))
    | _ => exact at_fail
  | _ => exact at_fail

theorem RelL.atList {vs : Array Value} {l : List PV} (r : RelL c g vs.toList l) {k : Int} {v : PV} (h0 : 0 ≤ k) (e : l[k.toNat]? = some v) : ∃ u, vs[k.toNat]? = some u ∧ Rel c g u v := by
  obtain ⟨u, h1, h2⟩ := r.get e
  exact ⟨u, by simpa using h1, h2⟩
theorem seq_at {n k : Nat} {i : Int} (h0 : 0 ≤ i) (h : i.toNat < n) : seqIndex? i n = some i.toNat := by
  unfold seqIndex?
  have a : ¬ i < 0 := by omega
  have b : (i.toNat : Int) = i := by omega
  simp only [a, if_false]
  first
    | (rw [if_pos (by omega)])
    | (rw [if_neg (by omega)])
    | (simp; omega)
/-- what an item is by: the type of o has the built-in getter -/
theorem at_getItem {sp : PenS} (hsp : sp = σ.pen) (I : Inv c sf g σ b s.heap) (ha : Rel c g va x) (hb : Rel c g vb y) :
    At c sf A σ (Rel c) (getItem va vb) (getitem sp x y) g b s := by
  subst hsp
  cases x with
  | lst l =>
    obtain ⟨_, _, _, _, rfl, a1, a2, a3, ad, ra⟩ := rel_lst ha
    cases y with
    | int k =>
      obtain ⟨_, rfl⟩ := rel_int hb
      refine at_ok1 fun h1 => at_ok1 fun h2 => at_need fun v e => at_leaf I fun Q E q => ?_
      have h1 := of_decide_eq_true h1
      have h2 := of_decide_eq_true h2
      obtain ⟨u, hu, hr⟩ := ra.atList h1 e
      exact wpAny_getItem_list ⟨_, I.sub _ _ a1, a2, _, a3⟩ h1 (by omega) hu (q _ s.toks hr)
    | _ => exact at_fail
  | tup l =>
    obtain ⟨_, _, _, _, rfl, a1, a2, a3, ra⟩ := rel_tup ha
    cases y with
    | int k =>
      obtain ⟨_, rfl⟩ := rel_int hb
      refine at_ok1 fun h1 => at_ok1 fun h2 => at_need fun v e => at_leaf I fun Q E q => ?_
      have h1 := of_decide_eq_true h1
      have h2 := of_decide_eq_true h2
      obtain ⟨u, hu, hr⟩ := ra.atList h1 e
      have hlt : k.toNat < Array.size _ := (Array.getElem?_eq_some_iff.mp hu).1
      exact PyProof.Rows.getItem_tuple ⟨_, I.sub _ _ a1, a2, _, a3⟩ (by omega) (by omega) (seq_at (k := 0) h1 hlt) hu (q _ s.toks hr)
    | _ => exact at_fail
  | str t =>
    obtain ⟨_, rfl⟩ := rel_str ha
    cases y with
    | int k =>
      obtain ⟨_, rfl⟩ := rel_int hb
      refine at_ok1 fun h1 => at_ok1 fun h2 => at_need fun v e => at_leaf I fun Q E q => ?_
      have h1 := of_decide_eq_true h1
      have h2 := of_decide_eq_true h2
      unfold signAt at e
      split at e
      · rename_i ch hc
        cases e
        exact PyProof.Rows.getItem_str (by simp; omega) hc (q _ _ (.str _ _))
      · cases e
    | _ => exact at_fail
  | dic l =>
    obtain ⟨_, _, _, rfl, sm, a1, d, r⟩ := rel_dic ha
    cases y with
    | str k =>
      obtain ⟨_, rfl⟩ := rel_str hb
      refine at_need fun v e => at_leaf I fun Q E q => ?_
      have D : Heap.DictOf (strKind c.prog c.w) s.heap _ _ := Heap.dictOf_iff.mpr ⟨_, I.sub _ _ a1, d⟩
      obtain ⟨u, hu, hr⟩ := (look_kvs r k).2 _ e
      exact wpAny_getItem_of (strKind_is _ _ _ _) D.mapOf hu (q _ _ hr)
    | _ => exact at_fail
  | pen =>
    obtain rfl := rel_pen ha
    cases y with
    | int k =>
      obtain ⟨_, rfl⟩ := rel_int hb
      have I' := I.pen
      unfold getitem
      cases hp : σ.pen with
      | off => exact at_fail
      | any => exact at_fail
      | «at» P =>
        rw [hp] at I'
        obtain ⟨l, t, u, L, r⟩ := I'
        dsimp only
        split
        · exact at_leaf I fun Q E q => wpAny_getItem_list L (by decide) (by decide) rfl (q _ s.toks r)
        · exact at_leaf I fun Q E q => wpAny_getItem_list L (by decide) (by decide) rfl (q _ s.toks (.int _ _))
        · exact at_leaf I fun Q E q => wpAny_getItem_list L (by decide) (by decide) rfl (q _ s.toks (.int _ _))
        · exact at_fail
    | _ => exact at_fail
  | _ => exact at_fail

theorem RelL.filterMap {vs : Array Value} {l : List PV} (r : RelL c g vs.toList l) : ∀ is : List Nat, RelL c g (is.filterMap (vs[·]?)) (is.filterMap (l[·]?))
  | [] => .nil
  | i :: is => by
    have ih := RelL.filterMap r is
    rw [List.filterMap_cons, List.filterMap_cons]
    cases e : l[i]? with
    | none =>
      have := r.get_none e
      have h : vs[i]? = none := by simpa using this
      rw [h]; exact ih
    | some v =>
      obtain ⟨u, h1, h2⟩ := r.get e
      have h : vs[i]? = some u := by simpa using h1
      rw [h]; exact .cons h2 ih
theorem RelL.size {vs : Array Value} {l : List PV} (r : RelL c g vs.toList l) : vs.size = l.length := by rw [← r.length, Array.length_toList]
theorem pick_eq {vs : Array Value} {l : List PV} (r : RelL c g vs.toList l) (lo hi st : Option Int) : RelL c g (slicePick vs lo hi st).toList (pick lo hi st l) := by
  unfold slicePick pick
  rw [r.size]
  exact r.filterMap _
theorem tpick_eq {vs : Array Value} {l : List PV} (r : RelL c g vs.toList l) (lo : Int) (k : Int) (n : Nat) : RelL c g ((List.range n).filterMap fun (i : Nat) => vs[(lo + (i : Int) * k).toNat]?) (tpick lo k n l) := by
  have := r.filterMap ((List.range n).map fun (i : Nat) => (lo + (i : Int) * k).toNat)
  rw [List.filterMap_map, List.filterMap_map] at this
  exact this

inductive PartIs : Value → Option Int → Prop
  | none : PartIs .none none
  | int (i : Int) (t : Tok) : PartIs (.int i t) (some i)
theorem PartIs.part {v : Value} {o : Option Int} (h : PartIs v o) : IsPart v o := by cases h with | none => exact .none | int i t => exact .int i t
theorem PartIs.tok {v : Value} {o : Option Int} (h : PartIs v o) : ∃ q : Option (Int × Tok), partValue q = v ∧ q.map (·.1) = o := by
  cases h with
  | none => exact ⟨Option.none, rfl, rfl⟩
  | int i t => exact ⟨some (i, t), rfl, rfl⟩

theorem part_wp {E : Value → Shared → Prop} {v : Value} {o : Option Int} {Q : Option Int → Shared → Prop} (h : PartIs v o) (q : Q o s) : wpAny (model c.prog c.w) A (Builtin.Slice.slicePartIndex v) Q E s := by
  cases h with
  | none => exact slicePart_none q
  | int i t => exact slicePart_int q
theorem applied_wp {sl : Addr} {n : Nat} {vl vu : Value} {lo hi : Option Int} {E} {Q : Int × Int × Nat → Shared → Prop} (hs : s.heap.IsSliceOf sl vl vu .none) (pl : PartIs vl lo) (pu : PartIs vu hi)
    (h : Q ((Builtin.Slice.sliceAdjust lo hi 1 n).1, 1, Builtin.Slice.slicePlaces (Builtin.Slice.sliceAdjust lo hi 1 n).1 (Builtin.Slice.sliceAdjust lo hi 1 n).2 1) s) :
    wpAny (model c.prog c.w) A (Builtin.Slice.sliceApplied (.ref sl) (pure (n : Int))) Q E s := by
  obtain ⟨os, hos, hcs, hds⟩ := id hs
  unfold Builtin.Slice.sliceApplied Builtin.Slice.sliceFields
  refine wpAny_bind (wpAny_bind (wpAny_field hos hds (x := vl) rfl (wpAny_bind (wpAny_field hos hds (x := vu) rfl (wpAny_bind (wpAny_field hos hds (x := .none) rfl (wpAny_pure ?_)))))))
  refine wpAny_bind (slicePart_none ?_)
  show wpAny _ _ (if ((1 : Int) == 0) = true then _ else _) _ _ s
  rw [if_neg (by decide)]
  refine wpAny_bind (part_wp pl (wpAny_bind (part_wp pu (wpAny_bind (wpAny_pure ?_)))))
  exact wpAny_pure h
theorem tuple_slice {t sl : Addr} {vs : Array Value} {l : List PV} {vl vu : Value} {lo hi : Option Int} {E} {Q : Value → Shared → Prop} (ht : IsTup s.heap t vs) (r : RelL c g vs.toList l) (hs : s.heap.IsSliceOf sl vl vu .none) (pl : PartIs vl lo) (pu : PartIs vu hi)
    (hz : (tslice lo hi l).length ≤ 1000) (h1 : tslice lo hi l = l → Q (.ref t) s)
    (h2 : ∀ ws : Array Value, RelL c g ws.toList (tslice lo hi l) → Q (.ref s.heap.objs.size) { s with heap := s.heap.push { cls := .type "tuple", data := .seq ws } }) :
    wpAny (model c.prog c.w) A (getItem (.ref t) (.ref sl)) Q E s := by
  obtain ⟨os, hos, hcs, hds⟩ := id hs
  have hTs : s.TypeIs (.ref sl) "slice" := ⟨os, hos, hcs⟩
  unfold getItem
  try with_reducible refine wpAny_holding ?_
  first | refine wpAny_bind (wpAny_pure ?_) | skip
  refine wpAny_bind (wpAny_sequenceKey ht.typeIs (by decide) ?_)
  refine wpAny_bind (wpAny_callSpecial?_slot (name := Str.ofString "__getitem__") ht.typeIs slot_tuple_getitem
    (wpAny_call_entry slot_tuple_getitem ht.typeIs entry_tuple_getitem ?_ (args_tuple_getitem _ _)))
  show wpAny _ _ (Builtin.Tuple.tupleItemsOf (.ref t) >>= _) _ _ s
  refine wpAny_bind (tupleItemsOf_ ht ?_)
  refine wpAny_bind (wpAny_typeOf hTs ?_)
  rw [if_pos (by decide)]
  refine wpAny_bind (applied_wp hs pl pu ?_)
  have sz := r.size
  have hts : tslice lo hi l = match (Builtin.Slice.sliceAdjust lo hi 1 l.length).1 == 0 && Builtin.Slice.slicePlaces (Builtin.Slice.sliceAdjust lo hi 1 l.length).1 (Builtin.Slice.sliceAdjust lo hi 1 l.length).2 1 == l.length with
    | true => l
    | false => tpick (Builtin.Slice.sliceAdjust lo hi 1 l.length).1 1 (Builtin.Slice.slicePlaces (Builtin.Slice.sliceAdjust lo hi 1 l.length).1 (Builtin.Slice.sliceAdjust lo hi 1 l.length).2 1) l := rfl
  rw [sz]
  generalize (Builtin.Slice.sliceAdjust lo hi 1 (l.length : Int)).1 = a at hts ⊢
  generalize Builtin.Slice.slicePlaces a (Builtin.Slice.sliceAdjust lo hi 1 (l.length : Int)).2 1 = n at hts ⊢
  show wpAny _ _ (if (a == 0 && (1 : Int) == 1 && n == l.length) = true then _ else _) _ _ s
  cases q : (a == 0 && n == l.length) with
  | true =>
    rw [q] at hts
    have q' : (a == 0 && (1 : Int) == 1 && n == l.length) = true := by simpa using q
    rw [if_pos q']
    refine wpAny_bind ?_
    unfold Builtin.Tuple.tupleIsExact
    refine wpAny_bind (wpAny_typeOf ht.typeIs (wpAny_pure ?_))
    rw [if_pos (by decide)]
    refine wpAny_bind (wpAny_rule ?_)
    first
      | exact wpAny_pure ⟨_, rfl, wpAny_pure (h1 hts)⟩
      | exact wpAny_bind (wpAny_pure (wpAny_pure ⟨_, rfl, wpAny_pure (h1 hts)⟩))
      | exact wpAny_bind (wpAny_bind (wpAny_pure (wpAny_pure ⟨_, rfl, wpAny_pure (h1 hts)⟩)))
  | false =>
    rw [q] at hts
    have q' : ¬ (a == 0 && (1 : Int) == 1 && n == l.length) = true := by simpa using q
    rw [if_neg q']
    have R : RelL c g ((List.range n).filterMap fun (k : Nat) => vs[(a + (k : Int) * 1).toNat]?).toArray.toList (tslice lo hi l) := by rw [hts]; simpa using tpick_eq r a 1 n
    have hz2 : sizeOk (.seq ((List.range n).filterMap fun (k : Nat) => vs[(a + (k : Int) * 1).toNat]?).toArray) := by
      show ((List.range n).filterMap fun (k : Nat) => vs[(a + (k : Int) * 1).toNat]?).toArray.size ≤ sizeLine
      rw [R.size, sizeLine_eq]; omega
    first
      | exact wpAny_bind (m := Builtin.Tuple.tupleExact _) (wpAny_newObj_type (wpAny_pure ⟨_, rfl, wpAny_pure (h2 _ R)⟩) hz2)
      | exact wpAny_bind (m := Builtin.Tuple.tupleExact _) (wpAny_newObj_type (wpAny_bind (wpAny_pure (wpAny_pure ⟨_, rfl, wpAny_pure (h2 _ R)⟩))) hz2)
      | exact wpAny_bind (wpAny_bind (m := Builtin.Tuple.tupleExact _) (wpAny_newObj_type (wpAny_pure (wpAny_pure ⟨_, rfl, wpAny_pure (h2 _ R)⟩)) hz2))
      | exact wpAny_bind (wpAny_bind (m := Builtin.Tuple.tupleExact _) (wpAny_newObj_type (wpAny_pure ⟨_, rfl, wpAny_pure (h2 _ R)⟩) hz2))

/-- the value's type has a built-in getter -/
noncomputable def HasGet (s : Shared) (v : Value) : Prop := ∃ T id, s.TypeIs v T ∧ typeLookup (.type T) "__getitem__" = pure (some (.builtin id))
theorem hasGet_lst {s : Shared} {a : Addr} {o : Obj} (h : s.heap.get? a = some o) (k : o.cls = .type "list") : HasGet s (.ref a) := ⟨"list", _, ⟨o, h, k⟩, slot_list_getitem.lookup⟩
theorem hasGet_tup {s : Shared} {a : Addr} {o : Obj} (h : s.heap.get? a = some o) (k : o.cls = .type "tuple") : HasGet s (.ref a) := ⟨"tuple", _, ⟨o, h, k⟩, slot_tuple_getitem.lookup⟩
theorem hasGet_str {s : Shared} {x : Str} {t : Tok} : HasGet s (.str x t) := ⟨"str", _, typeIs_str _ _ _, PySem.F.slot_str_getitem.lookup⟩

theorem tail_wp {value slice : Expr} {o i : Value} {E} {Q : Value → Shared → Prop} (hT : HasGet s o) (h : wpAny (model c.prog c.w) A (getItem o i) Q E s) :
    wpAny (model c.prog c.w) A (subscriptTail value slice o i) Q E s := by
  obtain ⟨T, id, hT, hl⟩ := hT
  unfold subscriptTail
  refine wpAny_bind ?_
  rw [getitemInPython_of_ne hT.not_modules]
  refine wpAny_bind (wpAny_specialOf hT hl ?_)
  have fin : wpAny (model c.prog c.w) A (subscripted slice false o i) (fun r s₃ => wpAny (model c.prog c.w) A (letTemporaryGo value o r >>= fun _ => pure r) Q E s₃) E s := by
    have k : wpAny (model c.prog c.w) A (getItem o i) (fun r s₃ => wpAny (model c.prog c.w) A (letTemporaryGo value o r >>= fun _ => pure r) Q E s₃) E s :=
      wpAny_mono h (fun v s₃ hq => wpAny_bind (wpAny_letTemporaryGo (wpAny_pure hq))) fun _ _ e => e
    unfold subscripted
    split
    · exact wpAny_operate' k
    · rename_i e; cases e
    · exact wpAny_operate' k
  first
    | exact wpAny_pure (wpAny_bind fin)
    | exact wpAny_bind (wpAny_pure (wpAny_bind fin))
    | exact wpAny_bind fin
theorem at_tail {value sl : Expr} {o i : Value} {t : T PV} (hT : HasGet s o) (h : At c sf A σ (Rel c) (getItem o i) t g b s) : At c sf A σ (Rel c) (subscriptTail value sl o i) t g b s :=
  fun Q E post hs hq => tail_wp hT (h Q E post hs hq)
theorem at_item {value sl : Expr} {sp : PenS} (hsp : sp = σ.pen) (I : Inv c sf g σ b s.heap) (ha : Rel c g va x) (hb : Rel c g vb y) :
    At c sf A σ (Rel c) (subscriptTail value sl va vb) (getitem sp x y) g b s := by
  have h := at_getItem (A := A) hsp I ha hb
  cases x with
  | lst l => cases ha with | lst a1 a2 a3 ad ra => exact at_tail (hasGet_lst (I.sub _ _ a1) a2) h
  | tup l => cases ha with | tup a1 a2 a3 ra => exact at_tail (hasGet_tup (I.sub _ _ a1) a2) h
  | str l => cases ha; exact at_tail hasGet_str h
  | dic l =>
    obtain ⟨_, _, _, rfl, sm, a1, d, r⟩ := rel_dic ha
    have D : Heap.DictOf (strKind c.prog c.w) s.heap _ _ := Heap.dictOf_iff.mpr ⟨_, I.sub _ _ a1, d⟩
    exact at_tail ⟨"dict", _, D.typeIs, slot_dict_getitem.lookup⟩ h
  | pen =>
    obtain rfl := rel_pen ha
    subst hsp
    cases hp : σ.pen with
    | off => rw [hp] at h; unfold getitem; cases y <;> exact at_fail
    | any => rw [hp] at h; unfold getitem; cases y <;> exact at_fail
    | «at» P =>
      have I' := I.pen
      rw [hp] at I' h
      obtain ⟨l, t, u, ⟨o, e, k, _⟩, r⟩ := I'
      exact at_tail (hasGet_lst e k) h
  | _ => exact at_fail
theorem at_slice {value sx : Expr} {sl : Addr} {vl vu vt : Value} {lo hi st : Option Int} (I : Inv c sf g σ b s.heap) (ha : Rel c g va x) (hs : s.heap.IsSliceOf sl vl vu vt)
    (pl : PartIs vl lo) (pu : PartIs vu hi) (pt : PartIs vt st) : At c sf A σ (Rel c) (subscriptTail value sx va (.ref sl)) (slice x lo hi st) g b s := by
  cases x with
  | arr l =>
    obtain ⟨_, _, _, _, rfl, a1, a2, a3, ra⟩ := rel_arr ha
    refine at_tail (hasGet_lst (I.sub _ _ a1) a2) (at_ok1 fun h1 => at_ok1 fun h2 => at_made I fun Q E q => ?_)
    rename_i vs _
    refine wpAny_getItem_list_slice ⟨_, I.sub _ _ a1, a2, _, a3⟩ hs pl.part pu.part pt.part (of_decide_eq_true h2) ?_ (by rw [ra.size, sizeLine_eq]; have := Nat.le_of_ble_eq_true h1; omega)
    have X := Ext.alloc (W := W0) (o := { cls := .type "list", data := .seq (slicePick vs lo hi st) }) I.sub rfl
    exact q _ _ _ s.toks X (.lst (put_same _ _ _) rfl rfl rfl ((pick_eq ra lo hi st).mono X.mono))
  | lst l =>
    obtain ⟨_, _, _, _, rfl, a1, a2, a3, ad, ra⟩ := rel_lst ha
    refine at_tail (hasGet_lst (I.sub _ _ a1) a2) (at_ok1 fun h1 => at_ok1 fun h2 => at_made I fun Q E q => ?_)
    rename_i vs _
    refine wpAny_getItem_list_slice ⟨_, I.sub _ _ a1, a2, _, a3⟩ hs pl.part pu.part pt.part (of_decide_eq_true h2) ?_ (by rw [ra.size, sizeLine_eq]; have := Nat.le_of_ble_eq_true h1; omega)
    have X := Ext.alloc (W := W0) (o := { cls := .type "list", data := .seq (slicePick vs lo hi st) }) I.sub rfl
    exact q _ _ _ s.toks X (.lst (put_same _ _ _) rfl rfl rfl ((pick_eq ra lo hi st).mono X.mono))
  | tup l =>
    obtain ⟨_, _, _, _, rfl, a1, a2, a3, ra⟩ := rel_tup ha
    cases st with
    | some k => exact at_fail
    | none =>
      cases pt
      refine at_tail (hasGet_tup (I.sub _ _ a1) a2) (at_ok1 fun h1 => at_ok1 fun h2 => at_made I fun Q E q => ?_)
      refine tuple_slice ⟨_, I.sub _ _ a1, a2, _, a3⟩ ra hs pl pu (Nat.le_of_ble_eq_true h2) (fun e => ?_) (fun ws R => ?_)
      · exact q _ g s.heap s.toks (Ext.refl I.sub) (by rw [e]; exact .tup a1 a2 a3 ra)
      · have X := Ext.alloc (W := W0) (o := { cls := .type "tuple", data := .seq ws }) I.sub rfl
        exact q _ _ _ s.toks X (.tup (put_same _ _ _) rfl rfl (R.mono X.mono))
  | str t =>
    obtain ⟨_, rfl⟩ := rel_str ha
    cases st with
    | some k => exact at_fail
    | none =>
      cases pt
      refine at_tail hasGet_str (at_ok1 fun h1 => at_leaf I fun Q E q => ?_)
      obtain ⟨ql, e1, rfl⟩ := pl.tok
      obtain ⟨qu, e2, rfl⟩ := pu.tok
      obtain ⟨o, ho, hc, hd⟩ := hs
      refine PySem.wpAny_getItem_str_slice (l := ql) (u := qu) (st := none) ⟨o, ho, hc, by rw [hd, e1, e2]; rfl⟩ rfl
        (post_val_or_str ⟨Nat.le_trans (Txt.slice_le t _ _) (by have := Nat.le_of_ble_eq_true h1; rw [sizeLine_eq]; omega), fun t' k => q _ _ ?_⟩)
      have e := fsl_eq t (ql.map (·.1)) (qu.map (·.1))
      rw [e]
      exact .str _ _
  | _ => exact at_fail
end
end Mine

namespace Mine

section
variable {c : Cx} {sf : Slf} {A : Around} {σ : Sg} {g : Frz} {b : Nat} {s : Shared} {va vb : Value} {x y : PV}

theorem texts_of {h : Heap} : ∀ {vs : List Value} {l : List PV} {ts : List Str}, RelL c g vs l → textsOf l = some ts → ∃ q : List (Str × Tok), vs = strValues q ∧ q.map (·.1) = ts
  | _, [], ts, .nil, e => by cases e; exact ⟨[], rfl, rfl⟩
  | _, x :: l, ts, .cons hv r, e => by
    cases x with
    | str y =>
      rw [textsOf] at e
      obtain ⟨_, rfl⟩ := rel_str hv
      rename_i t
      split at e
      · rename_i l' hl
        cases e
        obtain ⟨q, h1, h2⟩ := texts_of (h := h) r hl
        exact ⟨(y, t) :: q, by rw [h1]; rfl, by rw [List.map_cons, h2]⟩
      · cases e
    | _ => cases e
theorem relL_texts : ∀ q : List (Str × Tok), RelL c g (strValues q) ((q.map (·.1)).map .str)
  | [] => .nil
  | (y, t) :: q => .cons (.str y t) (relL_texts q)
theorem bools_of : ∀ {vs : List Value} {l : List PV} {z : Bool}, RelL c g vs l → anyB l = some z → ∃ bs : List Bool, vs = bs.map .bool ∧ bs.any id = z
  | _, [], z, .nil, e => by cases e; exact ⟨[], rfl, rfl⟩
  | _, x :: l, z, .cons hv r, e => by
    cases x with
    | bool y =>
      rw [anyB] at e
      obtain rfl := rel_bool hv
      split at e
      · rename_i z' hl
        cases e
        obtain ⟨bs, h1, h2⟩ := bools_of r hl
        exact ⟨y :: bs, by rw [h1]; rfl, by rw [List.any_cons, h2]; rfl⟩
      · cases e
    | _ => cases e

theorem range_any' (bs : List Bool) : ((List.range bs.length).any fun i => (bs[i]?).getD false) = bs.any id := by
  rw [Bool.eq_iff_iff, List.any_eq_true, List.any_eq_true]
  constructor
  · rintro ⟨i, hi, e⟩
    have hi' := List.mem_range.mp hi
    simp only [List.getElem?_eq_getElem hi', Option.getD_some] at e
    exact ⟨_, List.getElem_mem hi', e⟩
  · rintro ⟨z, hz, e⟩
    obtain ⟨i, hi, rfl⟩ := List.getElem_of_mem hz
    exact ⟨i, List.mem_range.mpr hi, by simp only [List.getElem?_eq_getElem hi, Option.getD_some]; exact e⟩
theorem kept_iter' {h h' : Heap} {o : Obj} (hk : ∀ b x, b ∉ [h.objs.size] → (h.push o).get? b = some x → h'.get? b = some x) : ∀ b x, h.get? b = some x → h'.get? b = some x :=
  fun b x e => hk b x (fun hm => by rw [List.mem_singleton.mp hm] at e; exact Nat.lt_irrefl _ (Heap.lt_size e)) (Heap.get?_push_of_some _ e)
theorem any_list {l : Addr} {bs : List Bool} {E} {Q : Value → Shared → Prop} (hh : A.handled = none) (hl : s.heap.IsList l (bs.map Value.bool).toArray)
    (h : ∀ h' tk, (∀ a o, s.heap.get? a = some o → h'.get? a = some o) → Q (.bool (bs.any id)) { s with heap := h', toks := tk }) : wpAny (model c.prog c.w) A (call (.builtin "any") [.ref l]) Q E s := by
  have hlt : l < s.heap.objs.size := by obtain ⟨_, e, _⟩ := hl; exact Heap.lt_size e
  refine call_any_walk (wpAny_pyIter_list hl ?_)
  refine ⟨s.heap.objs.size, [s.heap.objs.size, l], [s.heap.objs.size], (bs.map Value.bool).toArray.size, _, _, fun i => (bs[i]?).getD false, rfl, Walks.list (A := A.in1) hh _ l (Nat.ne_of_lt hlt) (bs.map Value.bool).toArray,
    ⟨⟨_, Heap.get?_push_size _ rfl, rfl, rfl⟩, hl.push _⟩, fun i v s' Q' E' hP hQ => ?_, fun h' tk hk => ?_⟩
  · cases e : bs[i]? with
    | none => simp [e] at hP
    | some z =>
      simp [e] at hP
      subst hP
      simp only [e, Option.getD_some] at hQ
      exact wpAny_truthy_bool hQ
  · have e : ((List.range (bs.map Value.bool).toArray.size).any fun i => (bs[i]?).getD false) = bs.any id := by
      rw [List.size_toArray, List.length_map]; exact range_any' bs
    rw [e]
    exact h h' tk (kept_iter' hk)

theorem at_new {m : Sem Value} {r : PV} (I : Inv c sf g σ b s.heap)
    (h : ∀ Q E, (∀ D g' h' tk, Ext W0 g s.heap g' h' → Rel c g' (.ref D) r → Q (.ref D) { s with heap := h', toks := tk }) → wpAny (model c.prog c.w) A m Q E s) : At c sf A σ (Rel c) m (.ret r) g b s :=
  at_made I fun Q E q => h Q E fun D g' h' tk x hr => q _ g' h' tk x hr

theorem at_builtin {Γ : Tab} {n : Nat} {t : String} {vs : List Value} {l : List PV} (R : Room A n) (I : Inv c sf g σ b s.heap) (hl : RelL c g vs l) :
    At c sf A σ (Rel c) (call (.builtin t) vs) (callV Γ σ.pen (.raw (.builtin t)) l) g b s := by
  unfold callV
  dsimp only
  split
  · split
    · obtain ⟨_, _, rfl, a, r⟩ := relL_cons hl
      obtain rfl := relL_nil r
      obtain ⟨_, _, _, _, rfl, a1, a2, a3, ad, ra⟩ := rel_lst a
      refine at_ok1 fun h1 => at_leaf I fun Q E q => ?_
      have h1 := Nat.le_of_ble_eq_true h1
      have sz := ra.size
      refine call_len_list ⟨_, I.sub _ _ a1, a2, _, a3⟩ (by omega) (q _ _ ?_)
      rw [sz]; exact .int _ _
    · obtain ⟨_, _, rfl, a, r⟩ := relL_cons hl
      obtain rfl := relL_nil r
      obtain ⟨_, _, _, _, rfl, a1, a2, a3, ra⟩ := rel_tup a
      refine at_ok1 fun h1 => at_leaf I fun Q E q => ?_
      have h1 := Nat.le_of_ble_eq_true h1
      have sz := ra.size
      refine PyProof.Rows.len_tuple ⟨_, I.sub _ _ a1, a2, _, a3⟩ (by omega) (q _ _ ?_)
      rw [sz]; exact .int _ _
    · exact at_fail
  · split
    · obtain ⟨_, _, rfl, a, r⟩ := relL_cons hl
      obtain rfl := relL_nil r
      obtain ⟨_, rfl⟩ := rel_int a
      exact at_leaf I fun Q E q => PyProof.Rows.call_abs_int fun u tk => q _ tk (.int _ _)
    · exact at_fail
  · split
    · obtain ⟨_, _, rfl, a, r⟩ := relL_cons hl
      obtain rfl := relL_nil r
      obtain ⟨_, _, _, _, rfl, a1, a2, a3, ad, ra⟩ := rel_lst a
      refine at_needB fun z hz => at_made I fun Q E q => ?_
      obtain ⟨bs, e, rfl⟩ := bools_of ra hz
      refine any_list R.h ⟨_, I.sub _ _ a1, a2, _, by rw [a3, ← e]⟩ fun h' tk hk => q _ g h' tk (Ext.grown I.sub hk) (.bool _)
    · exact at_fail
  · exact at_fail

theorem at_type {Γ : Tab} {n : Nat} {t : String} {vs : List Value} {l : List PV} (R : Room A n) (I : Inv c sf g σ b s.heap) (hl : RelL c g vs l) :
    At c sf A σ (Rel c) (call (.type t) vs) (callV Γ σ.pen (.raw (.type t)) l) g b s := by
  unfold callV
  dsimp only
  split
  · split
    · obtain ⟨_, _, rfl, a, r⟩ := relL_cons hl
      obtain rfl := relL_nil r
      obtain ⟨_, rfl⟩ := rel_int a
      exact at_leaf I fun Q E q => call_int_int (q _ s.toks (.int _ _))
    · obtain ⟨_, _, rfl, a, r⟩ := relL_cons hl
      obtain rfl := relL_nil r
      obtain rfl := rel_bool a
      exact at_leaf I fun Q E q => call_int_bool (q _ _ (.int _ _))
    · obtain ⟨_, _, rfl, a, r⟩ := relL_cons hl
      obtain rfl := relL_nil r
      obtain ⟨_, rfl⟩ := rel_str a
      refine at_ok1 fun h1 => at_need fun v e => at_leaf I fun Q E q => ?_
      rename_i x t
      cases hx : PySem.intText? x with
      | none => rw [hx] at e; cases e
      | some k =>
        rw [hx] at e
        cases e
        exact KIN.call_text hx (Nat.le_of_ble_eq_true h1) (q _ _ (.int _ _))
    · exact at_fail
  · split
    · obtain ⟨_, _, rfl, a, r⟩ := relL_cons hl
      obtain rfl := relL_nil r
      obtain ⟨_, rfl⟩ := rel_int a
      refine at_ok1 fun h1 => at_ok1 fun h2 => at_leaf I fun Q E q => ?_
      have h1 := of_decide_eq_true h1
      have h2 := of_decide_eq_true h2
      rename_i i t
      refine P.str_of_int (Nat.lt_of_le_of_lt (Nat.log2_le_self _) (by omega)) (q _ _ (.str _ _))
    · exact at_fail
  · split
    · obtain ⟨_, _, rfl, a, r⟩ := relL_cons hl
      obtain rfl := relL_nil r
      obtain ⟨_, _, _, _, rfl, a1, a2, a3, ad, ra⟩ := rel_lst a
      refine at_ok1 fun h1 => at_new I fun Q E q => ?_
      rename_i vs _
      have h1 := Nat.le_of_ble_eq_true h1
      have sz := ra.size
      refine call_tuple_list ⟨_, I.sub _ _ a1, a2, _, a3⟩ (fun h' hk => ?_) (by rw [sizeLine_eq]; omega)
      have X1 := Ext.grown (W := W0) I.sub hk
      have X := X1.trans (Ext.alloc (W := W0) (o := { cls := .type "tuple", data := .seq vs }) X1.sub rfl)
      exact q _ _ _ s.toks X (.tup (put_same _ _ _) rfl rfl (ra.mono X.mono))
    · exact at_fail
  · split
    · obtain ⟨_, _, rfl, a, r⟩ := relL_cons hl
      obtain rfl := relL_nil r
      obtain ⟨_, _, _, _, rfl, a1, a2, a3, ra⟩ := rel_tup a
      refine at_ok1 fun h1 => at_new I fun Q E q => ?_
      have h1 := Nat.le_of_ble_eq_true h1
      have sz := ra.size
      refine call_list_seq _ (.inr rfl) (I.sub _ _ a1) a2 a3 (fun h' k hk hn => ?_) (by rw [sizeLine_eq]; omega)
      have X := (Ext.grown (W := W0) I.sub hk).freeze get_size (none_of_sub I.sub get_size) hn
      exact q _ _ _ s.toks X (.lst (put_same _ _ _) rfl rfl rfl (ra.mono X.mono))
    · exact at_fail
  · exact at_fail

theorem wsum_len : ∀ l : List (Nat × Nat), l.length ≤ PySem.StrLaws.wsum l
  | [] => Nat.le_refl _
  | p :: r => by
    have := wsum_len r
    show r.length + 1 ≤ (p.2 - p.1 + 1) + PySem.StrLaws.wsum r
    omega
theorem words_fit {x : Str} (h : x.length ≤ 1000) : (Builtin.Str.spaceWords x (x.length + 1)).length ≤ sizeLine := by
  have := wsum_len (Builtin.Str.spaceWords x (x.length + 1))
  have := (PySem.StrLaws.sw_weight x).1
  rw [sizeLine_eq]; omega
theorem parts_fit {x y : Str} (h : x.length ≤ 1000) : (Builtin.Str.partsBetween x (Builtin.Str.occurrences x y 0 x.length (x.length + 1)) y.length).length ≤ sizeLine := by
  have := PySem.StrLaws.occ_length_le x y 0 x.length (x.length + 1)
  rw [length_partsBetween, sizeLine_eq]; omega

theorem at_texts {m : Sem Value} {ts : List Str} (I : Inv c sf g σ b s.heap)
    (h : ∀ Q E, (∀ vs tk, (∃ l : List (Str × Tok), vs = strValues l ∧ l.map (·.1) = ts) → Q (.ref s.heap.objs.size) { s with heap := s.heap.push { cls := .type "list", data := .seq vs.toArray }, toks := tk }) → wpAny (model c.prog c.w) A m Q E s) :
    At c sf A σ (Rel c) m (.ret (.lst (ts.map .str))) g b s :=
  at_new I fun Q E q => h Q E fun vs tk ⟨l, e, ht⟩ => by
    have X := Ext.alloc (W := W0) (o := { cls := .type "list", data := .seq vs.toArray }) I.sub rfl
    refine q _ _ _ tk X (.lst (put_same _ _ _) rfl rfl rfl ?_)
    subst e ht
    have := (relL_texts (c := c) (g := g) l).mono X.mono
    simpa using this

theorem at_strSplit0 {x : Str} {tx : Tok} (I : Inv c sf g σ b s.heap) :
    At c sf A σ (Rel c) (call (.builtin "str.split") [.str x tx]) (ok1 (Nat.ble x.length 1000) (.ret (.lst ((Txt.words x).map .str)))) g b s := by
  refine at_ok1 fun h1 => at_texts I fun Q E q => ?_
  have h1 := Nat.le_of_ble_eq_true h1
  refine call_meets F.slot_str_split (typeIs_str _ _ _) F.entry_str_split (F.args_str_split_1 _) (meets_str_split_space x tx (by rw [sizeLine_eq]; omega) (words_fit h1)) ?_
  by_cases hw : (Builtin.Str.spaceWords x (x.length + 1) == [(0, x.length)]) = true
  · rw [if_pos hw]
    exact q [.str x tx] s.toks ⟨[(x, tx)], rfl, (if_pos hw).symm⟩
  · rw [if_neg hw]
    exact q _ _ ⟨numbered s.toks (PySem.wordsOf x), strsFrom_eq _ _, (numbered_texts _ _).trans (if_neg hw).symm⟩
theorem at_strSplit1 {x y : Str} {tx ty : Tok} (I : Inv c sf g σ b s.heap) :
    At c sf A σ (Rel c) (call (.builtin "str.split") [.str x tx, .str y ty]) (ok1 (Nat.ble x.length 1000) (ok1 (!(y.length == 0)) (.ret (.lst ((Txt.split x y).map .str))))) g b s := by
  refine at_ok1 fun h1 => at_ok1 fun h2 => at_texts I fun Q E q => ?_
  have h1 := Nat.le_of_ble_eq_true h1
  have hy : (y.length == 0) = false := by cases h : (y.length == 0) with | false => rfl | true => rw [h] at h2; cases h2
  cases k1 : (decide (x.length < y.length) || decide (Builtin.Str.strKind x < Builtin.Str.strKind y)) with
  | true =>
    exact call_meets F.slot_str_split (typeIs_str _ _ _) F.entry_str_split (F.args_str_split_2 _ _) (meets_str_split_cannot_occur x y tx ty k1)
      (q [.str x tx] s.toks ⟨[(x, tx)], rfl, (if_pos k1).symm⟩)
  | false =>
    cases k2 : (Builtin.Str.occurrences x y 0 x.length (x.length + 1)).isEmpty with
    | true =>
      exact call_meets F.slot_str_split (typeIs_str _ _ _) F.entry_str_split (F.args_str_split_2 _ _) (meets_str_split_not_found x y tx ty k1 hy k2)
        (q [.str x tx] s.toks ⟨[(x, tx)], rfl, ((if_neg (by rw [k1]; decide)).trans (if_pos k2)).symm⟩)
    | false =>
      exact call_meets F.slot_str_split (typeIs_str _ _ _) F.entry_str_split (F.args_str_split_2 _ _) (meets_str_split_sep x y tx ty k1 hy k2 (by rw [sizeLine_eq]; omega) (parts_fit h1))
        (q _ _ ⟨numbered s.toks _, strsFrom_eq _ _, (numbered_texts _ _).trans ((if_neg (by rw [k1]; decide)).trans (if_neg (by rw [k2]; decide))).symm⟩)

theorem at_lstrip {x y : Str} {tx ty : Tok} (I : Inv c sf g σ b s.heap) :
    At c sf A σ (Rel c) (call (.builtin "str.lstrip") [.str x tx, .str y ty]) (ok1 (Nat.ble x.length 1000) (.ret (.str (Txt.lstripChars x y)))) g b s :=
  at_ok1 fun h1 => at_leaf I fun Q E q => SC.lstripChars (fun t' k => q _ k (.str _ _)) (by have := Nat.le_of_ble_eq_true h1; rw [sizeLine_eq]; omega)
theorem at_strIndex {x y : Str} {tx ty : Tok} (I : Inv c sf g σ b s.heap) :
    At c sf A σ (Rel c) (call (.builtin "str.index") [.str x tx, .str y ty]) (.need ((Builtin.Str.occurrences x y 0 x.length 1).head?.map iN) .ret) g b s :=
  at_need fun v e => at_leaf I fun Q E q => by
    cases h : Builtin.Str.occurrences x y 0 x.length 1 with
    | nil => rw [h] at e; cases e
    | cons i rest =>
      rw [h] at e
      cases e
      exact SC.index h (q _ _ (.int _ _))
theorem at_join {x : Str} {tx : Tok} {v : Value} {l : List PV} (I : Inv c sf g σ b s.heap) (hl : Rel c g v (.lst l)) :
    At c sf A σ (Rel c) (call (.builtin "str.join") [.str x tx, v]) (.need ((textsOf l).bind fun l => if JoinOk x l then some (.str (Txt.join x l)) else none) .ret) g b s :=
  at_need fun w e => at_leaf I fun Q E q => by
    obtain ⟨_, _, _, _, rfl, a1, a2, a3, ad, ra⟩ := rel_lst hl
    cases h : textsOf l with
    | none => rw [h] at e; cases e
    | some ts =>
      rw [h] at e
      obtain ⟨qs, h1, h2⟩ := texts_of (h := s.heap) ra h
      have e : (if JoinOk x ts then some (PV.str (Txt.join x ts)) else none) = some w := e
      cases hj : JoinOk x ts with
      | false => rw [hj] at e; cases e
      | true =>
        rw [hj] at e
        cases e
        exact SC.join (l := qs) ⟨_, I.sub _ _ a1, a2, _, by rw [a3, ← h1]⟩ h2 hj fun t' k => q _ k (.str _ _)

theorem getMethod_strM {id : String} {name : Str} {x : Str} {t : Tok} {pl : Sem Bool} {E} {Q : Value × List Value → Shared → Prop} (slot : Slot "str" name id) (ty : typeOf (.builtin id) = pure (.type "method_descriptor"))
    (h : Q (.builtin id, [.str x t]) s) : wpAny (model c.prog c.w) A (getMethod (.str x t) name pl) Q E s :=
  getMethod_builtin (typeIs_str _ _ _) F.plainAttrs_str slot ty (fun a e => nomatch e) h
noncomputable def strM (attr : Str) : Bool := match strEq attr "split" with
    | true => true
    | false => match strEq attr "lstrip" with
      | true => true
      | false => match strEq attr "index" with
        | true => true
        | false => strEq attr "join"
/-- a method of a text: got, then called -/
theorem strMethod_of (c : Cx) (A : Around) {x : Str} {tx : Tok} {attr : Str} (hm : strM attr = true) : ∃ id, (∀ (pl : Sem Bool) (Q' : Value × List Value → Shared → Prop) E' (s' : Shared), Q' (.builtin id, [.str x tx]) s' → wpAny (model c.prog c.w) A (getMethod (.str x tx) attr pl) Q' E' s') ∧
    ∀ {sf : Slf} {σ : Sg} {g : Frz} {b : Nat} {s : Shared} {vs : List Value} {l : List PV}, Inv c sf g σ b s.heap → RelL c g vs l → At c sf A σ (Rel c) (call (.builtin id) (.str x tx :: vs)) (strMeth x attr l) g b s := by
  unfold strM at hm
  unfold strMeth
  split at hm
  · rename_i e
    cases strEq_iff.mp e
    refine ⟨"str.split", fun pl Q' E' s' h => by with_reducible exact getMethod_strM F.slot_str_split F.type_str_split h, fun I hl => ?_⟩
    try rw [e]
    try dsimp only
    split
    · obtain rfl := relL_nil hl
      exact at_strSplit0 I
    · obtain ⟨_, _, rfl, a, r⟩ := relL_cons hl
      obtain rfl := relL_nil r
      obtain ⟨_, rfl⟩ := rel_str a
      exact at_strSplit1 I
    · exact at_fail
  · rename_i e0
    try rw [e0]
    split at hm
    · rename_i e
      cases strEq_iff.mp e
      refine ⟨"str.lstrip", fun pl Q' E' s' h => by with_reducible exact getMethod_strM F.slot_str_lstrip F.type_str_lstrip h, fun I hl => ?_⟩
      try rw [e]
      try dsimp only
      split
      · obtain ⟨_, _, rfl, a, r⟩ := relL_cons hl
        obtain rfl := relL_nil r
        obtain ⟨_, rfl⟩ := rel_str a
        exact at_lstrip I
      · exact at_fail
    · rename_i e1
      try rw [e1]
      split at hm
      · rename_i e
        cases strEq_iff.mp e
        refine ⟨"str.index", fun pl Q' E' s' h => by with_reducible exact getMethod_strM F.slot_str_index F.type_str_index h, fun I hl => ?_⟩
        try rw [e]
        try dsimp only
        split
        · obtain ⟨_, _, rfl, a, r⟩ := relL_cons hl
          obtain rfl := relL_nil r
          obtain ⟨_, rfl⟩ := rel_str a
          exact at_strIndex I
        · exact at_fail
      · rename_i e2
        try rw [e2]
        cases strEq_iff.mp hm
        refine ⟨"str.join", fun pl Q' E' s' h => by with_reducible exact getMethod_strM F.slot_str_join F.type_str_join h, fun I hl => ?_⟩
        rw [hm]
        try dsimp only
        split
        · obtain ⟨_, _, rfl, a, r⟩ := relL_cons hl
          obtain rfl := relL_nil r
          exact at_join I a
        · exact at_fail

noncomputable def isStrV (y : Str) : Value → Bool
  | .str x _ => strEq x y
  | _ => false
theorem posOf_spec {y : Str} : ∀ {ts : List Str} {j : Nat} {q : List (Str × Tok)}, posOf y ts = some j → q.map (·.1) = ts → ∃ hj : j < (strValues q).length, isStrV y (strValues q)[j] = true ∧ ∀ m (hm : m < (strValues q).length), m < j → isStrV y (strValues q)[m] = false
  | [], j, q, e, _ => by cases e
  | x :: r, j, [], e, h => by cases h
  | x :: r, j, (x', t) :: q, e, h => by
    simp only [List.map_cons, List.cons.injEq] at h
    obtain ⟨rfl, h⟩ := h
    rw [posOf] at e
    cases k : strEq x' y with
    | true =>
      rw [k] at e
      cases e
      exact ⟨by show 0 < (strValues q).length + 1; omega, k, fun m hm h => absurd h (Nat.not_lt_zero _)⟩
    | false =>
      rw [k] at e
      cases k2 : posOf y r with
      | none => rw [k2] at e; cases e
      | some i =>
        rw [k2] at e
        cases e
        obtain ⟨hj, h1, h2⟩ := posOf_spec k2 h
        refine ⟨by show i + 1 < (strValues q).length + 1; omega, h1, fun m hm h => ?_⟩
        cases m with
        | zero => exact k
        | succ m => exact h2 m (by have : m + 1 < (strValues q).length + 1 := hm; omega) (by omega)
theorem at_listIndex {n : Nat} {v : Value} {y : Str} {ty : Tok} {l : List PV} (R : Room A n) (I : Inv c sf g σ b s.heap) (hl : Rel c g v (.lst l)) :
    At c sf A σ (Rel c) (call (.builtin "list.index") [v, .str y ty]) (ok1 (Nat.ble l.length 1000) (.need ((textsOf l).bind fun ts => (posOf y ts).map iN) .ret)) g b s :=
  at_ok1 fun h1 => at_need fun w e => at_leaf I fun Q E q => by
    have h1 := Nat.le_of_ble_eq_true h1
    obtain ⟨_, _, _, _, rfl, a1, a2, a3, ad, ra⟩ := rel_lst hl
    rename_i a o vs k
    cases h : textsOf l with
    | none => rw [h] at e; cases e
    | some ts =>
      rw [h] at e
      obtain ⟨qs, e1, e2⟩ := texts_of (h := s.heap) ra h
      cases hp : posOf y ts with
      | none => simp [hp] at e
      | some j =>
        simp [hp] at e
        subst e
        obtain ⟨hj, f1, f2⟩ := posOf_spec hp e2
        have ev : vs = (strValues qs).toArray := by rw [← e1]
        subst ev
        have sz : (strValues qs).length = l.length := by have := ra.length; simpa using this
        obtain ⟨cls, dd, data, sl⟩ := o
        simp only at a2 a3
        subst a2 a3
        refine call_meets F.slot_list_index ⟨_, I.sub _ _ a1, rfl⟩ F.entry_list_index (F.args_list_index_2 _ _)
          (SeqAt.list_indexAt a (strValues qs).toArray k dd sl (.str y ty) (isStrV y) j (by simpa using hj) (by omega) f1 (fun m hm h => f2 m (by simpa using hm) h)) ⟨I.sub _ _ a1, fun u hu => ?_, q _ _ (.int _ _)⟩
        obtain ⟨i, hi, hu⟩ := List.getElem_of_mem (Array.mem_toList_iff.mpr hu)
        have hq : ∀ q : List (Str × Tok), ∀ u ∈ strValues q, ∃ x t, u = .str x t := by
          intro q
          induction q with
          | nil => intro u hu; cases hu
          | cons p q ih =>
            intro u hu
            rcases List.mem_cons.mp hu with rfl | hu
            · exact ⟨_, _, rfl⟩
            · exact ih u hu
        obtain ⟨x, t, rfl⟩ := hq qs u (by simpa using hu ▸ List.getElem_mem hi)
        show SeqAt.EqAt A.in1 s _ _ (strEq x y)
        rw [strEq_beq]
        exact SeqAt.EqAt.str_str x t y ty
end
theorem lstMethod_of {c : Cx} {A : Around} {g0 : Frz} {v : Value} {attr : Str} {l : List PV} (hm : strEq attr "index" = true) (hv : Rel c g0 v (.lst l)) : ∃ id, (∀ (pl : Sem Bool) (Q' : Value × List Value → Shared → Prop) E' (s' : Shared), LeF g0 s'.heap.get? → Q' (.builtin id, [v]) s' → wpAny (model c.prog c.w) A (getMethod v attr pl) Q' E' s') ∧
    ∀ {n : Nat} {sf : Slf} {σ : Sg} {g : Frz} {b : Nat} {s : Shared} {vs : List Value} {as : List PV}, Room A n → Inv c sf g σ b s.heap → Rel c g v (.lst l) → RelL c g vs as → At c sf A σ (Rel c) (call (.builtin id) (v :: vs)) (lstMeth l attr as) g b s := by
  unfold lstMeth
  rw [hm]
  cases strEq_iff.mp hm
  refine ⟨"list.index", ?_, ?_⟩
  · intro pl Q' E' s' sub h
    obtain ⟨_, _, _, _, rfl, a1, a2, a3, ad, ra⟩ := rel_lst hv
    exact getMethod_builtin ⟨_, sub _ _ a1, a2⟩ F.plainAttrs_list F.slot_list_index F.type_list_index (fun a e => by cases e; exact ⟨_, sub _ _ a1, ad⟩) h
  · intro n sf σ g b s vs as R I hv hl
    dsimp only
    split
    · obtain ⟨_, _, rfl, a, r⟩ := relL_cons hl
      obtain rfl := relL_nil r
      obtain ⟨_, rfl⟩ := rel_str a
      exact at_listIndex R I hv
    · exact at_fail
end Mine

namespace Mine

inductive RelS (c : Cx) (sf : Slf) (g : Frz) : Value → PV → Prop
  | self : RelS c sf g (.ref sf.x) .self
  | rel {u : Value} {v : PV} : Rel c g u v → RelS c sf g u v
theorem RelS.mono {c : Cx} {sf : Slf} {g g' : Frz} (m : LeF g g') {u : Value} {v : PV} (h : RelS c sf g u v) : RelS c sf g' u v := by
  cases h with
  | self => exact .self
  | rel h => exact .rel (h.mono m)
theorem RelS.toRel {c : Cx} {sf : Slf} {g : Frz} {u : Value} {v : PV} (h : RelS c sf g u v) (n : isSelf (some v) = false) : Rel c g u v := by
  cases h with
  | self => cases n
  | rel h => exact h
theorem RelS.ofSelf {c : Cx} {sf : Slf} {g : Frz} {u : Value} (h : RelS c sf g u .self) : u = .ref sf.x := by
  cases h with
  | self => rfl
  | rel h => cases h

/-- the variable's value in the frame -/
noncomputable def Held (env : Env) (h : Heap) (m : Str → Option Value) (k : NameKind) (x : Str) (u : Value) : Prop := match k with
  | .local => m x = some u
  | .cell => ∃ a, env.cells.lookup x = some a ∧ h.IsCell a (some u)
  | .free => ∃ a, env.cells.lookup x = some a ∧ h.IsCell a (some u)
  | _ => False

/-- the addresses that are the frame's own -/
noncomputable def Own (env : Env) (a : Addr) : Prop := a = env.locals ∨ ∃ x, env.cells.lookup x = some a

structure Fm (c : Cx) (sf : Slf) (g : Frz) (σ : Sg) (sc : Scope) (ρ : PEnv) (env : Env) (h : Heap) : Prop where
  sce : env.scope = sc
  kind : sc.kind = .function
  glob : env.globals = mainGlobals
  blt : env.builtins = builtinsNs
  ns : ∃ m, h.Ns env.locals m ∧ ∀ x v, look x ρ = some v → ∃ k u, kindIn sc x = some k ∧ Held env h m k x u ∧ RelS c sf g u v
  cells : ∀ x, kindIn sc x = some .cell → ∃ a uo, env.cells.lookup x = some a ∧ h.IsCell a uo
  inj : ∀ x y a, env.cells.lookup x = some a → env.cells.lookup y = some a → x = y
  apart : ∀ x a, env.cells.lookup x = some a → a ≠ env.locals
  live : ∀ a, Own env a → (h.get? a).isSome = true
  out : ∀ a, Own env a → g a = none
  ap : σ.pen ≠ .off → ∀ a, Own env a → a ≠ c.p
  apS : σ.slf ≠ none → ∀ a, Own env a → a ≠ sf.x ∧ a ≠ sf.dx

section
variable {c : Cx} {sf : Slf} {g g' : Frz} {σ : Sg} {b b' : Nat} {h h' : Heap} {sc : Scope} {ρ : PEnv} {env : Env}
theorem Held.at {m : Str → Option Value} {k : NameKind} {x : Str} {u : Value} (H : Held env h m k x u) (e : ∀ a o, Own env a → h.get? a = some o → h'.get? a = some o) : Held env h' m k x u := by
  cases k with
  | «local» => exact H
  | cell => obtain ⟨a, h1, o, h2, h3⟩ := H; exact ⟨a, h1, o, e a o (.inr ⟨x, h1⟩) h2, h3⟩
  | free => obtain ⟨a, h1, o, h2, h3⟩ := H; exact ⟨a, h1, o, e a o (.inr ⟨x, h1⟩) h2, h3⟩
  | _ => exact H.elim
theorem Fm.extN {W : Addr → Prop} (F : Fm c sf g σ sc ρ env h) (x : ExtN W g h g' h') (n : ∀ a, Own env a → ¬ W a) : Fm c sf g' σ sc ρ env h' where
  sce := F.sce
  kind := F.kind
  glob := F.glob
  blt := F.blt
  ns := by
    obtain ⟨m, hm, hv⟩ := F.ns
    refine ⟨m, hm.at fun o e => x.keep _ _ e (n _ (.inl rfl)), fun y v e => ?_⟩
    obtain ⟨k, u, h1, h2, h3⟩ := hv y v e
    exact ⟨k, u, h1, h2.at fun a o ho e => x.keep _ _ e (n _ ho), h3.mono x.mono⟩
  cells := fun y e => by
    obtain ⟨a, uo, h1, o, h2, h3⟩ := F.cells y e
    exact ⟨a, uo, h1, o, x.keep _ _ h2 (n _ (.inr ⟨y, h1⟩)), h3⟩
  inj := F.inj
  apart := F.apart
  live := fun a ho => by
    have := F.live a ho
    cases e : h.get? a with
    | none => rw [e] at this; cases this
    | some o => rw [x.keep _ _ e (n a ho)]; rfl
  out := fun a ho => x.out (F.out a ho) (F.live a ho)
  ap := F.ap
  apS := F.apS
theorem Fm.ext {W : Addr → Prop} (F : Fm c sf g σ sc ρ env h) (x : Ext W g h g' h') (n : ∀ a, Own env a → ¬ W a) : Fm c sf g' σ sc ρ env h' := F.extN x.n n
theorem Fm.extP (F : Fm c sf g σ sc ρ env h) (x : Ext (Wp σ.pen c.p) g h g' h') : Fm c sf g' σ sc ρ env h' :=
  F.ext x fun a ho hw => F.ap hw.is.1 a ho hw.is.2
end

/-- what a table's function promises -/
noncomputable def FnOk (c : Cx) (P : PenS → Prop) (n : Nat) (f : Value) (F : List PV → T PV) : Prop :=
  ∀ (sf : Slf) (A : Around) (σ : Sg) (g : Frz) (b : Nat) (s : Shared) (vs : List Value) (l : List PV), Room A n → P σ.pen → Inv c sf g σ b s.heap → RelL c g vs l → At c sf A σ (Rel c) (call f vs) (F l) g b s

structure TabOk (c : Cx) (P : PenS → Prop) (n : Nat) (Γ : Tab) : Prop where
  glob : ∀ x v, look x Γ.glob = some v → ∃ u, (c.mg x = some u ∨ (c.mg x = none ∧ c.mb x = some u)) ∧ Rel c c.hb.get? u v
  fn : ∀ a F, lookN a Γ.fn = some F → keepIn c.K (.ref a) = true ∧ FnOk c P n (.ref a) F
  cls : ∀ a F, lookN a Γ.cls = some F → keepIn c.K (.ref a) = true ∧ FnOk c P n (.ref a) fun l => (F l).bind fun fs => .ret (.obj a fs)
  meth : ∀ C x F, lookM C x Γ.meth = some F → ∃ f, keepIn c.K (.ref f) = true ∧ isFn c.K (.ref f) = true ∧ plainGet c.K C x = true ∧ findIn c.K (.ref C) x = some (some (.ref f)) ∧ FnOk c P n (.ref f) F
  ini : ∀ a F, lookN a Γ.ini = some F → ∃ f mc, keepIn c.K (.ref f) = true ∧ specialIn c.K (.ref a) "__getattribute__" = some (some (.builtin "type.__getattribute__")) ∧ readsIn c.K a mc = true ∧ findCls c.K (.ref a) mc "__init__" = some (.val (.ref f)) ∧ handedIn (.ref f) = true ∧
    ∀ (sf : Slf) (A : Around) (σ : Sg) (fs : List (Str × PV)) (g : Frz) (b : Nat) (s : Shared) (vs : List Value) (l : List PV), Room A n → P σ.pen → σ.slf = some fs → Inv c sf g σ b s.heap → RelL c g vs l →
      ∀ (Q : Value → Shared → Prop) (E : Value → Shared → Prop) (post : Nat → List (Str × PV) → Prop), Sat b (F σ.cl l fs) post →
        (∀ fs' b' g' h' tk, post b' fs' → Ext (fun a => Wp σ.pen c.p a ∨ a = sf.dx) g s.heap g' h' → Inv c sf g' { σ with slf := some fs' } b' h' → Q .none { s with heap := h', toks := tk }) →
        wpAny (model c.prog c.w) A (call (.ref f) (.ref sf.x :: vs)) Q E s
  att : ∀ C x, (lookM C x Γ.att).isSome = true → plainGet c.K C x = true ∧ hasDictIn c.K C = true ∧ (∃ attr, findIn c.K (.ref C) x = some attr ∧ noGet c.K attr = true) ∧ takerIn c.K C x = some none ∧ plainOver c.K C = true ∧
    findIn c.K (.ref C) "__setattr__" = some (some (.builtin "object.__setattr__"))
  nxt : keepIn c.K (.ref Γ.nxt) = true ∧ ∀ (sf : Slf) (A : Around) (σ : Sg) (g : Frz) (b : Nat) (s : Shared) (m : Int) (t : Tok), Room A n → P σ.pen → σ.pen = .any → Inv c sf g σ b s.heap →
    At c sf A σ (Rel c) (call (.ref Γ.nxt) [.ref c.p, .int m t]) (ok1 (decide (0 < m)) (ok1 (decide (m ≤ 1000)) (.next m fun i => .ret (.int i)))) g b s

structure Here (c : Cx) (P : PenS → Prop) (n : Nat) (sf : Slf) (A : Around) (σ : Sg) (g : Frz) (b : Nat) (s : Shared) (sc : Scope) (ρ : PEnv) (env : Env) : Prop where
  R : Room A n
  m : P σ.pen
  I : Inv c sf g σ b s.heap
  F : Fm c sf g σ sc ρ env s.heap
theorem Here.ext {c : Cx} {P : PenS → Prop} {n : Nat} {sf : Slf} {A : Around} {σ : Sg} {g g' : Frz} {b b' : Nat} {s : Shared} {sc : Scope} {ρ : PEnv} {env : Env} {h' : Heap} {tk : Nat}
    (H : Here c P n sf A σ g b s sc ρ env) (x : Ext (Wp σ.pen c.p) g s.heap g' h') (I : Inv c sf g' σ b' h') : Here c P n sf A σ g' b' { s with heap := h', toks := tk } sc ρ env :=
  ⟨H.R, H.m, I, H.F.extP x⟩

noncomputable def pairsOf (env : Env) (pos : Pos) : List (Option Expr) → List Expr → List (Sem Value × Sem Value)
  | some k :: ks, v :: vs => (eval k env, do let x ← eval v env; standAt pos; pure x) :: pairsOf env pos ks vs
  | _, _ => []
noncomputable def RelP (c : Cx) (g : Frz) : List (Value × Value) → List (Str × PV) → Prop
  | [], [] => True
  | (kv, v) :: vs, (k, x) :: l => (∃ t, kv = .str k t) ∧ Rel c g v x ∧ RelP c g vs l
  | _, _ => False
/-- an iterator that will give the items -/
structure Iter (c : Cx) (A : Around) (tg : Expr) (it : Value) (own : List Addr) (J : List PV → Frz → Heap → Prop) : Prop where
  frame : ∀ {xs g h g' h'}, J xs g h → LeF g h.get? → LeF g g' → (∀ a ∈ own, ∀ o, h.get? a = some o → h'.get? a = some o) → (∀ a ∈ own, g' a = none) → LeF g' h'.get? → J xs g' h'
  out : ∀ {xs g h}, J xs g h → ∀ a ∈ own, g a = none
  live : ∀ {xs g h}, J xs g h → ∀ a ∈ own, (h.get? a).isSome = true
  self : ∀ {s : Shared} {Q : Value → Shared → Prop} {E : Value → Shared → Prop} {xs g}, J xs g s.heap → Q it s → wpAny (model c.prog c.w) A (pyIter it) Q E s
  nil : ∀ {s : Shared} {Q : Option Value → Shared → Prop} {E : Value → Shared → Prop} {g}, J [] g s.heap → LeF g s.heap.get? → (∀ h' tk, (∀ a o, a ∉ own → s.heap.get? a = some o → h'.get? a = some o) → Q none { s with heap := h', toks := tk }) → wpAny (model c.prog c.w) A (pyNext it) Q E s
  cons : ∀ {s : Shared} {Q : Option Value → Shared → Prop} {E : Value → Shared → Prop} {g x xs}, J (x :: xs) g s.heap → LeF g s.heap.get? →
    (∀ v g' h' tk, Ext (· ∈ own) g s.heap g' h' → Rel c g' v x →
      (∀ (Q' : Unit → Shared → Prop) (E' : Value → Shared → Prop), (∀ h'' tk', Ext (· ∈ own) g' h' g' h'' → J xs g' h'' → Q' () { s with heap := h'', toks := tk' }) → wpAny (model c.prog c.w) A (letOwnedTupleGo tg it v) Q' E' { s with heap := h', toks := tk }) →
      Q (some v) { s with heap := h', toks := tk }) → wpAny (model c.prog c.w) A (pyNext it) Q E s

/-- an iterator given at a later state -/
noncomputable def Gives (c : Cx) (A : Around) (tg : Expr) (σ : Sg) (sf : Slf) (g : Frz) (b : Nat) (s : Shared) (m : (Value → Shared → Prop) → (Value → Shared → Prop) → Prop) (t : T (List PV)) : Prop :=
  ∀ (Q : Value → Shared → Prop) (E : Value → Shared → Prop) (post : Nat → List PV → Prop), Sat b t post →
    (∀ it xs b' g' h' tk own J, post b' xs → Ext (Wp σ.pen c.p) g s.heap g' h' → Inv c sf g' σ b' h' → Iter c A tg it own J → J xs g' h' → (∀ a ∈ own, s.heap.get? a = none) → xs.length ≤ 1000 → Q it { s with heap := h', toks := tk }) →
    m Q E

/-- the state of a comprehension's loop -/
structure Lp (c : Cx) (sf : Slf) (σ : Sg) (sc : Scope) (env : Env) (J : List PV → Frz → Heap → Prop) (D : Addr) (xs l0 : List PV) (ρ : PEnv) (g : Frz) (b : Nat) (h : Heap) : Prop where
  I : Inv c sf g σ b h
  F : Fm c sf g σ sc ρ env h
  J : J xs g h
  acc : ∃ ys, h.PlainList D ys ∧ RelL c g ys.toList l0
  fD : g D = none
structure Ap (c : Cx) (sf : Slf) (σ : Sg) (env : Env) (own : List Addr) (D : Addr) : Prop where
  D1 : D ∉ own
  D2 : ¬ Own env D
  D3 : σ.pen ≠ .off → D ≠ c.p
  D4 : σ.slf ≠ none → D ≠ sf.x ∧ D ≠ sf.dx
  O2 : ∀ a ∈ own, ¬ Own env a
  O3 : σ.pen ≠ .off → c.p ∉ own
  O4 : σ.slf ≠ none → sf.x ∉ own ∧ sf.dx ∉ own
noncomputable def WC (c : Cx) (σ : Sg) (own : List Addr) (env : Env) (D : Addr) (a : Addr) : Prop := Wp σ.pen c.p a ∨ a ∈ own ∨ a = env.locals ∨ a = D

/-- what a statement leaves -/
inductive FlowIs (c : Cx) (g : Frz) : Flow → PF → Prop
  | nxt : FlowIs c g .next .nxt
  | ret {v : Value} {x : PV} : Rel c g v x → FlowIs c g (.ret v) (.ret x)
structure SameM (σ σ' : Sg) : Prop where
  pen : penKind σ.pen = penKind σ'.pen
  slf : σ.slf = none ↔ σ'.slf = none
  cl : σ'.cl = σ.cl
noncomputable def Wa (env : Env) (sc : Scope) (lo : Bool) (a : Addr) : Prop := a = env.locals ∨ (lo = false ∧ ∃ x, kindIn sc x = some .cell ∧ env.cells.lookup x = some a)
noncomputable def Wst (c : Cx) (σ : Sg) (sf : Slf) (env : Env) (sc : Scope) (a : Addr) : Prop := Wp σ.pen c.p a ∨ Wa env sc false a ∨ (σ.slf ≠ none ∧ a = sf.dx)
noncomputable def AtX (c : Cx) (sf : Slf) (A : Around) (σ : Sg) (sc : Scope) (env : Env) (m : Sem Flow) (t : T (PF × PEnv × Sg)) (g : Frz) (b : Nat) (s : Shared) : Prop :=
  ∀ (Q : Flow → Shared → Prop) (E : Value → Shared → Prop) (post : Nat → PF × PEnv × Sg → Prop), Sat b t post →
    (∀ fl q b' g' h' tk, post b' q → Ext (Wst c σ sf env sc) g s.heap g' h' → Inv c sf g' q.2.2 b' h' → Fm c sf g' q.2.2 sc q.2.1 env h' → SameM σ q.2.2 → FlowIs c g' fl q.1 → Q fl { s with heap := h', toks := tk }) →
    wpAny (model c.prog c.w) A m Q E s
/-- an iterator's apartness from the frame -/
structure Ao (c : Cx) (sf : Slf) (σ : Sg) (env : Env) (own : List Addr) : Prop where
  O2 : ∀ a ∈ own, ¬ Own env a
  O3 : σ.pen ≠ .off → c.p ∉ own
  O4 : σ.slf ≠ none → sf.x ∉ own ∧ sf.dx ∉ own

structure Sound (c : Cx) (P : PenS → Prop) (n : Nat) (Γ : Tab) (r : R) : Prop where
  ev : ∀ {sf A σ g b s sc ρ env e}, Here c P n sf A σ g b s sc ρ env → At c sf A σ (Rel c) (eval e env) (r.ev sc ρ σ e) g b s
  evL : ∀ {sf A σ g b s sc ρ env es pos}, Here c P n sf A σ g b s sc ρ env → At c sf A σ (RelL c) (spliced (backTo pos (starEach es env))) (r.evL sc ρ σ es) g b s
  evD : ∀ {sf A σ g b s sc ρ env ks vs pos}, Here c P n sf A σ g b s sc ρ env → At c sf A σ (RelP c) (evalPairs (pairsOf env pos ks vs)) (r.evD sc ρ σ ks vs) g b s
  evBool : ∀ {sf A σ g b s sc ρ env op es pos}, Here c P n sf A σ g b s sc ρ env → At c sf A σ (Rel c) (boolOp pos op (evalEach es env)) (r.evBool sc ρ σ op es) g b s
  evC : ∀ {sf A σ g b s sc ρ env ops es pos va x}, Here c P n sf A σ g b s sc ρ env → Rel c g va x →
    At c sf A σ RelB (compareChain pos va ops (markedEach ops es (evalEach es env))) (r.evC sc ρ σ x ops es) g b s ∧
    At c sf A σ (fun _ v r => v = r) (testChain pos va ops (markedEach ops es (evalEach es env))) (r.evC sc ρ σ x ops es) g b s
  iter : ∀ {sf A σ g b s sc ρ env tg e}, Here c P n sf A σ g b s sc ρ env →
    Gives c A tg σ sf g b s (fun Q E => wpAny (model c.prog c.w) A (eval e env) (fun x s₁ => wpAny (model c.prog c.w) A (pyIter x) Q E s₁) E s) (r.evIter sc ρ σ tg e)
  comp : ∀ {sf A σ g b s sc ρ env tg it own J D l0 xs elt ifs iter scope pos}, Room A n → P σ.pen → Ap c sf σ env own D → Iter c A tg it own J → Lp c sf σ sc env J D xs l0 ρ g b s.heap → l0.length + xs.length ≤ 2000 →
    ∀ (R : Result → Shared → Prop) (post : Nat → List PV → Prop), Sat b (r.comp sc ρ σ elt tg ifs xs) post →
      (∀ l ys b' g' h' tk m, post b' l → ExtN (WC c σ own env D) g s.heap g' h' → Inv c sf g' σ b' h' → h'.PlainList D ys → g' D = none → RelL c g' ys.toList (l0 ++ l) → h'.Ns env.locals m → R (.ok .next) { s with heap := h', toks := tk }) →
      codeAny (model c.prog c.w) A (.compLoop (.ListComp elt [⟨tg, iter, ifs, 0⟩] scope pos) 0 it (.ref D) env) R s
  ex : ∀ {sf A σ g b s sc ρ env st}, Here c P n sf A σ g b s sc ρ env → AtX c sf A σ sc env (exec st env) (r.ex sc ρ σ st) g b s
  exs : ∀ {sf A σ g b s sc ρ env ss}, Here c P n sf A σ g b s sc ρ env → AtX c sf A σ sc env (execs ss env) (r.exs sc ρ σ ss) g b s
  loop : ∀ {sf A σ g b s sc ρ env tg it own J xs body}, Here c P n sf A σ g b s sc ρ env → Ao c sf σ env own → Iter c A tg it own J → J xs g s.heap →
    ∀ (R : Result → Shared → Prop) (post : Nat → PF × PEnv × Sg → Prop), Sat b (r.loop sc ρ σ tg body xs) post →
      (∀ fl q b' g' h' tk, post b' q → ExtN (fun a => Wst c σ sf env sc a ∨ a ∈ own) g s.heap g' h' → Inv c sf g' q.2.2 b' h' → Fm c sf g' q.2.2 sc q.2.1 env h' → SameM σ q.2.2 → FlowIs c g' fl q.1 → R (.ok fl) { s with heap := h', toks := tk }) →
      codeAny (model c.prog c.w) A (.forLoop tg it body [] env) R s
  tst : ∀ {sf A σ g b s sc ρ env e}, Here c P n sf A σ g b s sc ρ env → At c sf A σ (fun _ v r => v = r) (isTrue e env (eval e env)) (r.tst sc ρ σ e) g b s
  allT : ∀ {sf A σ g b s sc ρ env op es}, Here c P n sf A σ g b s sc ρ env → At c sf A σ (fun _ v r => v = r) (allTrue op es env) (r.allT sc ρ σ op es) g b s

section
variable {c : Cx} {P : PenS → Prop} {n : Nat} {Γ : Tab} {r : R} {sf : Slf} {A : Around} {σ : Sg} {g : Frz} {b : Nat} {s : Shared} {sc : Scope} {ρ : PEnv} {env : Env}
theorem at_wrap {α β : Type} {R : Frz → α → β → Prop} {m m' : Sem α} {t : T β} (h : ∀ Q E, wpAny (model c.prog c.w) A m Q E s → wpAny (model c.prog c.w) A m' Q E s) (k : At c sf A σ R m t g b s) : At c sf A σ R m' t g b s :=
  fun Q E post hs hq => h Q E (k Q E post hs hq)
theorem at_operate {R : Frz → Value → PV → Prop} {vs : List Value} {m : Sem Value} {t : T PV} (k : At c sf A σ R m t g b s) : At c sf A σ R (operate vs m) t g b s := at_wrap (fun Q E h => wpAny_operate' h) k
theorem at_operateB {vs : List Value} {m : Sem Value} {t : T Bool} (k : At c sf A σ RelB m t g b s) : At c sf A σ RelB (operate vs m) t g b s := at_wrap (fun Q E h => wpAny_operate' h) k

theorem s_const {k : Const} {kd : Nat} {pos : Pos} (I : Inv c sf g σ b s.heap) : At c sf A σ (Rel c) (eval (.Constant k kd pos) env) (hConst k) g b s := by
  cases k with
  | int i => exact at_leaf I fun Q E q => wpAny_Constant_int (q _ _ (.int _ _))
  | str i => exact at_leaf I fun Q E q => wpAny_Constant_str (q _ _ (.str _ _))
  | bool i => exact at_leaf I fun Q E q => wpAny_Constant_bool (q _ s.toks (.bool _))
  | none => exact at_leaf I fun Q E q => wpAny_Constant_none (q _ s.toks .none)
  | _ => exact at_fail

theorem kindOf_of {x : Str} {k : NameKind} (F : Fm c sf g σ sc ρ env s.heap) (e : kindIn sc x = some k) : env.kindOf x = some k := by
  show env.scope.names.lookup x = _
  rw [F.sce, ← look_lookup]; exact e
theorem glob_value {x : Str} {v : PV} {E} {Q : Value → Shared → Prop} (T : TabOk c P n Γ) (C : c.Ok) (I : Inv c sf g σ b s.heap) (F : Fm c sf g σ sc ρ env s.heap) (e : look x Γ.glob = some v) (h : ∀ u, Rel c g u v → Q u s) : wpAny (model c.prog c.w) A (loadGlobal env x) Q E s := by
  obtain ⟨u, hu, hr⟩ := T.glob x v e
  have hr := hr.mono I.base
  have k : ∀ a o, c.hb.get? a = some o → s.heap.get? a = some o := fun a o e => I.sub _ _ (I.base _ _ e)
  have G : s.heap.Ns env.globals c.mg := by rw [F.glob]; exact C.g.keeps k
  have B : s.heap.Ns env.builtins c.mb := by rw [F.blt]; exact C.b.keeps k
  rcases hu with hu | ⟨h1, hu⟩
  · exact loadGlobal_global G hu (h u hr)
  · exact loadGlobal_builtin G h1 B hu (h u hr)
theorem local_value {x : Str} {v : PV} {k : NameKind} {E} {Q : Value → Shared → Prop} (F : Fm c sf g σ sc ρ env s.heap) (e : look x ρ = some v) (hk : kindIn sc x = some k) (hc : k = .free → (x == ("__classdict__" : Str)) = false) (h : ∀ u, RelS c sf g u v → Q u s) : wpAny (model c.prog c.w) A (loadName env x) Q E s := by
  obtain ⟨m, hm, hv⟩ := F.ns
  obtain ⟨k', u, h1, h2, h3⟩ := hv x v e
  rw [hk] at h1
  cases h1
  have kd : env.scope.kind = .function := by rw [F.sce]; exact F.kind
  have hk := kindOf_of F hk
  cases k with
  | «local» => exact wpAny_loadName_local kd hk hm h2 (h u h3)
  | cell => obtain ⟨a, q1, q2⟩ := h2; exact wpAny_loadName_cell kd hk q1 q2 (h u h3)
  | free => obtain ⟨a, q1, q2⟩ := h2; exact wpAny_loadName_free kd hk q1 q2 (h u h3) (hc rfl)
  | _ => exact h2.elim
theorem at_noSelf {m : Sem Value} {v : PV} (I : Inv c sf g σ b s.heap) (h : ∀ Q E, (∀ u, RelS c sf g u v → Q u s) → wpAny (model c.prog c.w) A m Q E s) : At c sf A σ (Rel c) m (noSelf v) g b s := by
  unfold noSelf
  split
  · exact at_fail
  · rename_i n
    refine at_leaf I fun Q E q => h Q E fun u hu => q u s.toks ?_
    cases hu with
    | self => exact absurd rfl n
    | rel h => exact h
theorem strEq_false {x y : Str} (h : strEq x y = false) : (x == y) = false := by rw [← strEq_beq]; exact h
theorem s_name {x : Str} {pos : Pos} (T : TabOk c P n Γ) (C : c.Ok) (H : Here c P n sf A σ g b s sc ρ env) : At c sf A σ (Rel c) (eval (.Name x pos) env) (hName Γ sc ρ x) g b s := by
  unfold hName
  split
  · exact at_fail
  · rename_i hd
    have hd := strEq_false hd
    have kd : env.scope.kind = .function := by rw [H.F.sce]; exact H.F.kind
    unfold hName2
    split
    · rename_i k hk
      split
      · exact at_optT fun v e => at_leaf H.I fun Q E q => Name_function_global kd (kindOf_of H.F hk) (glob_value T C H.I H.F e fun u hu => q u s.toks hu) hd
      · exact at_fail
      · exact at_optT fun v e => at_noSelf H.I fun Q E q => wpAny_Name (local_value H.F e hk (fun e => nomatch e) q) hd
      · exact at_optT fun v e => at_noSelf H.I fun Q E q => wpAny_Name (local_value H.F e hk (fun e => nomatch e) q) hd
      · split
        · exact at_fail
        · rename_i hcd
          exact at_optT fun v e => at_noSelf H.I fun Q E q => wpAny_Name (local_value H.F e hk (fun _ => strEq_false hcd) q) hd
    · exact at_fail
theorem s_bin {l e : Expr} {op : Operator} {pos : Pos} (S : Sound c P n Γ r) (H : Here c P n sf A σ g b s sc ρ env) : At c sf A σ (Rel c) (eval (.BinOp l op e pos) env) (hBin r sc ρ σ l op e) g b s := by
  rw [arm_eval_BinOp]
  refine at_bind (S.ev H) fun va x b1 g1 h1 tk1 x1 I1 r1 => ?_
  have H1 := H.ext (tk := tk1) x1 I1
  refine at_bind (at_holding (S.ev H1)) fun vb y b2 g2 h2 tk2 x2 I2 r2 => ?_
  exact at_standAt (at_operate (at_binop op I2 (r1.mono x2.mono) r2))
theorem s_un {e : Expr} {op : UnaryOp} {pos : Pos} (S : Sound c P n Γ r) (H : Here c P n sf A σ g b s sc ρ env) : At c sf A σ (Rel c) (eval (.UnaryOp op e pos) env) (hUn r sc ρ σ op e) g b s := by
  rw [arm_eval_UnaryOp]
  refine at_bind (S.ev H) fun va x b1 g1 h1 tk1 x1 I1 r1 => ?_
  exact at_standAt (at_holding (at_unop op I1 r1))
theorem s_if {t a o : Expr} {pos : Pos} (S : Sound c P n Γ r) (H : Here c P n sf A σ g b s sc ρ env) : At c sf A σ (Rel c) (eval (.IfExp t a o pos) env) (hIf r sc ρ σ t a o) g b s := by
  rw [arm_eval_IfExp]
  refine at_bind (S.tst H) fun va x b1 g1 h1 tk1 x1 I1 r1 => ?_
  have H1 := H.ext (tk := tk1) x1 I1
  subst r1
  refine at_br (fun e => ?_) fun e => ?_
  · subst e; exact S.ev H1
  · subst e; exact S.ev H1
theorem s_list {es : List Expr} {pos : Pos} (S : Sound c P n Γ r) (H : Here c P n sf A σ g b s sc ρ env) : At c sf A σ (Rel c) (eval (.List es pos) env) (hList r sc ρ σ es) g b s := by
  rw [arm_eval_List]
  refine at_standAt (at_bind (S.evL H) fun vs l b1 g1 h1 tk1 x1 I1 r1 => at_ok1 fun hz => at_new I1 fun Q E q => ?_)
  have hz := Nat.le_of_ble_eq_true hz
  have ln := r1.length
  have X := Ext.alloc (W := W0) (o := { cls := .type "list", data := .seq vs.toArray }) I1.sub rfl
  exact wpAny_newObj_type (q _ _ _ tk1 X (.lst (put_same _ _ _) rfl rfl rfl (r1.mono X.mono))) (by show vs.toArray.size ≤ sizeLine; rw [List.size_toArray, sizeLine_eq]; omega)
theorem s_tuple {es : List Expr} {k : Nat} {pos : Pos} (S : Sound c P n Γ r) (H : Here c P n sf A σ g b s sc ρ env) : At c sf A σ (Rel c) (eval (.Tuple es k pos) env) (hTuple r sc ρ σ es) g b s := by
  rw [arm_eval_Tuple]
  refine at_standAt (at_bind (S.evL H) fun vs l b1 g1 h1 tk1 x1 I1 r1 => at_ok1 fun hz => at_new I1 fun Q E q => ?_)
  have hz := Nat.le_of_ble_eq_true hz
  have ln := r1.length
  have X := Ext.alloc (W := W0) (o := { cls := .type "tuple", data := .seq vs.toArray }) I1.sub rfl
  exact wpAny_newObj_type (q _ _ _ tk1 X (.tup (put_same _ _ _) rfl rfl (r1.mono X.mono))) (by show vs.toArray.size ≤ sizeLine; rw [List.size_toArray, sizeLine_eq]; omega)
theorem starEach_cons {e : Expr} {es : List Expr} (h : isStar e = false) : starEach (e :: es) env = (false, eval e env) :: starEach es env := by
  cases e <;> first | rfl | cases h
theorem s_L {es : List Expr} {pos : Pos} (S : Sound c P n Γ r) (H : Here c P n sf A σ g b s sc ρ env) : At c sf A σ (RelL c) (spliced (backTo pos (starEach es env))) (stepL r sc ρ σ es) g b s := by
  unfold stepL
  split
  · exact at_pure H.I .nil
  · split
    · exact at_fail
    · rename_i hst
      rename_i e es _ _
      intro Q E post hs hq
      refine wpAny_items_cons (S.ev H _ E _ (sat_bind.mp hs) fun va x b1 g1 h1 tk1 hp x1 I1 r1 => ?_) (starEach_cons hst)
      have H1 := H.ext (tk := tk1) x1 I1
      refine S.evL H1 _ E _ (sat_bind.mp hp) fun vs l b2 g2 h2 tk2 hp2 x2 I2 r2 => ?_
      exact hq _ _ _ _ _ _ (sat_ret.mp hp2) (x1.trans x2) I2 (.cons (r1.mono x2.mono) r2)
theorem s_bool {op : BoolOp} {es : List Expr} {pos : Pos} (S : Sound c P n Γ r) (H : Here c P n sf A σ g b s sc ρ env) : At c sf A σ (Rel c) (boolOp pos op (evalEach es env)) (stepBool r sc ρ σ op es) g b s := by
  unfold stepBool
  split
  · exact at_fail
  · split
    · rename_i e _
      show At c sf A σ (Rel c) (eval e env) _ g b s
      exact S.ev H
    · rename_i e _ e' es
      show At c sf A σ (Rel c) (eval e env >>= fun v => standAt pos >>= fun _ => holding [v] (truthy v) >>= fun t => match op, t with | .And, false => pure v | .Or, true => pure v | _, _ => boolOp pos op (evalEach (e' :: es) env)) (hBool r sc ρ σ op e (e' :: es)) g b s
      refine at_bind (S.ev H) fun va x b1 g1 h1 tk1 x1 I1 r1 => ?_
      have H1 := H.ext (tk := tk1) x1 I1
      refine at_standAt (at_bind (at_holding (at_truth (n := n) I1 r1)) fun z z' b2 g2 h2 tk2 x2 I2 r2 => ?_)
      have H2 := H1.ext (tk := tk2) x2 I2
      subst r2
      have r1 := r1.mono x2.mono
      cases op with
      | And => exact at_br (fun e => by subst e; exact S.evBool H2) (fun e => by subst e; exact at_pure I2 r1)
      | Or => exact at_br (fun e => by subst e; exact at_pure I2 r1) (fun e => by subst e; exact S.evBool H2)
theorem at_mapB {m : Sem Value} {t : T Bool} (h : At c sf A σ RelB m t g b s) : At c sf A σ (Rel c) m (t.bind fun z => .ret (.bool z)) g b s := by
  intro Q E post hs hq
  refine h Q E _ (sat_bind.mp hs) fun v z b' g' h' tk hp x I hv => ?_
  cases hv
  exact hq _ _ b' g' h' tk (sat_ret.mp hp) x I (.bool _)
theorem at_truthB {v : Value} {z : Bool} (I : Inv c sf g σ b s.heap) (h : RelB g v z) : At c sf A σ (fun _ v r => v = r) (truthy v) (.ret z) g b s := by
  cases h; exact at_leaf I fun Q E q => wpAny_truthy_bool (q _ s.toks rfl)
theorem mark_off {op : CmpOp} {e : Expr} {t : Sem Value} (h : behindInMarks op e = false) : markedBehindIn op e t = t := by
  unfold markedBehindIn; rw [h]
theorem s_cmp {l : Expr} {ops : List CmpOp} {es : List Expr} {pos : Pos} (S : Sound c P n Γ r) (H : Here c P n sf A σ g b s sc ρ env) : At c sf A σ (Rel c) (eval (.Compare l ops es pos) env) (hCmp r sc ρ σ l ops es) g b s := by
  rw [arm_eval_Compare]
  refine at_bind (S.ev H) fun va x b1 g1 h1 tk1 x1 I1 r1 => ?_
  exact at_mapB (S.evC (H.ext (tk := tk1) x1 I1) r1).1
theorem s_C {ops : List CmpOp} {es : List Expr} {pos : Pos} {va : Value} {x : PV} (S : Sound c P n Γ r) (H : Here c P n sf A σ g b s sc ρ env) (hv : Rel c g va x) :
    At c sf A σ RelB (compareChain pos va ops (markedEach ops es (evalEach es env))) (stepC r sc ρ σ x ops es) g b s ∧
    At c sf A σ (fun _ v r => v = r) (testChain pos va ops (markedEach ops es (evalEach es env))) (stepC r sc ρ σ x ops es) g b s := by
  unfold stepC
  split
  · exact ⟨at_fail, at_fail⟩
  · split
    · exact ⟨at_fail, at_fail⟩
    · rename_i op ops _ e es
      split
      · exact ⟨at_fail, at_fail⟩
      · rename_i hset
        have hm : ∀ op (t : Sem Value), markedBehindIn op e t = t := fun op t => mark_off (by cases e <;> first | rfl | cases hset)
        split
        · split
          · show At c sf A σ RelB (compareChain pos va [op] [markedBehindIn op e (eval e env)]) (hC1 r sc ρ σ x op e) g b s ∧ At c sf A σ _ (testChain pos va [op] [markedBehindIn op e (eval e env)]) (hC1 r sc ρ σ x op e) g b s
            rw [hm]
            constructor
            · show At c sf A σ RelB (holding [va] (eval e env) >>= fun rv => standAt pos >>= fun _ => operate [va, rv] (compareOp op va rv)) _ g b s
              refine at_bind (at_holding (S.ev H)) fun vb y b1 g1 h1 tk1 x1 I1 r1 => ?_
              exact at_standAt (at_operateB (at_cmp H.R op I1 (hv.mono x1.mono) r1))
            · show At c sf A σ _ (holding [va] (eval e env) >>= fun rv => standAt pos >>= fun _ => operate [va, rv] (compareOp op va rv) >>= fun c => holding [c] (truthy c)) _ g b s
              refine at_bind (at_holding (S.ev H)) fun vb y b1 g1 h1 tk1 x1 I1 r1 => at_standAt ?_
              intro Q E post hs hq
              refine wpAny_bind (at_operateB (at_cmp H.R op I1 (hv.mono x1.mono) r1) _ _ _ hs fun v z b2 g2 h2 tk2 hp x2 I2 r2 => wpAny_holding ?_)
              cases r2
              exact wpAny_truthy_bool (hq _ _ _ _ _ _ hp x2 I2 rfl)
          · exact ⟨at_fail, at_fail⟩
        · split
          · exact ⟨at_fail, at_fail⟩
          · rename_i op' ops _ e' es
            have hme : markedEach (op :: op' :: ops) (e :: e' :: es) (eval e env :: evalEach (e' :: es) env) = eval e env :: markedEach (op' :: ops) (e' :: es) (evalEach (e' :: es) env) := rfl
            show At c sf A σ RelB (compareChain pos va (op :: op' :: ops) (markedEach (op :: op' :: ops) (e :: e' :: es) (eval e env :: evalEach (e' :: es) env))) _ g b s ∧ At c sf A σ _ (testChain pos va (op :: op' :: ops) (markedEach (op :: op' :: ops) (e :: e' :: es) (eval e env :: evalEach (e' :: es) env))) _ g b s
            rw [hme]
            constructor
            · show At c sf A σ RelB (holding [va] (eval e env) >>= fun rv => standAt pos >>= fun _ => holding [va, rv] (compareOp op va rv) >>= fun c => release [va, rv] [c] >>= fun _ => holding [c, rv] (truthy c) >>= fun z => if z = true then compareChain pos rv (op' :: ops) (markedEach (op' :: ops) (e' :: es) (evalEach (e' :: es) env)) else pure c) (hC r sc ρ σ x op op' ops e e' es) g b s
              refine at_bind (at_holding (S.ev H)) fun vb y b1 g1 h1 tk1 x1 I1 r1 => at_standAt ?_
              refine at_bind (at_holding (at_cmp H.R op I1 (hv.mono x1.mono) r1)) fun v z b2 g2 h2 tk2 x2 I2 r2 => ?_
              have H2 := (H.ext (tk := tk1) x1 I1).ext (tk := tk2) x2 I2
              cases r2
              intro Q E post hs hq
              refine wpAny_bind (wpAny_release' (wpAny_bind (wpAny_holding (wpAny_truthy_bool ?_))))
              cases z with
              | true => exact (S.evC H2 (r1.mono x2.mono)).1 Q E post ((sat_br.mp hs).1 rfl) hq
              | false => exact at_pure (R := RelB) I2 rfl Q E post ((sat_br.mp hs).2 rfl) hq
            · show At c sf A σ _ (holding [va] (eval e env) >>= fun rv => standAt pos >>= fun _ => holding [va, rv] (compareOp op va rv) >>= fun c => release [va, rv] [c] >>= fun _ => holding [c, rv] (truthy c) >>= fun z => if z = true then testChain pos rv (op' :: ops) (markedEach (op' :: ops) (e' :: es) (evalEach (e' :: es) env)) else pure false) (hC r sc ρ σ x op op' ops e e' es) g b s
              refine at_bind (at_holding (S.ev H)) fun vb y b1 g1 h1 tk1 x1 I1 r1 => at_standAt ?_
              refine at_bind (at_holding (at_cmp H.R op I1 (hv.mono x1.mono) r1)) fun v z b2 g2 h2 tk2 x2 I2 r2 => ?_
              have H2 := (H.ext (tk := tk1) x1 I1).ext (tk := tk2) x2 I2
              cases r2
              intro Q E post hs hq
              refine wpAny_bind (wpAny_release' (wpAny_bind (wpAny_holding (wpAny_truthy_bool ?_))))
              cases z with
              | true => exact (S.evC H2 (r1.mono x2.mono)).2 Q E post ((sat_br.mp hs).1 rfl) hq
              | false => exact at_pure (R := fun _ v r => v = r) I2 rfl Q E post ((sat_br.mp hs).2 rfl) hq
theorem isTrue_plain' {e : Expr} {whole : Sem Value} (h : isTrue e env whole = (do let v ← whole; standAt e.pos; holding [v] (truthy v))) {t : T PV} (k : At c sf A σ (Rel c) whole t g b s) :
    At c sf A σ (fun _ v r => v = r) (isTrue e env whole) (t.bind fun v => truth v) g b s := by
  rw [h]
  refine at_bind k fun va x b1 g1 h1 tk1 x1 I1 r1 => ?_
  exact at_standAt (at_holding (at_truth (n := 0) I1 r1))
theorem s_tst {e : Expr} (S : Sound c P n Γ r) (H : Here c P n sf A σ g b s sc ρ env) : At c sf A σ (fun _ v r => v = r) (isTrue e env (eval e env)) (stepTst r sc ρ σ e) g b s := by
  cases e with
  | UnaryOp op x p =>
    cases op with
    | Not =>
      rw [arm_isTrue_UnaryOp]
      refine at_bind (S.tst H) fun va x b1 g1 h1 tk1 x1 I1 r1 => ?_
      subst r1
      exact at_pure I1 rfl
    | _ => exact isTrue_plain' rfl (S.ev H)
  | BoolOp =>
    rw [arm_isTrue_BoolOp]
    exact S.allT H
  | IfExp => exact at_fail
  | Compare =>
    rw [arm_isTrue_Compare]
    refine at_bind (S.ev H) fun va x b1 g1 h1 tk1 x1 I1 r1 => ?_
    exact (S.evC (H.ext (tk := tk1) x1 I1) r1).2
  | _ => exact isTrue_plain' rfl (S.ev H)
theorem s_all {op : BoolOp} {es : List Expr} (S : Sound c P n Γ r) (H : Here c P n sf A σ g b s sc ρ env) : At c sf A σ (fun _ v r => v = r) (allTrue op es env) (stepAll r sc ρ σ op es) g b s := by
  unfold stepAll
  split
  · cases op with
    | And => exact at_pure H.I rfl
    | Or => exact at_pure H.I rfl
  · rename_i e es
    rw [arm_allTrue_cons]
    refine at_bind (S.tst H) fun va x b1 g1 h1 tk1 x1 I1 r1 => ?_
    have H1 := H.ext (tk := tk1) x1 I1
    subst r1
    cases op with
    | And => exact at_br (fun e => by subst e; exact S.allT H1) (fun e => by subst e; exact at_pure I1 rfl)
    | Or => exact at_br (fun e => by subst e; exact at_pure I1 rfl) (fun e => by subst e; exact S.allT H1)
end
end Mine

namespace Mine

section
variable {c : Cx} {P : PenS → Prop} {n : Nat} {Γ : Tab} {r : R} {sf : Slf} {A : Around} {σ : Sg} {g : Frz} {b : Nat} {s : Shared} {sc : Scope} {ρ : PEnv} {env : Env}

theorem Inv.base' (I : Inv c sf g σ b s.heap) : ∀ a o, c.hb.get? a = some o → s.heap.get? a = some o := fun a o e => I.sub _ _ (I.base _ _ e)
theorem Inv.KIn (C : c.Ok) (I : Inv c sf g σ b s.heap) : c.K.In s.heap := C.K.keeps I.base'

theorem noStars_any {pos : Pos} : ∀ {es : List Expr}, noStars es = true → (backTo pos (starEach es env)).any (·.1) = false
  | [], _ => rfl
  | e :: es, h => by
    rw [noStars] at h
    cases q : isStar e with
    | true => rw [q] at h; cases h
    | false =>
      rw [q] at h
      simp only at h
      split at h
      · rw [starEach_cons q]
        show (false || (backTo pos (starEach es env)).any (·.1)) = false
        rw [noStars_any h]; rfl
      · cases h
theorem noStars_len {es : List Expr} (h : noStars es = true) : es.length ≤ 21 := by
  cases es with
  | nil => simp
  | cons e es =>
    rw [noStars] at h
    split at h
    · cases h
    · split at h
      · rename_i q; have := Nat.le_of_ble_eq_true q; simp; omega
      · cases h

noncomputable def KeepOk (c : Cx) (f : Value) (h : Heap) : Prop := ∃ k, (k = Keeper.frame ∨ k = Keeper.machine ∨ k = Keeper.boundFrame) ∧ Looks (model c.prog c.w) h (keeperOf f) k
theorem keepOk_type {t : String} {h : Heap} : KeepOk c (.type t) h := ⟨.machine, .inr (.inl rfl), .now⟩
theorem keepOk_builtin {t : String} {h : Heap} : KeepOk c (.builtin t) h := ⟨.machine, .inr (.inl rfl), .now⟩

/-- a call: the arguments, then the call -/
theorem at_callWith {pos : Pos} {f : Value} {first : List Value} {es : List Expr} {k : List PV → T PV} (S : Sound c P n Γ r) (hns : noStars es = true) (H : Here c P n sf A σ g b s sc ρ env)
    (h : ∀ vs l b' g' h' tk, Ext (Wp σ.pen c.p) g s.heap g' h' → Inv c sf g' σ b' h' → RelL c g' vs l →
      (∀ post, Sat b' (k l) post → KeepOk c f h') ∧ At c sf A σ (Rel c) (call f (first ++ vs)) (k l) g' b' { s with heap := h', toks := tk }) :
    At c sf A σ (Rel c) (callWith pos f first (backTo pos (starEach es env)) []) ((evArgs r sc ρ σ es).bind k) g b s := by
  intro Q E post hs hq
  refine callWith_of (P := fun h => KeepOk c f h) (by rw [noStars_any hns]; rfl) (fun h p => p) ?_
  cases es with
  | nil =>
    obtain ⟨h1, h2⟩ := h [] [] b g s.heap s.toks (Ext.refl H.I.sub) H.I .nil
    exact evalArgs_nil3 ⟨h1 _ hs, h2 Q E post hs fun v r b' g' h' tk hp x I hr => hq v r b' g' h' tk hp x I hr⟩
  | cons e es => 
    have hst : isStar e = false := by
      rw [noStars] at hns
      cases q : isStar e with
      | true => rw [q] at hns; cases hns
      | false => rfl
    have := S.evL (pos := pos) H (fun vs s' => KeepOk c f s'.heap ∧ wpAny (model c.prog c.w) A (call f (first ++ vs)) Q E s') E _ (sat_bind.mp hs) fun vs l b1 g1 h1 tk1 hp x1 I1 r1 => ?_
    · rw [starEach_cons hst] at this ⊢
      exact evalArgs_plain this
    · obtain ⟨h1, h2⟩ := h vs l b1 g1 h1 tk1 x1 I1 r1
      exact ⟨h1 _ hp, h2 Q E post hp fun v r b' g' h' tk hp x I hr => hq v r b' g' h' tk hp (x1.trans x) I hr⟩

theorem keepOk_K (C : c.Ok) (I : Inv c sf g σ b s.heap) {f : Value} (h : keepIn c.K f = true) : KeepOk c f s.heap := keeps_K h s.heap (I.KIn C)

/-- the call of a known value -/
theorem at_callV {f : Value} {x : PV} {vs : List Value} {l : List PV} (T : TabOk c P n Γ) (C : c.Ok) (H : Here c P n sf A σ g b s sc ρ env) (hf : Rel c g f x) (hl : RelL c g vs l) :
    (∀ post, Sat b (callV Γ σ.pen x l) post → KeepOk c f s.heap) ∧ At c sf A σ (Rel c) (call f vs) (callV Γ σ.pen x l) g b s := by
  cases x with
  | raw v =>
    cases hf
    cases f with
    | type t => exact ⟨fun _ _ => keepOk_type, at_type H.R H.I hl⟩
    | builtin t => exact ⟨fun _ _ => keepOk_builtin, at_builtin H.R H.I hl⟩
    | ref a =>
      unfold callV
      dsimp only
      split
      · rename_i e
        have e := Nat.eq_of_beq_eq_true e
        subst e
        refine ⟨fun _ _ => keepOk_K C H.I T.nxt.1, ?_⟩
        split
        · obtain ⟨_, _, rfl, h1, r⟩ := relL_cons hl
          obtain ⟨_, _, rfl, h2, r⟩ := relL_cons r
          obtain rfl := relL_nil r
          obtain rfl := rel_pen h1
          obtain ⟨_, rfl⟩ := rel_int h2
          split
          · rename_i hp; exact T.nxt.2 sf A σ g b s _ _ H.R H.m hp H.I
          · exact at_fail
          · exact at_fail
        · exact at_fail
      · split
        · rename_i F e
          exact ⟨fun _ _ => keepOk_K C H.I (T.fn _ _ e).1, (T.fn _ _ e).2 sf A σ g b s vs l H.R H.m H.I hl⟩
        · split
          · rename_i F e
            exact ⟨fun _ _ => keepOk_K C H.I (T.cls _ _ e).1, (T.cls _ _ e).2 sf A σ g b s vs l H.R H.m H.I hl⟩
          · exact ⟨fun _ h => (sat_fail.mp h).elim, at_fail⟩
    | _ => exact ⟨fun _ h => (sat_fail.mp h).elim, at_fail⟩
  | _ => exact ⟨fun _ h => (sat_fail.mp h).elim, at_fail⟩

theorem globV_some {x : Str} {v : PV} (e : globV Γ sc x = some v) : kindIn sc x = some .globalImplicit ∧ look x Γ.glob = some v := by
  unfold globV at e
  split at e
  · exact ⟨by assumption, e⟩
  · cases e
theorem s_callN {x : Str} {args : List Expr} {p pos : Pos} (T : TabOk c P n Γ) (C : c.Ok) (S : Sound c P n Γ r) (H : Here c P n sf A σ g b s sc ρ env) :
    At c sf A σ (Rel c) (eval (.Call (.Name x p) args [] pos) env) (hCallN Γ r sc ρ σ x args) g b s := by
  unfold hCallN
  split
  · exact at_fail
  · rename_i hd
    split
    · exact at_fail
    · rename_i hns
      refine at_optT fun fv e => ?_
      obtain ⟨hk, hg⟩ := globV_some e
      have kd : env.scope.kind = .function := by rw [H.F.sce]; exact H.F.kind
      intro Q E post hs hq
      refine wpAny_Call_Name_kw (Name_function_global kd (kindOf_of H.F hk) (glob_value T C H.I H.F hg fun u hu => ?_) (strEq_false hd))
      exact at_callWith (first := []) (k := fun as => callV Γ σ.pen fv as) S hns H (fun vs l b' g' h' tk x' I' r' => at_callV (vs := vs) T C (H.ext (tk := tk) x' I') (hu.mono x'.mono) r') Q E post hs hq

theorem base_of {o : Expr} {name : Str} (h : baseOk o = true) : attributeBase o name env (eval o env) = eval o env := by
  unfold attributeBase
  split
  · cases h
  · rfl

theorem relD_find {es : List DictEntry} {fs : List (Str × PV)} (h : RelD c g es fs) (k : Str) : (look k fs = none → getL k es = some none) ∧ ∀ x, look k fs = some x → ∃ v, getL k es = some (some v) ∧ Rel c g v x := by
  have key : es.any (·.refKey) = false ∧ (look k fs = none → es.find? (·.key.isStr k) = none) ∧ ∀ x, look k fs = some x → ∃ e, es.find? (·.key.isStr k) = some e ∧ Rel c g e.val x := by
    induction fs generalizing es with
    | nil => cases h; exact ⟨rfl, fun _ => rfl, fun x e => by cases e⟩
    | cons p fs ih =>
      obtain ⟨k', y⟩ := p
      cases h with
      | cons hv r =>
        rename_i hh tt v es
        obtain ⟨i1, i2, i3⟩ := ih r
        refine ⟨by rw [List.any_cons, i1]; rfl, ?_, ?_⟩
        · intro e
          rw [look_cons] at e
          split at e
          · cases e
          · rename_i q
            rw [List.find?_cons]
            have : (Value.str k' tt).isStr k = false := by show (k' == k) = false; simpa using q
            rw [this]; exact i2 e
        · intro x e
          rw [look_cons] at e
          rw [List.find?_cons]
          split at e
          · rename_i q
            cases e
            have : (Value.str k' tt).isStr k = true := by show (k' == k) = true; simpa using q
            rw [this]; exact ⟨_, rfl, hv⟩
          · rename_i q
            have : (Value.str k' tt).isStr k = false := by show (k' == k) = false; simpa using q
            rw [this]; exact i3 x e
  obtain ⟨k1, k2, k3⟩ := key
  unfold getL
  refine ⟨fun e => ?_, fun x e => ?_⟩
  · rw [k2 e]; simp [k1]
  · obtain ⟨en, h1, h2⟩ := k3 x e
    rw [h1]; exact ⟨_, rfl, h2⟩
theorem instAt_of {x C d : Addr} {es : List DictEntry} {m : Nat} {h : Heap} (h1 : h.get? x = some (instObj C d)) (h2 : h.get? d = some (dictOf es m)) : InstAt h x (instObj C d) C (some (dictOf es m)) :=
  ⟨h1, rfl, rfl, h2⟩
theorem handed_of {v : Value} {x : PV} (h : Rel c g v x) (n : ∀ w, x ≠ .raw w) : handedIn v = true := by
  cases h <;> first | rfl | exact absurd rfl (n _)
theorem get_field {x C d : Addr} {es : List DictEntry} {m : Nat} {fs : List (Str × PV)} {attr : Str} {expr : Bool} (T : TabOk c P n Γ) (C' : c.Ok) (I : Inv c sf g σ b s.heap) (h1 : s.heap.get? x = some (instObj C d)) (h2 : s.heap.get? d = some (dictOf es m)) (h3 : RelD c g es fs)
    (ha : (lookM C attr Γ.att).isSome = true) : At c sf A σ (Rel c) (getAttr (.ref x) attr expr) (.need (look attr fs) noRaw) g b s := by
  refine at_need fun v e => ?_
  unfold noRaw
  split
  · exact at_fail
  · rename_i hn
    refine at_leaf I fun Q E q => ?_
    obtain ⟨a1, a2, ⟨av, a3, a4⟩, _⟩ := T.att _ _ ha
    obtain ⟨u, f1, f2⟩ := (relD_find h3 attr).2 v e
    exact get_value (I.KIn C') (instAt_of h1 h2) (plainGet_of a1).1 (findObj_own a2 a3 a4 (by rw [lookIn_dict]; exact f1)) (handed_of f2 fun w e => hn w e) (q _ _ f2)
theorem at_then {α γ β : Type} {R : Frz → α → β → Prop} {R' : Frz → γ → β → Prop} {m : Sem α} {f : α → Sem γ} {t : T β} (h1 : At c sf A σ R m t g b s)
    (h2 : ∀ v r b' g' h' tk, Ext (Wp σ.pen c.p) g s.heap g' h' → Inv c sf g' σ b' h' → R g' v r → At c sf A σ R' (f v) (.ret r) g' b' { s with heap := h', toks := tk }) : At c sf A σ R' (m >>= f) t g b s :=
  fun Q E post hs hq => wpAny_bind (h1 (fun v s' => wpAny (model c.prog c.w) A (f v) Q E s') E post hs fun v r b' g' h' tk hp x I hr =>
    h2 v r b' g' h' tk x I hr Q E post (sat_ret.mpr hp) fun v2 r2 b2 g2 h2' tk2 hp2 x2 I2 hr2 => hq v2 r2 b2 g2 h2' tk2 hp2 (x.trans x2) I2 hr2)
theorem at_letGo {e : Expr} {o v : Value} {f : Unit → Sem Value} {t : T PV} (h : At c sf A σ (Rel c) (f ()) t g b s) : At c sf A σ (Rel c) (letTemporaryGo e o v >>= f) t g b s :=
  fun Q E post hs hq => wpAny_bind (wpAny_letTemporaryGo (h Q E post hs hq))
theorem s_attr {o : Expr} {attr : Str} {pos : Pos} (T : TabOk c P n Γ) (C : c.Ok) (S : Sound c P n Γ r) (H : Here c P n sf A σ g b s sc ρ env) :
    At c sf A σ (Rel c) (eval (.Attribute o attr pos) env) (hAttr Γ r sc ρ σ o attr) g b s := by
  rw [arm_eval_Attribute]
  unfold hAttr
  split
  · rename_i x p
    rw [base_of (o := .Name x p) rfl]
    split
    · rename_i hs
      split
      · rename_i hst
        split
        · exact at_fail
        · rename_i hd
          split
          · rename_i u hu
            refine at_optT fun fs e => ?_
            intro Q E post hsat hq
            have hk : ∃ k, kindIn sc x = some k ∧ k ≠ .free := by
              unfold stOk at hst
              split at hst
              · exact ⟨.local, by assumption, fun e => nomatch e⟩
              · exact ⟨.cell, by assumption, fun e => nomatch e⟩
              · cases hst
            obtain ⟨k, hk, hkf⟩ := hk
            have hself : look x ρ = some .self := by
              unfold isSelf at hs
              split at hs
              · assumption
              · cases hs
            refine wpAny_bind (wpAny_Name (local_value H.F hself hk (fun e => absurd e hkf) fun u hus => ?_) (strEq_false hd))
            cases hus.ofSelf
            have hI := H.I.slf
            rw [e] at hI
            obtain ⟨q1, es, m, q2, q3⟩ := hI
            have hC := H.I.slfC (by rw [e]; exact Option.some_ne_none _)
            have G := get_field (A := A) (expr := true) T C H.I q1 q2 q3 (by rw [hC, hu]; rfl)
            exact (at_standAt (at_then (at_holding G) fun v r b' g' h' tk x' I' hr => at_letGo (at_pure I' hr)) : At c sf A σ (Rel c) _ _ g b s) Q E post hsat hq
          · exact at_fail
      · exact at_fail
    · refine at_bind (S.ev H) fun va y b1 g1 h1 tk1 x1 I1 r1 => at_standAt ?_
      unfold fieldOf
      split
      · obtain ⟨_, _, _, _, rfl, a1, a2, a3⟩ := rel_obj r1
        split
        · rename_i hu
          have G := get_field (s := { s with heap := h1, toks := tk1 }) (A := A) (expr := true) (attr := attr) T C I1 (I1.sub _ _ a1) (I1.sub _ _ a2) a3 (by rw [hu]; rfl)
          exact at_then (at_holding G) fun v r b' g' h' tk x' I' hr => at_letGo (at_pure I' hr)
        · exact at_fail
      · exact at_fail
  · exact at_fail

theorem form_ok {pos : Pos} {args : List Expr} (h : noStars args = true) : methodCallForm (args.length + ([] : List Keyword).length) (backTo pos (starEach args env)) (backToKw pos (keywordEach [] env)) = true := by
  unfold methodCallForm
  have h1 := noStars_len h
  have h2 := noStars_any (env := env) (pos := pos) h
  have h3 : (backTo pos (starEach args env)).all (fun x => !x.1) = true := by
    rw [List.all_eq_true]
    intro x hx
    cases q : x.1 with
    | false => rfl
    | true => rw [List.any_eq_true.mpr ⟨x, hx, q⟩] at h2; cases h2
  have h4 : backToKw pos (keywordEach [] env) = [] := rfl
  rw [h3, h4]
  simp
  omega
theorem s_callA {o : Expr} {attr : Str} {apos pos : Pos} {args : List Expr} (T : TabOk c P n Γ) (C : c.Ok) (S : Sound c P n Γ r) (H : Here c P n sf A σ g b s sc ρ env) :
    At c sf A σ (Rel c) (eval (.Call (.Attribute o attr apos) args [] pos) env) (hCallA Γ r sc ρ σ o attr apos pos args) g b s := by
  unfold hCallA
  split
  · rename_i hline
    have hline : (apos.endLine == pos.line) = true := by simpa using hline
    split
    · rename_i hb
      split
      · rename_i hns
        rw [arm_eval_Call, base_of hb]
        refine at_bind (S.ev H) fun ov x b1 g1 h1 tk1 x1 I1 r1 => at_standAt (at_ok1 fun hm => ?_)
        have H1 := H.ext (tk := tk1) x1 I1
        unfold methodCall calleeOf methodCallPos
        rw [form_ok hns]
        simp only [if_true, hline, Bool.not_true, Bool.or_true]
        unfold methOk at hm
        split at hm
        · obtain ⟨_, rfl⟩ := rel_str r1
          rename_i y t
          obtain ⟨id, k1, k2⟩ := strMethod_of c A (x := y) (tx := t) (attr := attr) hm
          intro Q E post hs hq
          refine wpAny_bind (wpAny_holding (k1 _ _ _ _ ?_))
          refine wpAny_bind (wpAny_pure ?_)
          exact at_callWith (first := [.str y t]) (k := fun as => methV Γ (.str y) attr as) S hns H1 (fun vs l b2 g2 h2 tk2 x2 I2 r2 => ⟨fun _ _ => keepOk_builtin, k2 I2 r2⟩) Q E post hs hq
        · obtain ⟨id, k1, k2⟩ := lstMethod_of (A := A) hm r1
          intro Q E post hs hq
          refine wpAny_bind (wpAny_holding (k1 _ _ _ _ I1.sub ?_))
          refine wpAny_bind (wpAny_pure ?_)
          exact at_callWith (first := [ov]) (k := fun as => methV Γ (.lst _) attr as) S hns H1 (fun vs l b2 g2 h2 tk2 x2 I2 r2 => ⟨fun _ _ => keepOk_builtin, k2 H.R I2 (r1.mono x2.mono) r2⟩) Q E post hs hq
        · rename_i C' fs
          split at hm
          · cases hm
          · rename_i hl
            split at hm
            · rename_i F hF
              obtain ⟨f, m1, m2, m3, m4, m5⟩ := T.meth _ _ _ hF
              obtain ⟨_, _, _, _, rfl, a1, a2, a3⟩ := rel_obj r1
              rename_i x d es m
              intro Q E post hs hq
              refine wpAny_bind (wpAny_holding ?_)
              have I' := instAt_of (I1.sub _ _ a1) (I1.sub _ _ a2)
              refine method_fn (I1.KIn C) I' (plainGet_of m3).1 (plainGet_of m3).2 m4 (beq_iff_eq.mp m2) ?_ ?_
              · show (lookIn attr (dictOf es m)).map _ = _
                rw [lookIn_dict, (relD_find a3 attr).1 hl]; rfl
              · refine wpAny_bind (wpAny_pure ?_)
                have hmv : ∀ as, methV Γ (.obj C' fs) attr as = F (.obj C' fs :: as) := fun as => by
                  unfold methV
                  simp only [hl, hF]
                exact at_callWith (first := [.ref x]) (k := fun as => methV Γ (.obj C' fs) attr as) S hns H1 (fun vs l b2 g2 h2 tk2 x2 I2 r2 => by
                  rw [hmv]
                  exact ⟨fun _ _ => keepOk_K (s := { s with heap := h2, toks := tk2 }) C I2 m1, m5 sf A σ g2 b2 { s with heap := h2, toks := tk2 } (.ref x :: vs) (.obj C' fs :: l) H.R H.m I2 (.cons ((Rel.obj a1 a2 a3).mono x2.mono) r2)⟩) Q E post hs hq
            · cases hm
        · cases hm
      · exact at_fail
    · exact at_fail
  · exact at_fail
end
end Mine

namespace Mine

/-- a new object, later changed, that is not frozen -/
theorem Ext.sameBut {W : Addr → Prop} {g g' : Frz} {h h' h'' : Heap} {D : Addr} (x : Ext W g h g' h') (k : Heap.SameBut D h' h'') (n : h.get? D = none) (f : g' D = none) : Ext W g h g' h'' where
  mono := x.mono
  new := x.new
  keep := fun a o e nw => by
    have : a ≠ D := fun q => by rw [q, n] at e; cases e
    rw [k.2 a this]; exact x.keep a o e nw
  live := fun a e => by
    have : a ≠ D := fun q => by rw [q, n] at e; cases e
    rw [k.2 a this]; exact x.live a e
  sub := fun a o e => by
    have : a ≠ D := fun q => by rw [q, f] at e; cases e
    rw [k.2 a this]; exact x.sub a o e
theorem PenB.mono {c : Cx} {g g' : Frz} {p : PenS} {b : Nat} {h h' : Heap} (q : PenB c g p b h) (m : LeF g g') (k : p ≠ .off → ∀ o, h.get? c.p = some o → h'.get? c.p = some o) : PenB c g' p b h' := by
  unfold PenB at q ⊢
  split at q
  · exact trivial
  · exact PenAt.mono m (k fun h => nomatch h) q
  · obtain ⟨P, y, z⟩ := q
    exact ⟨P, PenAt.mono m (k fun h => nomatch h) y, z⟩
theorem RelP.mono {c : Cx} {g g' : Frz} (m : LeF g g') : ∀ {vs : List (Value × Value)} {l : List (Str × PV)}, RelP c g vs l → RelP c g' vs l
  | [], [], _ => trivial
  | (kv, v) :: vs, (k, x) :: l, h => ⟨h.1, h.2.1.mono m, RelP.mono m h.2.2⟩
  | [], _ :: _, h => h.elim
  | _ :: _, [], h => h.elim

section
variable {c : Cx} {P : PenS → Prop} {n : Nat} {Γ : Tab} {r : R} {sf : Slf} {A : Around} {σ : Sg} {g : Frz} {b : Nat} {s : Shared} {sc : Scope} {ρ : PEnv} {env : Env}

theorem keyOf_some {k : Option Expr} {x : Str} (h : keyOf k = some x) : ∃ kd p, k = some (.Constant (.str x) kd p) := by
  unfold keyOf at h
  split at h
  · cases h; exact ⟨_, _, rfl⟩
  · cases h
theorem s_D {ks : List (Option Expr)} {vs : List Expr} {pos : Pos} (S : Sound c P n Γ r) (H : Here c P n sf A σ g b s sc ρ env) : At c sf A σ (RelP c) (evalPairs (pairsOf env pos ks vs)) (stepD r sc ρ σ ks vs) g b s := by
  unfold stepD
  split
  · split
    · exact at_pure H.I trivial
    · exact at_fail
  · split
    · exact at_fail
    · rename_i k ks _ v vs
      refine at_optT fun x e => ?_
      obtain ⟨kd, p, rfl⟩ := keyOf_some e
      show At c sf A σ (RelP c) (eval (.Constant (.str x) kd p) env >>= fun kv => holding [kv] (eval v env >>= fun y => standAt pos >>= fun _ => pure y) >>= fun vv => holding [kv, vv] (evalPairs (pairsOf env pos ks vs)) >>= fun r => pure ((kv, vv) :: r)) (hD r sc ρ σ x v ks vs) g b s
      intro Q E post hs hq
      refine wpAny_bind (wpAny_Constant_str ?_)
      have H0 : Here c P n sf A σ g b { s with toks := s.toks + 1 } sc ρ env := ⟨H.R, H.m, H.I, H.F⟩
      refine (at_bind (R := Rel c) (at_holding (m := eval v env >>= fun y => standAt pos >>= fun _ => pure y) (t := r.ev sc ρ σ v) ?_) fun vv y b1 g1 h1 tk1 x1 I1 r1 => ?_ : At c sf A σ (RelP c) _ _ g b { s with toks := s.toks + 1 }) Q E post hs hq
      · exact at_then (S.ev H0) fun v r b' g' h' tk x' I' hr => at_standAt (at_pure I' hr)
      · have H1 := H0.ext (tk := tk1) x1 I1
        refine at_bind (at_holding (S.evD H1)) fun kvs l b2 g2 h2 tk2 x2 I2 r2 => ?_
        exact at_pure I2 ⟨⟨_, rfl⟩, r1.mono x2.mono, r2⟩

theorem pairs_shape {pos : Pos} : ∀ {ks : List (Option Expr)} {vs : List Expr}, ks.length = vs.length → ks.all (·.isSome) = true →
    (evalEachOpt ks env).zip ((evalEach vs env).map fun v => do let x ← v; standAt pos; pure x) = (pairsOf env pos ks vs).map (fun p => (some p.1, p.2)) ∧ (pairsOf env pos ks vs).length = ks.length
  | [], [], _, _ => ⟨rfl, rfl⟩
  | k :: ks, v :: vs, h, e => by
    cases k with
    | none => simp at e
    | some k =>
      obtain ⟨h1, h2⟩ := pairs_shape (pos := pos) (ks := ks) (vs := vs) (by simpa using h) (by simpa using e)
      constructor
      · show (some (eval k env), _) :: (evalEachOpt ks env).zip ((evalEach vs env).map _) = _
        rw [h1]; rfl
      · show (pairsOf env pos ks vs).length + 1 = _
        rw [h2]; rfl
  | [], _ :: _, h, _ => by cases h
  | _ :: _, [], h, _ => by cases h

theorem relP_kvs : ∀ {vs : List (Value × Value)} {l : List (Str × PV)}, RelP c g vs l → ∃ kvs : List (Str × Value), Carries (strKind c.prog c.w) vs kvs ∧ RelK c g kvs l
  | [], [], _ => ⟨[], trivial, .nil⟩
  | (kv, v) :: vs, (k, x) :: l, h => by
    obtain ⟨⟨t, rfl⟩, h2, h3⟩ := h
    obtain ⟨kvs, q1, q2⟩ := relP_kvs h3
    exact ⟨(k, v) :: kvs, ⟨strKind_is _ _ _ _, rfl, q1⟩, .cons h2 q2⟩
  | [], _ :: _, h => h.elim
  | _ :: _, [], h => h.elim
theorem relK_keys : ∀ {kvs : List (Str × Value)} {l : List (Str × PV)}, RelK c g kvs l → kvs.map (·.1) = l.map (·.1)
  | _, _, .nil => rfl
  | _, _, .cons _ r => by rw [List.map_cons, List.map_cons, relK_keys r]
theorem look_none {k : Str} : ∀ {l : List (Str × PV)}, look k l = none → ∀ p ∈ l, p.1 ≠ k
  | [], _, p, h => by cases h
  | (y, v) :: r, e, p, h => by
    rw [look_cons] at e
    split at e
    · cases e
    · rename_i q
      rcases List.mem_cons.mp h with rfl | h
      · exact q
      · exact look_none e p h
theorem merged_free : ∀ {more acc : List (Str × Value)} {l : List (Str × PV)}, more.map (·.1) = l.map (·.1) → nodupK l = true → (∀ p ∈ more, ∀ q ∈ acc, q.1 ≠ p.1) → merged acc more = acc ++ more
  | [], acc, _, _, _, _ => by simp [merged]
  | (k, v) :: more, acc, [], e, _, _ => by cases e
  | (k, v) :: more, acc, (k', x) :: l, e, h, d => by
    simp only [List.map_cons, List.cons.injEq] at e
    obtain ⟨rfl, e⟩ := e
    rw [nodupK] at h
    cases hl : look k l with
    | some w => rw [hl] at h; cases h
    | none =>
      rw [hl] at h
      have hn := look_none hl
      have hm : ∀ p ∈ more, p.1 ≠ k := fun p hp q => by
        have : p.1 ∈ l.map (·.1) := by rw [← e]; exact List.mem_map_of_mem hp
        obtain ⟨z, hz, ez⟩ := List.mem_map.mp this
        exact hn z hz (ez.trans q)
      have st : stored acc k v = acc ++ [(k, v)] := by
        unfold stored
        rw [if_neg]
        intro hc
        obtain ⟨z, hz, ez⟩ := List.any_eq_true.mp hc
        exact d (k, v) (List.mem_cons_self ..) z hz (by simpa using ez)
      have : merged acc ((k, v) :: more) = merged (stored acc k v) more := by simp [merged]
      rw [this, st, merged_free e h fun p hp q hq => ?_]
      · simp
      · rcases List.mem_append.mp hq with hq | hq
        · exact d p (List.mem_cons_of_mem _ hp) q hq
        · simp at hq; subst hq; exact fun e => hm p hp e.symm

theorem sys_ne (C : c.Ok) (I : Inv c sf g σ b s.heap) : (s.heap.objs.size == sysModules) = false := by
  have h := (C.g.keeps I.base').lt
  rw [beq_eq_false_iff_ne]
  intro e
  rw [e] at h
  exact absurd h (by decide)
theorem s_dict {ks : List (Option Expr)} {vs : List Expr} {pos : Pos} (C : c.Ok) (S : Sound c P n Γ r) (H : Here c P n sf A σ g b s sc ρ env) : At c sf A σ (Rel c) (eval (.Dict ks vs pos) env) (hDict r sc ρ σ ks vs) g b s := by
  unfold hDict
  split
  · exact at_fail
  · split
    · exact at_fail
    · rename_i k ks _ v vs
      refine at_ok1 fun e1 => at_ok1 fun e2 => at_ok1 fun e3 => at_ok1 fun e4 => ?_
      have e1 := Nat.eq_of_beq_eq_true e1
      have e2 := Nat.le_of_ble_eq_true e2
      obtain ⟨p1, p2⟩ := pairs_shape (env := env) (pos := pos) (ks := k :: ks) (vs := v :: vs) (by simpa using e1) (by rw [List.all_cons, e4, e3]; rfl)
      intro Q E post hs hq
      refine wpAny_Dict_pairs (knd := strKind c.prog c.w) p1 (fun e => by rw [e] at p2; cases p2) (by rw [p2]; simp; omega) ?_
      have X0 : Ext W0 g s.heap g (s.heap.push { cls := .type "dict", data := .dict #[] }) := Ext.grown H.I.sub fun a o e => Heap.get?_push_of_some _ e
      have H0 := H.ext (tk := s.toks) X0.any (H.I.ext0 X0)
      have fr : g s.heap.objs.size = none := none_of_sub H.I.sub get_size
      have D0 := Heap.DictOf.new (knd := strKind c.prog c.w) s.heap
      refine S.evD H0 _ E _ (sat_bind.mp hs) fun kvs l b1 g1 h1 tk1 hp x1 I1 r1 => ?_
      have hp := sat_br.mp hp
      cases hnd : nodupK l with
      | false => exact (sat_fail.mp (hp.2 hnd)).elim
      | true =>
        have hp := sat_ret.mp (hp.1 hnd)
        obtain ⟨kvs', q1, q2⟩ := relP_kvs r1
        refine ⟨kvs', q1, ?_, fun h' hd hsb => ?_⟩
        · obtain ⟨o, ho, hd⟩ := Heap.dictOf_iff.mp D0
          refine Heap.dictOf_iff.mpr ⟨o, x1.keep _ _ ho fun hw => ?_, hd⟩
          have := H.I.penLive hw.is.1
          rw [← hw.is.2, get_size] at this
          cases this
        · rw [merged_free (relK_keys q2) hnd (fun p hp q hq => by cases hq), List.nil_append] at hd
          obtain ⟨o, ho, hd⟩ := Heap.dictOf_iff.mp hd
          have live : ((s.heap.push { cls := .type "dict", data := .dict #[] }).get? s.heap.objs.size).isSome = true := by rw [Heap.get?_push_size _ rfl]; rfl
          have f1 : g1 s.heap.objs.size = none := x1.out fr live
          have X := ((X0.any.trans x1).sameBut hsb get_size f1).freeze get_size f1 ho
          have hpn : σ.pen ≠ .off → c.p ≠ s.heap.objs.size := fun n e => by have := H.I.penLive n; rw [e, get_size] at this; cases this
          exact hq _ _ b1 _ _ _ hp X (H.I.extP X (PenB.mono I1.pen (put_le f1) fun nn o' e => by rw [hsb.2 _ (hpn nn)]; exact e)) (.dic (sys_ne C H.I) (put_same _ _ _) hd (q2.mono (put_le f1)))

theorem s_item {o i : Expr} {pos : Pos} (S : Sound c P n Γ r) (H : Here c P n sf A σ g b s sc ρ env) : At c sf A σ (Rel c) (eval (.Subscript o i pos) env) (hItem r sc ρ σ o i) g b s := by
  rw [arm_eval_Subscript]
  refine at_bind (S.ev H) fun va x b1 g1 h1 tk1 x1 I1 r1 => ?_
  have H1 := H.ext (tk := tk1) x1 I1
  refine at_bind (at_holding (S.ev H1)) fun vb y b2 g2 h2 tk2 x2 I2 r2 => at_standAt ?_
  exact at_item rfl I2 (r1.mono x2.mono) r2
theorem s_part {o : Option Expr} (S : Sound c P n Γ r) (H : Here c P n sf A σ g b s sc ρ env) : At c sf A σ (fun _ v q => PartIs v q) (evalPart o env) (evP r sc ρ σ o) g b s := by
  unfold evP
  split
  · exact at_pure H.I .none
  · rename_i e
    intro Q E post hs hq
    refine S.ev H _ E _ (sat_bind.mp hs) fun v x b' g' h' tk hp x' I' hr => ?_
    cases x with
    | int i => cases hr; exact hq _ _ _ _ _ _ (sat_ret.mp hp) x' I' (.int _ _)
    | _ => exact (sat_fail.mp hp).elim
theorem s_slice {o : Expr} {lo hi st : Option Expr} {p pos : Pos} (S : Sound c P n Γ r) (H : Here c P n sf A σ g b s sc ρ env) : At c sf A σ (Rel c) (eval (.Subscript o (.Slice lo hi st p) pos) env) (hSlice r sc ρ σ o lo hi st) g b s := by
  rw [arm_eval_Subscript]
  refine at_bind (S.ev H) fun va x b1 g1 h1 tk1 x1 I1 r1 => ?_
  have H1 := H.ext (tk := tk1) x1 I1
  intro Q E post hs hq
  refine wpAny_bind (wpAny_holding (wpAny_Slice ?_))
  refine s_part S H1 _ E _ (sat_bind.mp hs) fun vl l b2 g2 h2 tk2 hp2 x2 I2 r2 => ?_
  have H2 := H1.ext (tk := tk2) x2 I2
  refine s_part S H2 _ E _ (sat_bind.mp hp2) fun vu u b3 g3 h3 tk3 hp3 x3 I3 r3 => ?_
  have H3 := H2.ext (tk := tk3) x3 I3
  refine s_part S H3 _ E _ (sat_bind.mp hp3) fun vt t b4 g4 h4 tk4 hp4 x4 I4 r4 => ?_
  have X0 : Ext W0 g4 h4 g4 (h4.push { cls := .type "slice", data := .fields #[vl, vu, vt] }) := Ext.grown I4.sub fun a o e => Heap.get?_push_of_some _ e
  have I5 := I4.ext0 X0
  have IS : (h4.push { cls := .type "slice", data := .fields #[vl, vu, vt] }).IsSliceOf h4.objs.size vl vu vt := ⟨_, Heap.get?_push_size _ rfl, rfl, rfl⟩
  refine wpAny_bind (wpAny_standAt ?_)
  have m4 := (x2.trans (x3.trans x4))
  exact at_slice (s := { s with heap := h4.push { cls := .type "slice", data := .fields #[vl, vu, vt] }, toks := tk4 }) (value := o) (sx := .Slice lo hi st p) I5 (r1.mono m4.mono) IS r2 r3 r4 Q E post hp4 fun v r b' g' h' tk hp x5 I6 hr =>
    hq v r b' g' h' tk hp (m4.trans (X0.any.trans x5)) I6 hr
theorem s_sub {o i : Expr} {pos : Pos} (S : Sound c P n Γ r) (H : Here c P n sf A σ g b s sc ρ env) : At c sf A σ (Rel c) (eval (.Subscript o i pos) env) (hSub r sc ρ σ o i) g b s := by
  cases i with
  | Slice => exact s_slice S H
  | Constant => exact s_item S H
  | Name => exact s_item S H
  | Call => exact s_item S H
  | BinOp => exact s_item S H
  | UnaryOp => exact s_item S H
  | _ => exact at_fail
end
end Mine

namespace Mine

theorem look_setE {x z : Str} {y : PV} : ∀ {ρ : PEnv}, look z (setE x y ρ) = if x = z then some y else look z ρ
  | [] => by
    show look z [(x, y)] = _
    rw [look_cons]
  | (k, u) :: r => by
    have e : setE x y ((k, u) :: r) = match strEq k x with | true => (k, y) :: r | false => (k, u) :: setE x y r := rfl
    rw [e]
    cases h : strEq k x with
    | true =>
      have := strEq_iff.mp h
      subst this
      simp only [look_cons]
      split
      · rfl
      · rfl
    | false =>
      have hk : k ≠ x := fun q => by rw [strEq_iff.mpr q] at h; cases h
      simp only [look_cons, look_setE (ρ := r)]
      by_cases q : k = z
      · subst q
        rw [if_pos rfl, if_neg (fun e => hk e.symm), if_pos rfl]
      · rw [if_neg q, if_neg q]

theorem Wa.own {env : Env} {sc : Scope} {lo : Bool} {a : Addr} (h : Wa env sc lo a) : Own env a := by
  rcases h with h | ⟨_, x, _, h⟩
  · exact .inl h
  · exact .inr ⟨x, h⟩

theorem stV_kind {lo : Bool} {sc : Scope} {x : Str} (h : stV lo sc x = true) : kindIn sc x = some .local ∨ (lo = false ∧ kindIn sc x = some .cell) := by
  unfold stV at h
  split at h
  · unfold stL at h
    split at h
    · exact .inl (by assumption)
    · cases h
  · unfold stOk at h
    split at h
    · exact .inl (by assumption)
    · exact .inr ⟨rfl, by assumption⟩
    · cases h

section
variable {c : Cx} {P : PenS → Prop} {n : Nat} {Γ : Tab} {r : R} {sf : Slf} {A : Around} {σ : Sg} {g : Frz} {b : Nat} {s : Shared} {sc : Scope} {ρ : PEnv} {env : Env}

theorem class_off (F : Fm c sf g σ sc ρ env s.heap) : (env.scope.kind == .class || (env.scope.kind == .module && env.locals != env.globals)) = false := by
  rw [F.sce, F.kind]; rfl
/-- a name stored in the frame -/
theorem store_one {x : Str} {v : Value} {y : PV} {lo : Bool} {E} {Q : Unit → Shared → Prop} (F : Fm c sf g σ sc ρ env s.heap) (sub : LeF g s.heap.get?) (hk : stV lo sc x = true) (hv : RelS c sf g v y)
    (h : ∀ h' tk, Ext (Wa env sc lo) g s.heap g h' → Fm c sf g σ sc (setE x y ρ) env h' → Q () { s with heap := h', toks := tk }) : wpAny (model c.prog c.w) A (storeName env x v) Q E s := by
  obtain ⟨m, hm, hvs⟩ := F.ns
  rcases stV_kind hk with hk | ⟨hlo, hk⟩
  · refine wpAny_storeName_local (kindOf_of F hk) hm (fun h' hn' hs' => ?_) (class_off F)
    have X : Ext (Wa env sc lo) g s.heap g h' := by
      refine ⟨.refl g, fun _ _ e => .inl e, fun a o e nw => ?_, fun a e => ?_, fun a o e => ?_⟩
      · rw [hs'.2 a fun q => nw (.inl q)]; exact e
      · by_cases q : a = env.locals
        · subst q; obtain ⟨o, es, ep, ho, _⟩ := hn'; rw [ho]; rfl
        · rw [hs'.2 a q]; exact e
      · have : a ≠ env.locals := fun q => by have := F.out a (.inl q); rw [this] at e; cases e
        rw [hs'.2 a this]; exact sub _ _ e
    refine h h' _ X ?_
    have F' : Fm c sf g σ sc ρ env s.heap := F
    refine ⟨F.sce, F.kind, F.glob, F.blt, ⟨_, hn', fun z w e => ?_⟩, fun z e => ?_, F.inj, F.apart, fun a ho => X.live a (F.live a ho), F.out, F.ap, F.apS⟩
    · rw [look_setE] at e
      split at e
      · rename_i q
        subst q
        cases e
        exact ⟨.local, v, hk, by show (if x = x then some v else m x) = some v; rw [if_pos rfl], hv⟩
      · rename_i q
        obtain ⟨k, u, h1, h2, h3⟩ := hvs z w e
        refine ⟨k, u, h1, ?_, h3⟩
        cases k with
        | «local» => show (if z = x then some v else m z) = some u; rw [if_neg (fun e => q e.symm)]; exact h2
        | cell => obtain ⟨a, q1, o, q2, q3⟩ := h2; exact ⟨a, q1, o, by rw [hs'.2 a (F.apart _ _ q1)]; exact q2, q3⟩
        | free => obtain ⟨a, q1, o, q2, q3⟩ := h2; exact ⟨a, q1, o, by rw [hs'.2 a (F.apart _ _ q1)]; exact q2, q3⟩
        | _ => exact h2.elim
    · obtain ⟨a, uo, q1, o, q2, q3⟩ := F.cells z e
      exact ⟨a, uo, q1, o, by rw [hs'.2 a (F.apart _ _ q1)]; exact q2, q3⟩
  · obtain ⟨ca, uo, hca, hcell⟩ := F.cells x hk
    refine wpAny_storeName_cell (by rw [F.sce]; exact F.kind) (kindOf_of F hk) hca hcell fun h' hn' hs' => ?_
    have X : Ext (Wa env sc lo) g s.heap g h' := by
      refine ⟨.refl g, fun _ _ e => .inl e, fun a o e nw => ?_, fun a e => ?_, fun a o e => ?_⟩
      · rw [hs'.2 a fun q => nw (.inr ⟨hlo, x, hk, q ▸ hca⟩)]; exact e
      · by_cases q : a = ca
        · subst q; obtain ⟨o, ho, _⟩ := hn'; rw [ho]; rfl
        · rw [hs'.2 a q]; exact e
      · have : a ≠ ca := fun q => by have := F.out a (.inr ⟨x, q ▸ hca⟩); rw [this] at e; cases e
        rw [hs'.2 a this]; exact sub _ _ e
    refine h h' s.toks X ?_
    refine ⟨F.sce, F.kind, F.glob, F.blt, ⟨m, hm.at fun o e => by rw [hs'.2 _ fun q => F.apart x ca hca q.symm]; exact e, fun z w e => ?_⟩, fun z e => ?_, F.inj, F.apart, fun a ho => X.live a (F.live a ho), F.out, F.ap, F.apS⟩
    · rw [look_setE] at e
      split at e
      · rename_i q
        subst q
        cases e
        exact ⟨.cell, v, hk, ⟨ca, hca, hn'⟩, hv⟩
      · rename_i q
        obtain ⟨k, u, h1, h2, h3⟩ := hvs z w e
        refine ⟨k, u, h1, ?_, h3⟩
        cases k with
        | «local» => exact h2
        | cell => obtain ⟨a, q1, o, q2, q3⟩ := h2; exact ⟨a, q1, o, by rw [hs'.2 a fun e => q (F.inj _ _ _ hca (e ▸ q1))]; exact q2, q3⟩
        | free => obtain ⟨a, q1, o, q2, q3⟩ := h2; exact ⟨a, q1, o, by rw [hs'.2 a fun e => q (F.inj _ _ _ hca (e ▸ q1))]; exact q2, q3⟩
        | _ => exact h2.elim
    · obtain ⟨a, uo', q1, o, q2, q3⟩ := F.cells z e
      by_cases q : a = ca
      · subst q; exact ⟨a, _, q1, hn'⟩
      · exact ⟨a, uo', q1, o, by rw [hs'.2 a q]; exact q2, q3⟩

theorem bindNs_cons {lo : Bool} {t : Expr} {ts : List Expr} {v : PV} {l : List PV} {ρ' : PEnv} (e : bindNs lo sc (t :: ts) (v :: l) ρ = some ρ') : ∃ x p, t = .Name x p ∧ stV lo sc x = true ∧ bindNs lo sc ts l (setE x v ρ) = some ρ' := by
  cases t with
  | Name x p =>
    have q : bindNs lo sc (.Name x p :: ts) (v :: l) ρ = match stV lo sc x with | true => bindNs lo sc ts l (setE x v ρ) | false => none := rfl
    rw [q] at e
    cases h : stV lo sc x with
    | true => rw [h] at e; exact ⟨_, _, rfl, h, e⟩
    | false => rw [h] at e; cases e
  | _ => cases e
theorem bindNs_len {lo : Bool} : ∀ {ts : List Expr} {l : List PV} {ρ ρ' : PEnv}, bindNs lo sc ts l ρ = some ρ' → ts.length = l.length ∧ (assignEach ts env).length = ts.length ∧ (assignEach ts env).findIdx? (·.1) = none
  | [], [], ρ, ρ', e => ⟨rfl, rfl, rfl⟩
  | [], _ :: _, ρ, ρ', e => by cases e
  | _ :: _, [], ρ, ρ', e => by cases e
  | t :: ts, v :: l, ρ, ρ', e => by
    obtain ⟨x, p, rfl, hk, e⟩ := bindNs_cons e
    obtain ⟨h1, h2, h3⟩ := bindNs_len e
    refine ⟨by simp [h1], by show (assignEach ts env).length + 1 = _; rw [h2]; rfl, ?_⟩
    show List.findIdx? (·.1) ((false, assign (.Name x p) env) :: assignEach ts env) = none
    rw [List.findIdx?_cons, h3]; rfl
theorem assign_ns {lo : Bool} {E} : ∀ {ts : List Expr} {l : List PV} {vs : List Value} {ρ ρ' : PEnv} {s : Shared} {Q : Unit → Shared → Prop}, bindNs lo sc ts l ρ = some ρ' → RelL c g vs l → Fm c sf g σ sc ρ env s.heap → LeF g s.heap.get? →
    (∀ h' tk, Ext (Wa env sc lo) g s.heap g h' → Fm c sf g σ sc ρ' env h' → Q () { s with heap := h', toks := tk }) → wpAny (model c.prog c.w) A (assignInOrder ((assignEach ts env).map (·.2)) vs) Q E s
  | [], [], vs, ρ, ρ', s, Q, e, r, F, sub, h => by
    cases e
    obtain rfl := relL_nil r
    exact wpAny_pure (h s.heap s.toks (Ext.refl sub) F)
  | [], _ :: _, vs, ρ, ρ', s, Q, e, r, F, sub, h => by cases e
  | _ :: _, [], vs, ρ, ρ', s, Q, e, r, F, sub, h => by cases e
  | t :: ts, v :: l, vs, ρ, ρ', s, Q, e, r, F, sub, h => by
    obtain ⟨x, p, rfl, hk, e⟩ := bindNs_cons e
    obtain ⟨_, _, rfl, h1, r⟩ := relL_cons r
    show wpAny _ _ (assignInOrder ((assign (.Name x p) env) :: (assignEach ts env).map (·.2)) (_ :: _)) Q E s
    refine wpAny_bind (wpAny_holding (assign_Name (store_one F sub hk (.rel h1) fun h' tk X F' => ?_)))
    refine assign_ns e r F' X.sub fun h'' tk' X' F'' => ?_
    exact h h'' tk' (X.trans X') F''
theorem assign_T {lo : Bool} {E} {t : Expr} {v : Value} {x : PV} {ρ' : PEnv} {Q : Unit → Shared → Prop} (hh : A.handled = none) (e : bindT lo sc t x ρ = some ρ') (hv : Rel c g v x) (F : Fm c sf g σ sc ρ env s.heap) (sub : LeF g s.heap.get?)
    (h : ∀ h' tk, Ext (Wa env sc lo) g s.heap g h' → Fm c sf g σ sc ρ' env h' → Q () { s with heap := h', toks := tk }) : wpAny (model c.prog c.w) A (assign t env v) Q E s := by
  unfold bindT at e
  split at e
  · split at e
    · rename_i hk
      cases e
      exact assign_Name (store_one F sub hk (.rel hv) h)
    · cases e
  · split at e
    · obtain ⟨_, _, _, _, rfl, a1, a2, a3, ra⟩ := rel_tup hv
      obtain ⟨h1, h2, h3⟩ := bindNs_len (env := env) e
      have sz := ra.size
      refine wpAny_assign_Tuple hh ⟨_, sub _ _ a1, a2, _, a3⟩ (by rw [h2, h1, sz]) h3 fun h' he => ?_
      have X : Ext (Wa env sc lo) g s.heap g h' := Ext.grown sub fun a o e => he a o (Nat.ne_of_lt (Heap.lt_size e)) e
      have X0 : Ext W0 g s.heap g h' := Ext.grown sub fun a o e => he a o (Nat.ne_of_lt (Heap.lt_size e)) e
      exact assign_ns (s := { s with heap := h' }) e ra (F.ext X0 fun a _ q => q) X.sub fun h'' tk' X' F'' => h h'' tk' (X.trans X') F''
    · cases e
  · cases e
end
end Mine

namespace Mine

noncomputable def noOwn (o : Obj) : Bool := match o.cls with
  | .type n => !["enumerate", "zip", "dict_itemiterator", "dict_reverseitemiterator", "odict_iterator", "itertools.zip_longest", "itertools.pairwise"].contains n
  | _ => false
theorem letGo_plain {M : Model} {A : Around} {tg : Expr} {I : Addr} {v : Value} {o : Obj} {s : Shared} {E} {Q : Unit → Shared → Prop} (ho : s.heap.get? I = some o) (hn : noOwn o = true) (h : Q () s) : wpAny M A (letOwnedTupleGo tg (.ref I) v) Q E s := by
  have key : ∀ a : Addr, wpAny M A (load I >>= fun o => match o.cls, o.data with
      | .type n, .fields vs => if (["enumerate", "zip", "dict_itemiterator", "dict_reverseitemiterator", "odict_iterator", "itertools.zip_longest", "itertools.pairwise"].contains n && vs[0]? == some (rawInt a)) = true then (do
          rule "for.unpacks-the-owned-tuple"
          updateField I 0 .none) else pure ()
      | _, _ => pure ()) Q E s := fun a => by
    refine wpAny_bind (wpAny_load ho ?_)
    unfold noOwn at hn
    split
    · rename_i n vs hc hd
      rw [hc] at hn
      rw [if_neg]
      · exact wpAny_pure h
      · intro q
        rw [Bool.and_eq_true] at q
        simp only [q.1] at hn
        cases hn
    · exact wpAny_pure h
  unfold letOwnedTupleGo
  split
  · cases v <;> first | exact wpAny_pure h | exact key _
  · cases v <;> first | exact wpAny_pure h | exact key _
  · exact wpAny_pure h

section
variable {c : Cx} {A : Around} {I : Addr} {fp : List Addr} {n : Nat} {P : Nat → Value → Prop} {St : Nat → Heap → Prop} {tg : Expr}
noncomputable def JW (c : Cx) (I : Addr) (fp : List Addr) (n : Nat) (P : Nat → Value → Prop) (St : Nat → Heap → Prop) (xs : List PV) (g : Frz) (h : Heap) : Prop :=
  ∃ i, St i h ∧ i + xs.length = n ∧ (∀ j x, xs[j]? = some x → ∀ v, P (i + j) v → Rel c g v x) ∧ g I = none ∧ ∀ b ∈ fp, b = I ∨ (g b).isSome = true
theorem iter_of_walks (W : Walks c.prog c.w A I fp [I] n P St) (hc : ∀ i h, St i h → ∃ o, h.get? I = some o ∧ noOwn o = true) : Iter c A tg (.ref I) [I] (JW c I fp n P St) where
  frame := by
    rintro xs g h g' h' ⟨i, h1, h2, h3, h4, h5⟩ sub0 m k o sub
    obtain ⟨oI, hoI, _⟩ := hc _ _ h1
    refine ⟨i, W.frame i h h' h1 fun b hb o' e => ?_, h2, fun j x e v p => (h3 j x e v p).mono m, o I (List.mem_singleton_self _), fun b hb => ?_⟩
    · rcases h5 b hb with q | q
      · exact k b (by rw [q]; exact List.mem_singleton_self _) o' e
      · cases z : g b with
        | none => rw [z] at q; cases q
        | some ob =>
          have := sub0 _ _ z
          rw [this] at e
          cases e
          exact sub _ _ (m _ _ z)
    · rcases h5 b hb with q | q
      · exact .inl q
      · cases e : g b with
        | none => rw [e] at q; cases q
        | some o' => exact .inr (by rw [m _ _ e]; rfl)
  out := by
    rintro xs g h ⟨i, h1, h2, h3, h4, h5⟩ a ha
    rw [List.mem_singleton.mp ha]; exact h4
  live := by
    rintro xs g h ⟨i, h1, h2, h3, h4, h5⟩ a ha
    rw [List.mem_singleton.mp ha]
    obtain ⟨o, ho, _⟩ := hc _ _ h1
    rw [ho]; rfl
  self := by
    rintro s Q E xs g ⟨i, h1, h2, h3, h4, h5⟩ hq
    exact W.self i s Q E h1 hq
  nil := by
    rintro s Q E g ⟨i, h1, h2, h3, h4, h5⟩ sub hq
    have e : i = n := h2
    subst e
    exact W.done s Q E h1 fun h' tk k => hq h' tk fun a o ha e => k a o ha e
  cons := by
    rintro s Q E g x xs ⟨i, h1, h2, h3, h4, h5⟩ sub hq
    have hi : i < n := by rw [← h2, List.length_cons]; omega
    refine W.item i s Q E hi h1 fun v h' tk hP h1' k => ?_
    obtain ⟨oI, hoI, hno⟩ := hc _ _ h1'
    have X : Ext (· ∈ [I]) g s.heap g h' := by
      refine ⟨.refl g, fun _ _ e => .inl e, fun a o e na => k a o na e, fun a e => ?_, fun a o e => ?_⟩
      · by_cases q : a = I
        · rw [q, hoI]; rfl
        · cases z : s.heap.get? a with
          | none => rw [z] at e; cases e
          | some o => rw [k a o (fun m => q (List.mem_singleton.mp m)) z]; rfl
      · have : a ≠ I := fun q => by rw [q, h4] at e; cases e
        exact k a o (fun m => this (List.mem_singleton.mp m)) (sub _ _ e)
    have hv := h3 0 x rfl v hP
    refine hq v g h' tk X hv fun Q' E' hq' => letGo_plain hoI hno (hq' h' tk (Ext.refl X.sub) ?_)
    exact ⟨i + 1, h1', by rw [← h2, List.length_cons]; omega, fun j y e w p => h3 (j + 1) y e w (by rw [show i + (j + 1) = i + 1 + j by omega]; exact p), h4, h5⟩

theorem listIter_no {h : Heap} {I ax : Addr} {i : Nat} (x : h.IsListIter I ax i) : ∃ o, h.get? I = some o ∧ noOwn o = true := by
  obtain ⟨o, ho, hc, _⟩ := x
  exact ⟨o, ho, by unfold noOwn; rw [hc]; decide +kernel⟩
theorem tupIter_no {h : Heap} {I ax : Addr} {i : Nat} (x : h.IsTupleIter I ax i) : ∃ o, h.get? I = some o ∧ noOwn o = true := by
  obtain ⟨o, ho, hc, _⟩ := x
  exact ⟨o, ho, by unfold noOwn; rw [hc]; decide +kernel⟩
theorem strIter_no {h : Heap} {I : Addr} {T : String} {x : Str} {t : Tok} {i : Nat} (x : h.IsStrIter I T x t i) (hT : T = "str_iterator" ∨ T = "str_ascii_iterator") : ∃ o, h.get? I = some o ∧ noOwn o = true := by
  obtain ⟨o, ho, hc, _⟩ := x
  refine ⟨o, ho, ?_⟩
  unfold noOwn
  rw [hc]
  rcases hT with rfl | rfl <;> decide +kernel
theorem rangeIter_no {h : Heap} {I : Addr} {a b c : Int} (x : IsRangeIter h I a b c) : ∃ o, h.get? I = some o ∧ noOwn o = true := ⟨_, x, by unfold noOwn; dsimp only; decide +kernel⟩
end

section
variable {c : Cx} {n : Nat} {sf : Slf} {A : Around} {σ : Sg} {g : Frz} {b : Nat} {s : Shared} {tg : Expr}
theorem gives_one {m : (Value → Shared → Prop) → (Value → Shared → Prop) → Prop} {xs : List PV} {o : Obj} {J : List PV → Frz → Heap → Prop} (I : Inv c sf g σ b s.heap) (hf : o.isFreed = false) (It : Iter c A tg (.ref s.heap.objs.size) [s.heap.objs.size] J)
    (hl : xs.length ≤ 1000) (hJ : g s.heap.objs.size = none → J xs g (s.heap.push o)) (h : ∀ Q E, Q (.ref s.heap.objs.size) { s with heap := s.heap.push o } → m Q E) : Gives c A tg σ sf g b s m (.ret xs) :=
  fun Q E post hs hq => by
    have X : Ext W0 g s.heap g (s.heap.push o) := Ext.grown I.sub fun a o e => Heap.get?_push_of_some _ e
    exact h Q E (hq _ xs b g _ s.toks _ _ (sat_ret.mp hs) X.any (I.ext0 X) It (hJ (none_of_sub I.sub get_size)) (fun a ha => by rw [List.mem_singleton.mp ha]; exact get_size) hl)
theorem gives_ok1 {m : (Value → Shared → Prop) → (Value → Shared → Prop) → Prop} {z : Bool} {t : T (List PV)} (h : z = true → Gives c A tg σ sf g b s m t) : Gives c A tg σ sf g b s m (ok1 z t) := fun Q E post hs hq => by
  have hs := sat_br.mp hs
  cases z with
  | true => exact h rfl Q E post (hs.1 rfl) hq
  | false => exact (sat_fail.mp (hs.2 rfl)).elim
theorem gives_fail {m : (Value → Shared → Prop) → (Value → Shared → Prop) → Prop} : Gives c A tg σ sf g b s m .fail := fun Q E post hs hq => (sat_fail.mp hs).elim

theorem gives_items {v : Value} {x : PV} (R : Room A n) (I : Inv c sf g σ b s.heap) (hv : Rel c g v x) : Gives c A tg σ sf g b s (fun Q E => wpAny (model c.prog c.w) A (pyIter v) Q E s) (items x) := by
  have fr := none_of_sub I.sub (get_size (h := s.heap))
  cases x with
  | tup l =>
    obtain ⟨_, _, _, _, rfl, a1, a2, a3, ra⟩ := rel_tup hv
    rename_i a o vs k
    refine gives_ok1 fun hz => ?_
    have hz := Nat.le_of_ble_eq_true hz
    have lt := Heap.lt_size (I.sub _ _ a1)
    have sz := ra.size
    refine gives_one (o := { cls := .type "tuple_iterator", data := .fields #[.ref a, .int 0 0] }) I rfl (iter_of_walks (Walks.tuple R.h _ a (Nat.ne_of_lt lt) vs) fun i h x => tupIter_no x.1) hz (fun f => ?_) fun Q E q => wpAny_pyIter_tuple ⟨_, I.sub _ _ a1, a2, _, a3⟩ q
    refine ⟨0, ⟨⟨_, Heap.get?_push_size _ rfl, rfl, rfl⟩, ⟨_, Heap.get?_push_of_some _ (I.sub _ _ a1), a2, _, a3⟩⟩, by rw [sz]; omega, fun j x e v p => ?_, f, fun b hb => ?_⟩
    · obtain ⟨u, h1, h2⟩ := ra.get e
      have p : vs[0 + j]? = some v := p
      rw [Nat.zero_add] at p
      have h1 : vs[j]? = some u := by simpa using h1
      rw [p] at h1; cases h1; exact h2
    · rcases List.mem_cons.mp hb with rfl | hb
      · exact .inl rfl
      · rw [List.mem_singleton.mp hb, a1]; exact .inr rfl
  | lst l =>
    obtain ⟨_, _, _, _, rfl, a1, a2, a3, ad, ra⟩ := rel_lst hv
    rename_i a o vs k
    refine gives_ok1 fun hz => ?_
    have hz := Nat.le_of_ble_eq_true hz
    have lt := Heap.lt_size (I.sub _ _ a1)
    have sz := ra.size
    refine gives_one (o := { cls := .type "list_iterator", data := .fields #[.ref a, .int 0 0] }) I rfl (iter_of_walks (Walks.list R.h _ a (Nat.ne_of_lt lt) vs) fun i h x => listIter_no x.1) hz (fun f => ?_) fun Q E q => wpAny_pyIter_list ⟨_, I.sub _ _ a1, a2, _, a3⟩ q
    refine ⟨0, ⟨⟨_, Heap.get?_push_size _ rfl, rfl, rfl⟩, ⟨_, Heap.get?_push_of_some _ (I.sub _ _ a1), a2, _, a3⟩⟩, by rw [sz]; omega, fun j x e v p => ?_, f, fun b hb => ?_⟩
    · obtain ⟨u, h1, h2⟩ := ra.get e
      have p : vs[0 + j]? = some v := p
      rw [Nat.zero_add] at p
      have h1 : vs[j]? = some u := by simpa using h1
      rw [p] at h1; cases h1; exact h2
    · rcases List.mem_cons.mp hb with rfl | hb
      · exact .inl rfl
      · rw [List.mem_singleton.mp hb, a1]; exact .inr rfl
  | str x =>
    obtain ⟨_, rfl⟩ := rel_str hv
    rename_i t
    refine gives_ok1 fun hz => ?_
    have hz := Nat.le_of_ble_eq_true hz
    have hget : ∀ (j : Nat) (y : PV), (x.cps.toList.map fun c => PV.str ⟨#[c]⟩)[j]? = some y → ∀ v, SignAt x (0 + j) v → Rel c g v y := by
      rintro j y e v ⟨ch, u, h1, rfl⟩
      rw [Nat.zero_add] at h1
      rw [List.getElem?_map] at e
      have : x.cps.toList[j]? = some ch := by simpa using h1
      rw [this] at e
      cases e
      exact .str _ _
    have hlen : (x.cps.toList.map fun c => PV.str ⟨#[c]⟩).length = x.cps.size := by simp
    have hz' : (x.cps.toList.map fun c => PV.str ⟨#[c]⟩).length ≤ 1000 := by rw [hlen]; exact hz
    by_cases ha : (x.cps.all (· < 128)) = true
    · have ht : strIterType x = "str_ascii_iterator" := by unfold strIterType; rw [ha]; rfl
      refine gives_one (o := { cls := .type (strIterType x), data := .fields #[.str x t, .int 0 0] }) I rfl (iter_of_walks (Walks.strAscii R.h _ x t) fun i h y => strIter_no y (.inr rfl)) hz' (fun f => ?_) fun Q E q => wpAny_pyIter_strU q
      exact ⟨0, ⟨_, Heap.get?_push_size _ rfl, by rw [ht], rfl⟩, by rw [hlen]; omega, hget, f, fun b hb => .inl (List.mem_singleton.mp hb)⟩
    · have ht : strIterType x = "str_iterator" := by unfold strIterType; rw [Bool.not_eq_true] at ha; rw [ha]; rfl
      refine gives_one (o := { cls := .type (strIterType x), data := .fields #[.str x t, .int 0 0] }) I rfl (iter_of_walks (Walks.strWide R.h _ x t) fun i h y => strIter_no y (.inl rfl)) hz' (fun f => ?_) fun Q E q => wpAny_pyIter_strU q
      exact ⟨0, ⟨_, Heap.get?_push_size _ rfl, by rw [ht], rfl⟩, by rw [hlen]; omega, hget, f, fun b hb => .inl (List.mem_singleton.mp hb)⟩
  | _ => exact gives_fail
end
end Mine

namespace Mine

/-- an iterator of a list or of a tuple -/
noncomputable def SeqIt (tp : Bool) (h : Heap) (I ax : Addr) (k : Nat) : Prop := match tp with
  | true => h.IsTupleIter I ax k
  | false => h.IsListIter I ax k
noncomputable def SeqIs (tp : Bool) (h : Heap) (ax : Addr) (xs : Array Value) : Prop := match tp with
  | true => h.IsTuple ax xs
  | false => h.IsList ax xs
noncomputable def itObj (tp : Bool) (ax : Addr) : Obj := match tp with
  | true => { cls := .type "tuple_iterator", data := .fields #[.ref ax, .int 0 0] }
  | false => { cls := .type "list_iterator", data := .fields #[.ref ax, .int 0 0] }
section
variable {prog : Program} {w : World} {A : Around} {E : Value → Shared → Prop} {s : Shared} {tp : Bool}
theorem SeqIt.at {h h' : Heap} {I ax : Addr} {k : Nat} (x : SeqIt tp h I ax k) (e : ∀ o, h.get? I = some o → h'.get? I = some o) : SeqIt tp h' I ax k := by
  cases tp with
  | true => exact Heap.IsTupleIter.at x e
  | false => exact Heap.IsListIter.at x e
theorem SeqIs.at {h h' : Heap} {ax : Addr} {xs : Array Value} (x : SeqIs tp h ax xs) (e : ∀ o, h.get? ax = some o → h'.get? ax = some o) : SeqIs tp h' ax xs := by
  cases tp with
  | true => exact Heap.IsTuple.at x e
  | false => exact Heap.IsList.at x e
theorem SeqIt.live {h : Heap} {I ax : Addr} {k : Nat} (x : SeqIt tp h I ax k) : (h.get? I).isSome = true := by
  cases tp with
  | true => obtain ⟨o, ho, _⟩ := x; rw [ho]; rfl
  | false => obtain ⟨o, ho, _⟩ := x; rw [ho]; rfl
theorem itObj_new {h : Heap} {ax : Addr} : SeqIt tp (h.push (itObj tp ax)) h.objs.size ax 0 := by
  cases tp with
  | true => exact ⟨_, Heap.get?_push_size _ rfl, rfl, rfl⟩
  | false => exact ⟨_, Heap.get?_push_size _ rfl, rfl, rfl⟩
theorem pyIter_seq {ax : Addr} {xs : Array Value} {Q : Value → Shared → Prop} (h : SeqIs tp s.heap ax xs) (hq : Q (.ref s.heap.objs.size) { s with heap := s.heap.push (itObj tp ax) }) : wpAny (model prog w) A (pyIter (.ref ax)) Q E s := by
  cases tp with
  | true => exact wpAny_pyIter_tuple h hq
  | false => exact wpAny_pyIter_list h hq
theorem nextOf_seq_item {I ax : Addr} {k : Nat} {xs : Array Value} {x : Value} {Q : Value → Shared → Prop} (hit : SeqIt tp s.heap I ax k) (hl : SeqIs tp s.heap ax xs) (hx : xs[k]? = some x)
    (hQ : ∀ h', SeqIt tp h' I ax (k + 1) → Heap.SameBut I s.heap h' → Q x { s with heap := h' }) : wpAny (model prog w) A (Builtin.SmallTypes.nextOf (.ref I)) Q E s := by
  cases tp with
  | false => exact wpAny_nextOf_list_item hit hl hx hQ
  | true =>
    have hit : s.heap.IsTupleIter I ax k := hit
    obtain ⟨o, ho, hc, hd⟩ := id hit
    obtain ⟨ol, hol, _, nl, hdl⟩ := hl
    unfold Builtin.SmallTypes.nextOf
    refine wpAny_bind (wpAny_callSpecial?_slot (name := Str.ofString "__next__") hit.typeIs F.slot_tuple_iterator_next
      (wpAny_call_entry F.slot_tuple_iterator_next hit.typeIs F.entry_tuple_iterator_next ?_ (F.args_tuple_iterator_next_1 _)))
    show wpAny _ _ (field (.ref I) 0 >>= _) _ _ s
    refine wpAny_bind (wpAny_field ho hd (x := .ref ax) rfl ?_)
    show wpAny _ _ (if (Value.ref ax == Value.none) = true then _ else _) _ _ s
    rw [if_neg (show ¬ ((Value.ref ax == Value.none) = true) from Bool.false_ne_true)]
    show wpAny _ _ (field (.ref I) 1 >>= _) _ _ s
    refine wpAny_bind (wpAny_field ho hd (x := .int k 0) rfl ?_)
    show wpAny _ _ (seqItems? (.ref ax) >>= _) _ _ s
    refine wpAny_bind (wpAny_seqItems hol hdl ?_)
    simp only [Int.toNat_natCast, hx]
    refine wpAny_bind (wpAny_setField ho hd (by simp) (wpAny_pure ⟨x, rfl, wpAny_pure (hQ _ ?_ (Heap.SameBut.update ..))⟩))
    exact ⟨_, Heap.get?_update_self _ ho (Obj.isFreed_of_fields (Obj.data_mapFields hd _)), (Obj.cls_mapFields ..).trans hc, by
      rw [Obj.data_mapFields hd]; simp [rawInt]⟩
theorem nextOf_seq_end {I ax : Addr} {k : Nat} {xs : Array Value} {Q : Value → Shared → Prop} (hh : A.handled = none) (hit : SeqIt tp s.heap I ax k) (hl : SeqIs tp s.heap ax xs) (hx : xs[k]? = none)
    (hE : ∀ h' e, Heap.ExtBut I s.heap h' → (∃ o, h'.get? e = some o ∧ o.cls = .type "StopIteration") → E (.ref e) { s with heap := h' }) : wpAny (model prog w) A (Builtin.SmallTypes.nextOf (.ref I)) Q E s := by
  cases tp with
  | false => exact wpAny_nextOf_list_end hh hit hl hx hE
  | true =>
    have hit : s.heap.IsTupleIter I ax k := hit
    obtain ⟨o, ho, hc, hd⟩ := id hit
    obtain ⟨ol, hol, _, nl, hdl⟩ := hl
    unfold Builtin.SmallTypes.nextOf
    refine wpAny_bind (wpAny_callSpecial?_slot (name := Str.ofString "__next__") hit.typeIs F.slot_tuple_iterator_next
      (wpAny_call_entry F.slot_tuple_iterator_next hit.typeIs F.entry_tuple_iterator_next ?_ (F.args_tuple_iterator_next_1 _)))
    show wpAny _ _ (field (.ref I) 0 >>= _) _ _ s
    refine wpAny_bind (wpAny_field ho hd (x := .ref ax) rfl ?_)
    show wpAny _ _ (if (Value.ref ax == Value.none) = true then _ else _) _ _ s
    rw [if_neg (show ¬ ((Value.ref ax == Value.none) = true) from Bool.false_ne_true)]
    show wpAny _ _ (field (.ref I) 1 >>= _) _ _ s
    refine wpAny_bind (wpAny_field ho hd (x := .int k 0) rfl ?_)
    show wpAny _ _ (seqItems? (.ref ax) >>= _) _ _ s
    refine wpAny_bind (wpAny_seqItems hol hdl ?_)
    simp only [Int.toNat_natCast, hx]
    refine wpAny_bind (wpAny_rule (wpAny_bind (wpAny_setField ho hd (by simp) ?_)))
    show wpAny _ _ (newExc (.type "StopIteration") [] >>= _) _ _ _
    refine wpAny_bind ?_
    simp only [newExc, newTuple]
    refine wpAny_bind (wpAny_newObj_type ?_ (by size_fits))
    refine wpAny_bind (m := firstArgMember _ _) (wpAny_of_eq (a := Value.none) (by first | rfl | (simp only [firstArgMember]; rfl)) ?_)
    refine wpAny_newObj_type ?_ (by size_fits)
    simp only [raiseNew]
    refine wpAny_bind (wpAny_handled ?_)
    first | rw [show A.in1.handled = none from hh] | rw [hh]
    refine wpAny_bind (wpAny_pure (wpAny_throw ?_))
    exact hE _ _ (((Heap.SameBut.update ..).extBut.push _).push _) ⟨_, Heap.get?_push_size _ rfl, rfl⟩
end

structure ZA (z TI TO i1 i2 : Addr) : Prop where
  TIz : TI ≠ z
  TOz : TO ≠ z
  i1z : i1 ≠ z
  i2z : i2 ≠ z
  TITO : TI ≠ TO
  TIi1 : TI ≠ i1
  TIi2 : TI ≠ i2
  TOi1 : TO ≠ i1
  TOi2 : TO ≠ i2
  i12 : i1 ≠ i2
noncomputable def ZOff (z TO i1 i2 a : Addr) : Prop := a ≠ z ∧ a ≠ TO ∧ a ≠ i1 ∧ a ≠ i2

section
variable {prog : Program} {w : World} {A : Around} {E : Value → Shared → Prop} {s : Shared} {p1 p2 : Bool} {z TI TO i1 i2 l1 l2 : Addr} {k : Nat} {xs ys : Array Value} {x y a b : Value}
theorem zip_item {Q : Value → Shared → Prop} (D : ZA z TI TO i1 i2) (hz : IsZip s.heap z TI TO .none) (hTI : IsPair s.heap TI (.ref i1) (.ref i2)) (hTO : IsPair s.heap TO a b)
    (h1 : SeqIt p1 s.heap i1 l1 k) (h2 : SeqIt p2 s.heap i2 l2 k) (hl1 : SeqIs p1 s.heap l1 xs) (hl2 : SeqIs p2 s.heap l2 ys) (o1 : ZOff z TO i1 i2 l1) (o2 : ZOff z TO i1 i2 l2) (hx : xs[k]? = some x) (hy : ys[k]? = some y)
    (hQ : ∀ h', IsZip h' z TI TO (rawInt s.heap.objs.size) → IsPair h' TO x y → SeqIt p1 h' i1 l1 (k + 1) → SeqIt p2 h' i2 l2 (k + 1) → IsPair h' s.heap.objs.size x y →
      (∀ c o, ZOff z TO i1 i2 c → s.heap.get? c = some o → h'.get? c = some o) → Q (.ref s.heap.objs.size) { s with heap := h' }) :
    wpAny (model prog w) A (Builtin.«zip.__next__» ⟨[.ref z], []⟩) (fun fin s' => ∃ v, fin = .done (.ret v) ∧ Q v s') E s := by
  show wpAny _ _ (field (.ref z) 2 >>= _) _ _ _
  refine wpAny_bind (wpAny_field hz rfl (x := .bool false) rfl ?_)
  show wpAny _ _ (field (.ref z) 3 >>= _) _ _ _
  refine wpAny_bind (wpAny_field hz rfl (x := .ref TI) rfl ?_)
  refine wpAny_bind (wpAny_seqItems hTI rfl ?_)
  show wpAny _ _ (Builtin.SmallTypes.ownedTupleIsFree (.ref z) >>= _) _ _ _
  refine wpAny_bind ?_
  unfold Builtin.SmallTypes.ownedTupleIsFree
  refine wpAny_bind (wpAny_field hz rfl (x := .none) rfl (wpAny_pure ?_))
  simp only [if_true]
  refine wpAny_bind (wpAny_rule ?_)
  refine wpAny_bind (wpAny_field hz rfl (x := .ref TO) rfl ?_)
  refine wpAny_bind (wpAny_setField_rec hz (by simp) fun h₁ hz₁ hs₁ => ?_)
  replace hz₁ : IsZip h₁ z TI TO .ellipsis := hz₁
  refine wpAny_bind ?_
  simp only [List.zipIdx_cons, List.zipIdx_nil, List.forIn_cons, List.forIn_nil]
  refine wpAny_bind (wpAny_bind (wpAny_onRaise ?_))
  show wpAny _ _ (Builtin.SmallTypes.nextOf (.ref i1) >>= _) _ _ _
  have k1 : ∀ c o, c ≠ z → s.heap.get? c = some o → h₁.get? c = some o := fun c o hc e => hs₁.extBut _ _ hc e
  refine wpAny_bind (nextOf_seq_item (h1.at fun o e => k1 _ o D.i1z e) (hl1.at fun o e => k1 _ o o1.1 e) hx fun h₂ h1₂ hs₂ => wpAny_pure ?_)
  have k2 : ∀ c o, c ≠ z → c ≠ i1 → s.heap.get? c = some o → h₂.get? c = some o := fun c o hc hc2 e => hs₂.extBut _ _ hc2 (k1 c o hc e)
  have hTO₂ : IsPair h₂ TO a b := k2 _ _ D.TOz D.TOi1 hTO
  refine wpAny_bind (wpAny_seqItems hTO₂ rfl ?_)
  refine wpAny_bind (wpAny_updateSeq_pair hTO₂ fun h₃ hTO₃ hs₃ => ?_)
  replace hTO₃ : IsPair h₃ TO x b := hTO₃
  have k3 : ∀ c o, c ≠ z → c ≠ i1 → c ≠ TO → s.heap.get? c = some o → h₃.get? c = some o := fun c o hc hc2 hc3 e => hs₃.extBut _ _ hc3 (k2 c o hc hc2 e)
  refine wpAny_bind (wpAny_letGo (wpAny_pure ?_))
  refine wpAny_bind (wpAny_bind (wpAny_onRaise ?_))
  show wpAny _ _ (Builtin.SmallTypes.nextOf (.ref i2) >>= _) _ _ _
  refine wpAny_bind (nextOf_seq_item (h2.at fun o e => k3 _ o D.i2z D.i12.symm D.TOi2.symm e) (hl2.at fun o e => k3 _ o o2.1 o2.2.2.1 o2.2.1 e) hy fun h₄ h2₄ hs₄ => wpAny_pure ?_)
  have hTO₄ : IsPair h₄ TO x b := hs₄.extBut _ _ D.TOi2 hTO₃
  refine wpAny_bind (wpAny_seqItems hTO₄ rfl ?_)
  refine wpAny_bind (wpAny_updateSeq_pair hTO₄ fun h₅ hTO₅ hs₅ => ?_)
  replace hTO₅ : IsPair h₅ TO x y := hTO₅
  refine wpAny_bind (wpAny_letGo (wpAny_pure (wpAny_pure ?_)))
  refine wpAny_bind (wpAny_seqItems hTO₅ rfl ?_)
  refine wpAny_bind (wpAny_newTuple ?_)
  have hsz : h₅.objs.size = s.heap.objs.size := by rw [hs₅.1, hs₄.1, hs₃.1, hs₂.1, hs₁.1]
  have hz₅ : IsZip h₅ z TI TO .ellipsis := hs₅.extBut _ _ D.TOz.symm (hs₄.extBut _ _ D.i2z.symm (hs₃.extBut _ _ D.TOz.symm (hs₂.extBut _ _ D.i1z.symm hz₁)))
  have hk₅ : ∀ c o, ZOff z TO i1 i2 c → s.heap.get? c = some o → h₅.get? c = some o := fun c o hc e =>
    hs₅.extBut _ _ hc.2.1 (hs₄.extBut _ _ hc.2.2.2 (k3 c o hc.1 hc.2.2.1 hc.2.1 e))
  have h1₅ : SeqIt p1 h₅ i1 l1 (k + 1) := h1₂.at fun o e => hs₅.extBut _ _ D.TOi1.symm (hs₄.extBut _ _ D.i12 (hs₃.extBut _ _ D.TOi1.symm e))
  have h2₅ : SeqIt p2 h₅ i2 l2 (k + 1) := h2₄.at fun o e => hs₅.extBut _ _ D.TOi2.symm e
  have hzlt : z < h₅.objs.size := Heap.lt_size hz₅
  have hTOlt : TO < h₅.objs.size := Heap.lt_size hTO₅
  show wpAny _ _ (Builtin.SmallTypes.ownedTupleHandOut (.ref z) (.ref h₅.objs.size) >>= _) _ _ _
  refine wpAny_bind ?_
  unfold Builtin.SmallTypes.ownedTupleHandOut
  have hz₆ : IsZip (h₅.push { cls := .type "tuple", data := .seq #[x, y] }) z TI TO .ellipsis := Heap.get?_push_of_some _ hz₅
  refine wpAny_bind (wpAny_setField_rec hz₆ (by simp) fun h₇ hz₇ hs₇ => ?_)
  replace hz₇ : IsZip h₇ z TI TO (rawInt h₅.objs.size) := hz₇
  refine wpAny_setField_rec hz₇ (by simp) fun h₈ hz₈ hs₈ => ?_
  replace hz₈ : IsZip h₈ z TI TO (rawInt h₅.objs.size) := hz₈
  have up : ∀ c o, c ≠ z → h₅.get? c = some o → h₈.get? c = some o := fun c o c1 e => hs₈.extBut _ _ c1 (hs₇.extBut _ _ c1 (Heap.get?_push_of_some _ e))
  have hT₈ : IsPair h₈ h₅.objs.size x y := hs₈.extBut _ _ (Nat.ne_of_gt hzlt) (hs₇.extBut _ _ (Nat.ne_of_gt hzlt) (Heap.get?_push_size _ rfl))
  rw [hsz] at hz₈ hT₈
  refine wpAny_pure ⟨_, rfl, ?_⟩
  show Q (.ref h₅.objs.size) _
  rw [hsz]
  exact hQ h₈ hz₈ (up _ _ D.TOz hTO₅) (h1₅.at fun o e => up _ o D.i1z e) (h2₅.at fun o e => up _ o D.i2z e) hT₈ fun c o hc e => up c o hc.1 (hk₅ c o hc e)

theorem zip_end {Q : Fin → Shared → Prop} (hh : A.handled = none) (D : ZA z TI TO i1 i2) (hz : IsZip s.heap z TI TO .none) (hTI : IsPair s.heap TI (.ref i1) (.ref i2)) (hTO : IsPair s.heap TO a b)
    (h1 : SeqIt p1 s.heap i1 l1 k) (h2 : SeqIt p2 s.heap i2 l2 k) (hl1 : SeqIs p1 s.heap l1 xs) (hl2 : SeqIs p2 s.heap l2 ys) (o1 : ZOff z TO i1 i2 l1) (o2 : ZOff z TO i1 i2 l2) (hend : xs[k]? = none ∨ ys[k]? = none)
    (hE : ∀ h' e, (∀ c o, ZOff z TO i1 i2 c → s.heap.get? c = some o → h'.get? c = some o) → (∃ o, h'.get? e = some o ∧ o.cls = .type "StopIteration") → E (.ref e) { s with heap := h' }) :
    wpAny (model prog w) A (Builtin.«zip.__next__» ⟨[.ref z], []⟩) Q E s := by
  show wpAny _ _ (field (.ref z) 2 >>= _) _ _ _
  refine wpAny_bind (wpAny_field hz rfl (x := .bool false) rfl ?_)
  show wpAny _ _ (field (.ref z) 3 >>= _) _ _ _
  refine wpAny_bind (wpAny_field hz rfl (x := .ref TI) rfl ?_)
  refine wpAny_bind (wpAny_seqItems hTI rfl ?_)
  show wpAny _ _ (Builtin.SmallTypes.ownedTupleIsFree (.ref z) >>= _) _ _ _
  refine wpAny_bind ?_
  unfold Builtin.SmallTypes.ownedTupleIsFree
  refine wpAny_bind (wpAny_field hz rfl (x := .none) rfl (wpAny_pure ?_))
  simp only [if_true]
  refine wpAny_bind (wpAny_rule ?_)
  refine wpAny_bind (wpAny_field hz rfl (x := .ref TO) rfl ?_)
  refine wpAny_bind (wpAny_setField_rec hz (by simp) fun h₁ hz₁ hs₁ => ?_)
  replace hz₁ : IsZip h₁ z TI TO .ellipsis := hz₁
  refine wpAny_bind ?_
  simp only [List.zipIdx_cons, List.zipIdx_nil, List.forIn_cons, List.forIn_nil]
  refine wpAny_bind (wpAny_bind (wpAny_onRaise ?_))
  show wpAny _ _ (Builtin.SmallTypes.nextOf (.ref i1) >>= _) _ _ _
  have k1 : ∀ c o, c ≠ z → s.heap.get? c = some o → h₁.get? c = some o := fun c o hc e => hs₁.extBut _ _ hc e
  cases hx : xs[k]? with
  | none =>
    refine wpAny_bind (nextOf_seq_end hh (h1.at fun o e => k1 _ o D.i1z e) (hl1.at fun o e => k1 _ o o1.1 e) hx fun h₂ e hs₂ he => ?_)
    obtain ⟨oe, hoe, hce⟩ := he
    have hz₂ : IsZip h₂ z TI TO .ellipsis := hs₂ _ _ D.i1z.symm hz₁
    have hez : e ≠ z := fun x => by subst x; rw [hz₂] at hoe; cases hoe; simp at hce
    exact wpAny_setField_rec hz₂ (by simp) fun h₃ _ hs₃ => hE h₃ e (fun c o hc x => hs₃.extBut _ _ hc.1 (hs₂ _ _ hc.2.2.1 (k1 _ _ hc.1 x))) ⟨oe, hs₃.extBut _ _ hez hoe, hce⟩
  | some x =>
    have hy : ys[k]? = none := by rcases hend with h | h; rw [hx] at h; cases h; exact h
    refine wpAny_bind (nextOf_seq_item (h1.at fun o e => k1 _ o D.i1z e) (hl1.at fun o e => k1 _ o o1.1 e) hx fun h₂ h1₂ hs₂ => wpAny_pure ?_)
    have k2 : ∀ c o, c ≠ z → c ≠ i1 → s.heap.get? c = some o → h₂.get? c = some o := fun c o hc hc2 e => hs₂.extBut _ _ hc2 (k1 c o hc e)
    have hTO₂ : IsPair h₂ TO a b := k2 _ _ D.TOz D.TOi1 hTO
    refine wpAny_bind (wpAny_seqItems hTO₂ rfl ?_)
    refine wpAny_bind (wpAny_updateSeq_pair hTO₂ fun h₃ hTO₃ hs₃ => ?_)
    have k3 : ∀ c o, c ≠ z → c ≠ i1 → c ≠ TO → s.heap.get? c = some o → h₃.get? c = some o := fun c o hc hc2 hc3 e => hs₃.extBut _ _ hc3 (k2 c o hc hc2 e)
    refine wpAny_bind (wpAny_letGo (wpAny_pure ?_))
    refine wpAny_bind (wpAny_bind (wpAny_onRaise ?_))
    show wpAny _ _ (Builtin.SmallTypes.nextOf (.ref i2) >>= _) _ _ _
    refine wpAny_bind (nextOf_seq_end hh (h2.at fun o e => k3 _ o D.i2z D.i12.symm D.TOi2.symm e) (hl2.at fun o e => k3 _ o o2.1 o2.2.2.1 o2.2.1 e) hy fun h₄ e hs₄ he => ?_)
    obtain ⟨oe, hoe, hce⟩ := he
    have hz₄ : IsZip h₄ z TI TO .ellipsis := hs₄ _ _ D.i2z.symm (hs₃.extBut _ _ D.TOz.symm (hs₂.extBut _ _ D.i1z.symm hz₁))
    have hez : e ≠ z := fun x => by subst x; rw [hz₄] at hoe; cases hoe; simp at hce
    exact wpAny_setField_rec hz₄ (by simp) fun h₅ _ hs₅ => hE h₅ e (fun c o hc x => hs₅.extBut _ _ hc.1 (hs₄ _ _ hc.2.2.2 (k3 _ _ hc.1 hc.2.2.1 hc.2.1 x))) ⟨oe, hs₅.extBut _ _ hez hoe, hce⟩

theorem next_zip_item {Q : Option Value → Shared → Prop} (D : ZA z TI TO i1 i2) (hz : IsZip s.heap z TI TO .none) (hTI : IsPair s.heap TI (.ref i1) (.ref i2)) (hTO : IsPair s.heap TO a b)
    (h1 : SeqIt p1 s.heap i1 l1 k) (h2 : SeqIt p2 s.heap i2 l2 k) (hl1 : SeqIs p1 s.heap l1 xs) (hl2 : SeqIs p2 s.heap l2 ys) (o1 : ZOff z TO i1 i2 l1) (o2 : ZOff z TO i1 i2 l2) (hx : xs[k]? = some x) (hy : ys[k]? = some y)
    (hQ : ∀ h', IsZip h' z TI TO (rawInt s.heap.objs.size) → IsPair h' TO x y → SeqIt p1 h' i1 l1 (k + 1) → SeqIt p2 h' i2 l2 (k + 1) → IsPair h' s.heap.objs.size x y →
      (∀ c o, ZOff z TO i1 i2 c → s.heap.get? c = some o → h'.get? c = some o) → Q (some (.ref s.heap.objs.size)) { s with heap := h' }) : wpAny (model prog w) A (pyNext (.ref z)) Q E s := by
  have hT : s.TypeIs (.ref z) "zip" := ⟨_, hz, rfl⟩
  unfold pyNext
  exact wpAny_bind (wpAny_attempt (wpAny_callSpecial?_slot (name := Str.ofString "__next__") hT F.slot_zip_next
    (wpAny_call_entry F.slot_zip_next hT F.entry_zip_next
      (zip_item D hz hTI hTO h1 h2 hl1 hl2 o1 o2 hx hy fun h' a1 a2 a3 a4 a5 a6 => wpAny_pure (hQ h' a1 a2 a3 a4 a5 a6)) (F.args_zip_next_1 _))))
theorem next_zip_end {Q : Option Value → Shared → Prop} (hh : A.handled = none) (D : ZA z TI TO i1 i2) (hz : IsZip s.heap z TI TO .none) (hTI : IsPair s.heap TI (.ref i1) (.ref i2)) (hTO : IsPair s.heap TO a b)
    (h1 : SeqIt p1 s.heap i1 l1 k) (h2 : SeqIt p2 s.heap i2 l2 k) (hl1 : SeqIs p1 s.heap l1 xs) (hl2 : SeqIs p2 s.heap l2 ys) (o1 : ZOff z TO i1 i2 l1) (o2 : ZOff z TO i1 i2 l2) (hend : xs[k]? = none ∨ ys[k]? = none)
    (hQ : ∀ h', (∀ c o, ZOff z TO i1 i2 c → s.heap.get? c = some o → h'.get? c = some o) → Q none { s with heap := h' }) : wpAny (model prog w) A (pyNext (.ref z)) Q E s := by
  have hT : s.TypeIs (.ref z) "zip" := ⟨_, hz, rfl⟩
  unfold pyNext
  refine wpAny_bind (wpAny_attempt (wpAny_callSpecial?_slot (name := Str.ofString "__next__") hT F.slot_zip_next
    (wpAny_call_entry F.slot_zip_next hT F.entry_zip_next (zip_end hh D hz hTI hTO h1 h2 hl1 hl2 o1 o2 hend fun h' e hk he => ?_) (F.args_zip_next_1 _))))
  obtain ⟨o, ho, hc⟩ := he
  refine wpAny_bind (wpAny_isInstance (T := "StopIteration") (b := true) ⟨o, ho, hc⟩ isSubtype_stop ?_)
  exact wpAny_pure (hQ _ hk)
end

noncomputable abbrev zH1 (p : Bool) (h : Heap) (l1 : Addr) : Heap := h.push (itObj p l1)
noncomputable abbrev zH2 (p q : Bool) (h : Heap) (l1 l2 : Addr) : Heap := (zH1 p h l1).push (itObj q l2)
noncomputable abbrev zH3 (p q : Bool) (h : Heap) (l1 l2 : Addr) : Heap := (zH2 p q h l1 l2).push { cls := .type "tuple", data := .seq #[.ref h.objs.size, .ref (zH1 p h l1).objs.size] }
noncomputable abbrev zH4 (p q : Bool) (h : Heap) (l1 l2 : Addr) : Heap := (zH3 p q h l1 l2).push { cls := .type "tuple", data := .seq #[.none, .none] }
noncomputable abbrev zH5 (p q : Bool) (h : Heap) (l1 l2 : Addr) : Heap := (zH4 p q h l1 l2).push { cls := .type "zip", data := .fields #[.none, .bool false, .bool false, .ref (zH2 p q h l1 l2).objs.size, .ref (zH3 p q h l1 l2).objs.size] }
theorem meets_zip (p q : Bool) (l1 l2 : Addr) (xs ys : Array Value) :
    Meets (Builtin.«zip.__new__» ⟨[.type "zip", .ref l1, .ref l2], []⟩) (fun _ R s => SeqIs p s.heap l1 xs ∧ SeqIs q s.heap l2 ys ∧
      R (.ok (.ret (.ref (zH4 p q s.heap l1 l2).objs.size))) { s with heap := zH5 p q s.heap l1 l2 }) :=
  .of_wp fun prog w A R s h => by
    obtain ⟨hp, g, d, tk, os⟩ := s; obtain ⟨hl1, hl2, h⟩ := h
    have hsub := sub_zip
    have hL1 : SeqIs p (Shared.heap ⟨hp, g, d, tk, os⟩) l1 xs := hl1
    have hL2 : SeqIs q (Shared.heap ⟨hp.push (itObj p l1), g, d, tk, os⟩) l2 ys := SeqIs.at hl2 fun o e => Heap.get?_push_of_some _ e
    wp_walk using pyIter_seq hL1, pyIter_seq hL2
    exact ⟨_, rfl, h⟩
end Mine

namespace Mine

section
variable {prog : Program} {w : World} {A : Around} {E : Value → Shared → Prop} {s : Shared}
theorem call_zip {p q : Bool} {l1 l2 : Addr} {xs ys : Array Value} {Q : Value → Shared → Prop} (hl1 : SeqIs p s.heap l1 xs) (hl2 : SeqIs q s.heap l2 ys)
    (h : ∀ h', IsZip h' (s.heap.objs.size + 4) (s.heap.objs.size + 2) (s.heap.objs.size + 3) .none → IsPair h' (s.heap.objs.size + 2) (.ref s.heap.objs.size) (.ref (s.heap.objs.size + 1)) →
      IsPair h' (s.heap.objs.size + 3) .none .none → SeqIt p h' s.heap.objs.size l1 0 → SeqIt q h' (s.heap.objs.size + 1) l2 0 → 
      (∀ c o, s.heap.get? c = some o → h'.get? c = some o) → Q (.ref (s.heap.objs.size + 4)) { s with heap := h' }) :
    wpAny (model prog w) A (call (.type "zip") [.ref l1, .ref l2]) Q E s := by
  refine callType_new F.called_zip (by decide) (F.typeCall_zip_2 _ _) (F.newCall_zip_2 _ _) (fun obj => F.args_object_init_3 obj _ _) F.entry_zip_new
    (meets_zip p q l1 l2 xs ys) ⟨hl1, hl2, ?_⟩
  have z1 : (zH1 p s.heap l1).objs.size = s.heap.objs.size + 1 := Heap.size_push ..
  have z2 : (zH2 p q s.heap l1 l2).objs.size = s.heap.objs.size + 2 := by rw [Heap.size_push, z1]
  have z3 : (zH3 p q s.heap l1 l2).objs.size = s.heap.objs.size + 3 := by rw [Heap.size_push, z2]
  have z4 : (zH4 p q s.heap l1 l2).objs.size = s.heap.objs.size + 4 := by rw [Heap.size_push, z3]
  have up2 : ∀ c o, (zH2 p q s.heap l1 l2).get? c = some o → (zH5 p q s.heap l1 l2).get? c = some o := fun c o x => Heap.get?_push_of_some _ (Heap.get?_push_of_some _ (Heap.get?_push_of_some _ x))
  have g5 : (zH5 p q s.heap l1 l2).get? (zH4 p q s.heap l1 l2).objs.size = some _ := Heap.get?_push_size _ rfl
  have g4 : (zH5 p q s.heap l1 l2).get? (zH3 p q s.heap l1 l2).objs.size = some _ := Heap.get?_push_of_some _ (Heap.get?_push_size _ rfl)
  have g3 : (zH5 p q s.heap l1 l2).get? (zH2 p q s.heap l1 l2).objs.size = some _ := Heap.get?_push_of_some _ (Heap.get?_push_of_some _ (Heap.get?_push_size _ rfl))
  have i2 : SeqIt q (zH5 p q s.heap l1 l2) (zH1 p s.heap l1).objs.size l2 0 := itObj_new.at fun o e => up2 _ o e
  have i1 : SeqIt p (zH5 p q s.heap l1 l2) s.heap.objs.size l1 0 := itObj_new.at fun o e => up2 _ o (Heap.get?_push_of_some _ e)
  rw [z2, z3, z4] at g5
  rw [z1, z2] at g3
  rw [z3] at g4
  rw [z1] at i2
  show _ ∧ _
  rw [z4]
  exact ⟨⟨_, g5, rfl⟩, h _ g5 g3 g4 i1 i2 fun c o x => up2 _ _ (Heap.get?_push_of_some _ (Heap.get?_push_of_some _ x))⟩
end

structure JZ (c : Cx) (p q : Bool) (z TI TO i1 i2 l1 l2 : Addr) (o1 o2 : Obj) (xs ys : Array Value) (ps : List PV) (g : Frz) (h : Heap) : Prop where
  hz : IsZip h z TI TO .none
  hTI : IsPair h TI (.ref i1) (.ref i2)
  hTO : ∃ a b, IsPair h TO a b
  it : ∃ k as bs, SeqIt p h i1 l1 k ∧ SeqIt q h i2 l2 k ∧ ps = zipL as bs ∧ RelL c g (xs.toList.drop k) as ∧ RelL c g (ys.toList.drop k) bs
  f1 : g l1 = some o1
  f2 : g l2 = some o2
  out : ∀ a ∈ [z, TI, TO, i1, i2], g a = none

theorem relL_drop {c : Cx} {g : Frz} {xs : Array Value} {k : Nat} {a : PV} {as : List PV} (r : RelL c g (xs.toList.drop k) (a :: as)) : ∃ x, xs[k]? = some x ∧ Rel c g x a ∧ RelL c g (xs.toList.drop (k + 1)) as := by
  generalize hd : xs.toList.drop k = ds at r
  obtain ⟨x, vs, rfl, h, r⟩ := relL_cons r
  have hlt : k < xs.toList.length := by
    rcases Nat.lt_or_ge k xs.toList.length with q | q
    · exact q
    · rw [List.drop_of_length_le q] at hd; cases hd
  rw [List.drop_eq_getElem_cons hlt] at hd
  obtain ⟨e1, e2⟩ := List.cons.inj hd
  refine ⟨x, ?_, h, by rw [e2]; exact r⟩
  have : xs.toList[k]? = some x := by rw [List.getElem?_eq_getElem hlt, e1]
  simpa using this
theorem relL_drop_nil {c : Cx} {g : Frz} {xs : Array Value} {k : Nat} (r : RelL c g (xs.toList.drop k) []) : xs[k]? = none := by
  generalize hd : xs.toList.drop k = ds at r
  obtain rfl := relL_nil r
  have := List.drop_eq_nil_iff.mp hd
  simp at this
  simpa using this

theorem z_m0 {a b c d e : Addr} : a ∈ [a, b, c, d, e] := List.mem_cons_self ..
theorem z_m1 {a b c d e : Addr} : b ∈ [a, b, c, d, e] := List.mem_cons_of_mem _ (List.mem_cons_self ..)
theorem z_m1' {b c d e : Addr} : c ∈ [b, c, d, e] := List.mem_cons_of_mem _ (List.mem_cons_self ..)
theorem z_m2' {b c d e : Addr} : d ∈ [b, c, d, e] := List.mem_cons_of_mem _ (List.mem_cons_of_mem _ (List.mem_cons_self ..))
theorem z_m3' {b c d e : Addr} : e ∈ [b, c, d, e] := List.mem_cons_of_mem _ (List.mem_cons_of_mem _ (List.mem_cons_of_mem _ (List.mem_cons_self ..)))
theorem z_m2 {a b c d e : Addr} : c ∈ [a, b, c, d, e] := List.mem_cons_of_mem _ z_m1'
theorem z_m3 {a b c d e : Addr} : d ∈ [a, b, c, d, e] := List.mem_cons_of_mem _ z_m2'
theorem z_m4 {a b c d e : Addr} : e ∈ [a, b, c, d, e] := List.mem_cons_of_mem _ z_m3'
theorem all5 {p : Addr → Prop} {a b c d e : Addr} (h0 : p a) (h1 : p b) (h2 : p c) (h3 : p d) (h4 : p e) : ∀ x ∈ [a, b, c, d, e], p x :=
  List.forall_mem_cons.mpr ⟨h0, List.forall_mem_cons.mpr ⟨h1, List.forall_mem_cons.mpr ⟨h2, List.forall_mem_cons.mpr ⟨h3, List.forall_mem_cons.mpr ⟨h4, fun _ h => nomatch h⟩⟩⟩⟩⟩
theorem iter_zip {c : Cx} {A : Around} {tg : Expr} {p q : Bool} {z TI TO i1 i2 l1 l2 : Addr} {o1 o2 : Obj} {xs ys : Array Value} (hh : A.handled = none) (ht : isTupE tg = true) (D : ZA z TI TO i1 i2)
    (s1 : ∀ h : Heap, h.get? l1 = some o1 → SeqIs p h l1 xs) (s2 : ∀ h : Heap, h.get? l2 = some o2 → SeqIs q h l2 ys) : Iter c A tg (.ref z) [z, TI, TO, i1, i2] (JZ c p q z TI TO i1 i2 l1 l2 o1 o2 xs ys) where
  frame := by
    rintro ps g h g' h' J sub0 m k out sub
    obtain ⟨k', as, bs, h1, h2, h3, h4, h5⟩ := J.it
    refine ⟨k _ z_m0 _ J.hz, k _ z_m1 _ J.hTI, ?_, ⟨k', as, bs, h1.at (k _ z_m3), h2.at (k _ z_m4), h3, h4.mono m, h5.mono m⟩, m _ _ J.f1, m _ _ J.f2, out⟩
    obtain ⟨a, b, e⟩ := J.hTO
    exact ⟨a, b, k _ z_m2 _ e⟩
  out := fun J => J.out
  live := by
    rintro ps g h J
    obtain ⟨k', as, bs, h1, h2, _⟩ := J.it
    obtain ⟨x, y, e⟩ := J.hTO
    exact all5 (p := fun a => (h.get? a).isSome = true) (by rw [J.hz]; rfl) (by rw [J.hTI]; rfl) (by rw [e]; rfl) h1.live h2.live
  self := fun J hq => wpAny_pyIter_zip J.hz hq
  nil := by
    rintro s Q E g J sub hq
    obtain ⟨k', as, bs, h1, h2, h3, h4, h5⟩ := J.it
    obtain ⟨x, y, e⟩ := J.hTO
    have n1 : ∀ l o, g l = some o → ∀ a ∈ [z, TI, TO, i1, i2], l ≠ a := fun l o f a ha q => by rw [q, J.out a ha] at f; cases f
    refine next_zip_end hh D J.hz J.hTI e h1 h2 (s1 _ (sub _ _ J.f1)) (s2 _ (sub _ _ J.f2)) ⟨n1 _ _ J.f1 _ z_m0, n1 _ _ J.f1 _ z_m2, n1 _ _ J.f1 _ z_m3, n1 _ _ J.f1 _ z_m4⟩
      ⟨n1 _ _ J.f2 _ z_m0, n1 _ _ J.f2 _ z_m2, n1 _ _ J.f2 _ z_m3, n1 _ _ J.f2 _ z_m4⟩ ?_ fun h' hk => hq h' s.toks fun a o ha e => hk a o ⟨?_, ?_, ?_, ?_⟩ e
    · cases as with
      | nil => exact .inl (relL_drop_nil h4)
      | cons a as =>
        cases bs with
        | nil => exact .inr (relL_drop_nil h5)
        | cons b bs => cases h3
    all_goals (intro q; apply ha; rw [q]; simp)
  cons := by
    rintro s Q E g x ps J sub hq
    obtain ⟨k', as, bs, h1, h2, h3, h4, h5⟩ := J.it
    obtain ⟨x0, y0, e⟩ := J.hTO
    have n1 : ∀ l o, g l = some o → ∀ a ∈ [z, TI, TO, i1, i2], l ≠ a := fun l o f a ha q => by rw [q, J.out a ha] at f; cases f
    cases as with
    | nil => cases h3
    | cons a as =>
      cases bs with
      | nil => cases h3
      | cons b bs =>
        have e1 : x = .tup [a, b] ∧ ps = zipL as bs := by
          have : x :: ps = .tup [a, b] :: zipL as bs := h3
          exact ⟨(List.cons.inj this).1, (List.cons.inj this).2⟩
        obtain ⟨rfl, rfl⟩ := e1
        obtain ⟨xv, q1, q2, q3⟩ := relL_drop h4
        obtain ⟨yv, q4, q5, q6⟩ := relL_drop h5
        refine next_zip_item D J.hz J.hTI e h1 h2 (s1 _ (sub _ _ J.f1)) (s2 _ (sub _ _ J.f2)) ⟨n1 _ _ J.f1 _ z_m0, n1 _ _ J.f1 _ z_m2, n1 _ _ J.f1 _ z_m3, n1 _ _ J.f1 _ z_m4⟩
          ⟨n1 _ _ J.f2 _ z_m0, n1 _ _ J.f2 _ z_m2, n1 _ _ J.f2 _ z_m3, n1 _ _ J.f2 _ z_m4⟩ q1 q4 fun h' hz' hTO' j1 j2 hT hk => ?_
        have hk' : ∀ a o, a ∉ [z, TI, TO, i1, i2] → s.heap.get? a = some o → h'.get? a = some o := fun a o ha e => hk a o ⟨fun q => ha (q ▸ z_m0), fun q => ha (q ▸ z_m2), fun q => ha (q ▸ z_m3), fun q => ha (q ▸ z_m4)⟩ e
        have hTI' : IsPair h' TI (.ref i1) (.ref i2) := hk _ _ ⟨D.TIz, D.TITO, D.TIi1, D.TIi2⟩ J.hTI
        have fr : g s.heap.objs.size = none := none_of_sub sub get_size
        have X0 : Ext (· ∈ [z, TI, TO, i1, i2]) g s.heap g h' := by
          refine ⟨.refl g, fun _ _ e => .inl e, fun a o e na => hk' a o na e, fun a e => ?_, fun a o e => ?_⟩
          · by_cases ha : a ∈ [z, TI, TO, i1, i2]
            · exact all5 (p := fun a => (h'.get? a).isSome = true) (by rw [hz']; rfl) (by rw [hTI']; rfl) (by rw [hTO']; rfl) j1.live j2.live a ha
            · cases y : s.heap.get? a with
              | none => rw [y] at e; cases e
              | some o => rw [hk' a o ha y]; rfl
          · exact hk' a o (fun ha => by rw [J.out a ha] at e; cases e) (sub _ _ e)
        have X := X0.freeze get_size fr hT
        have m := put_le (o := { cls := .type "tuple", data := .seq #[xv, yv] }) fr
        have lt : ∀ a o, s.heap.get? a = some o → a ≠ s.heap.objs.size := fun a o e => Nat.ne_of_lt (Heap.lt_size e)
        have outN : ∀ a ∈ [z, TI, TO, i1, i2], put g s.heap.objs.size { cls := .type "tuple", data := .seq #[xv, yv] } a = none := by
          intro a ha
          have hl : (s.heap.get? a).isSome = true := all5 (p := fun a => (s.heap.get? a).isSome = true) (by rw [J.hz]; rfl) (by rw [J.hTI]; rfl) (by rw [e]; rfl) h1.live h2.live a ha
          exact X.out (J.out a ha) hl
        refine hq (.ref s.heap.objs.size) _ h' s.toks X (.tup (put_same _ _ _) rfl rfl (.cons (q2.mono m) (.cons (q5.mono m) .nil))) fun Q' E' hq' => ?_
        cases tg with
        | Tuple elts k2 pos =>
          refine wpAny_letOwnedTupleGo_zip hz' fun h'' hz'' hs'' => ?_
          have k3 : ∀ c o, c ≠ z → h'.get? c = some o → h''.get? c = some o := fun c o hc e => hs''.extBut _ _ hc e
          have X2 : Ext (· ∈ [z, TI, TO, i1, i2]) (put g s.heap.objs.size { cls := .type "tuple", data := .seq #[xv, yv] }) h' (put g s.heap.objs.size { cls := .type "tuple", data := .seq #[xv, yv] }) h'' := by
            refine ⟨.refl _, fun _ _ e => .inl e, fun a o e na => k3 a o (fun q => na (q ▸ z_m0)) e, fun a e => ?_, fun a o e => k3 a o (fun q => ?_) (X.sub _ _ e)⟩
            · by_cases ha : a = z
              · rw [ha, hz'']; rfl
              · cases y : h'.get? a with
                | none => rw [y] at e; cases e
                | some o => rw [k3 a o ha y]; rfl
            · rw [q, outN z z_m0] at e; cases e
          refine hq' h'' s.toks X2 ⟨hz'', k3 _ _ D.TIz hTI', ⟨_, _, k3 _ _ D.TOz hTO'⟩, ⟨k' + 1, as, bs, j1.at fun o => k3 _ o D.i1z, j2.at fun o => k3 _ o D.i2z, rfl, q3.mono m, q6.mono m⟩, m _ _ J.f1, m _ _ J.f2, outN⟩
        | _ => cases ht

section
variable {c : Cx} {P : PenS → Prop} {n : Nat} {Γ : Tab} {r : R} {sf : Slf} {A : Around} {σ : Sg} {g : Frz} {b : Nat} {s : Shared} {sc : Scope} {ρ : PEnv} {env : Env} {tg : Expr}
theorem seq_of {v : Value} {x : PV} {l : List PV} (h : Rel c g v x) (hx : x = .lst l ∨ x = .tup l) : ∃ tp a o xs, v = .ref a ∧ g a = some o ∧ (∀ h : Heap, h.get? a = some o → SeqIs tp h a xs) ∧ RelL c g xs.toList l := by
  rcases hx with rfl | rfl
  · cases h with
    | lst a1 a2 a3 ad ra => exact ⟨false, _, _, _, rfl, a1, fun h e => ⟨_, e, a2, _, a3⟩, ra⟩
  · cases h with
    | tup a1 a2 a3 ra => exact ⟨true, _, _, _, rfl, a1, fun h e => ⟨_, e, a2, _, a3⟩, ra⟩
theorem zipL_len : ∀ {l q : List PV}, (zipL l q).length ≤ l.length
  | [], q => by simp [zipL]
  | x :: l, [] => by simp [zipL]
  | x :: l, y :: q => by show (zipL l q).length + 1 ≤ _; have := zipL_len (l := l) (q := q); simp; omega
theorem za_of (I : Nat) : ZA (I + 4) (I + 2) (I + 3) I (I + 1) := by
  constructor <;> (show ¬ (_ : Nat) = _) <;> omega
theorem gives_zip2 {v1 v2 : Value} {x y : PV} {l q : List PV} (R : Room A n) (ht : isTupE tg = true) (I : Inv c sf g σ b s.heap) (h1 : Rel c g v1 x) (h2 : Rel c g v2 y) (e1 : x = .lst l ∨ x = .tup l) (e2 : y = .lst q ∨ y = .tup q) (hl : l.length ≤ 1000) :
    Gives c A tg σ sf g b s (fun Q E => wpAny (model c.prog c.w) A (call (.type "zip") [v1, v2]) (fun x s₁ => wpAny (model c.prog c.w) A (pyIter x) Q E s₁) E s) (.ret (zipL l q)) := by
  obtain ⟨t1, a1, o1, xs, rfl, f1, q1, r1⟩ := seq_of h1 e1
  obtain ⟨t2, a2, o2, ys, rfl, f2, q2, r2⟩ := seq_of h2 e2
  intro Q E post hs hq
  refine call_zip (q1 _ (I.sub _ _ f1)) (q2 _ (I.sub _ _ f2)) fun h' hz hTI hTO i1 i2 hk => wpAny_pyIter_zip hz ?_
  have X : Ext W0 g s.heap g h' := Ext.grown I.sub hk
  have D : ZA (s.heap.objs.size + 4) (s.heap.objs.size + 2) (s.heap.objs.size + 3) s.heap.objs.size (s.heap.objs.size + 1) := za_of _
  have fr : ∀ a, s.heap.objs.size ≤ a → s.heap.get? a = none := fun a ha => by
    cases e : s.heap.get? a with
    | none => rfl
    | some o => exact absurd (Heap.lt_size e) (Nat.not_lt.mpr ha)
  have frs : ∀ a ∈ [s.heap.objs.size + 4, s.heap.objs.size + 2, s.heap.objs.size + 3, s.heap.objs.size, s.heap.objs.size + 1], s.heap.get? a = none := by
    intro a ha
    simp only [List.mem_cons, List.not_mem_nil, or_false] at ha
    rcases ha with rfl | rfl | rfl | rfl | rfl <;> exact fr _ (by first | exact Nat.le_refl _ | exact Nat.le_add_right _ _)
  refine hq _ _ b g h' s.toks _ _ (sat_ret.mp hs) X.any (I.ext0 X) (iter_zip R.h ht D q1 q2) ⟨hz, hTI, ⟨_, _, hTO⟩, ⟨0, l, q, i1, i2, rfl, by simpa using r1, by simpa using r2⟩, f1, f2, fun a ha => none_of_sub I.sub (frs a ha)⟩ frs ?_
  have := zipL_len (l := l) (q := q)
  omega
theorem gives_zip {vs : List Value} {l : List PV} (R : Room A n) (ht : isTupE tg = true) (I : Inv c sf g σ b s.heap) (hl : RelL c g vs l) :
    Gives c A tg σ sf g b s (fun Q E => wpAny (model c.prog c.w) A (call (.type "zip") vs) (fun x s₁ => wpAny (model c.prog c.w) A (pyIter x) Q E s₁) E s) (zipOf l) := by
  unfold zipOf
  split
  · obtain ⟨_, _, rfl, h1, r⟩ := relL_cons hl
    obtain ⟨_, _, rfl, h2, r⟩ := relL_cons r
    obtain rfl := relL_nil r
    exact gives_ok1 fun k1 => gives_ok1 fun k2 => gives_zip2 R ht I h1 h2 (.inl rfl) (.inl rfl) (Nat.le_of_ble_eq_true k1)
  · obtain ⟨_, _, rfl, h1, r⟩ := relL_cons hl
    obtain ⟨_, _, rfl, h2, r⟩ := relL_cons r
    obtain rfl := relL_nil r
    exact gives_ok1 fun k1 => gives_ok1 fun k2 => gives_zip2 R ht I h1 h2 (.inr rfl) (.inr rfl) (Nat.le_of_ble_eq_true k1)
  · exact gives_fail
theorem gives_range {vs : List Value} {l : List PV} (R : Room A n) (I : Inv c sf g σ b s.heap) (hl : RelL c g vs l) :
    Gives c A tg σ sf g b s (fun Q E => wpAny (model c.prog c.w) A (call (.type "range") vs) (fun x s₁ => wpAny (model c.prog c.w) A (pyIter x) Q E s₁) E s) (rangeOf l) := by
  unfold rangeOf
  split
  · rename_i k
    obtain ⟨_, _, rfl, h1, r⟩ := relL_cons hl
    obtain rfl := relL_nil r
    obtain ⟨_, rfl⟩ := rel_int h1
    rename_i t
    refine gives_ok1 fun hk0 => gives_ok1 fun hk => ?_
    have hk0 := of_decide_eq_true hk0
    have hk := of_decide_eq_true hk
    intro Q E post hs hq
    refine call_range_1 ?_
    have e1 : Builtin.Range.rangeSize 0 k 1 = (k.toNat : Int) := by rw [rangeSize_one]; split <;> omega
    refine wpAny_pyIter_range (IsRange.new _ _ _ _ _ _ _) (small_one (by decide) (by decide) (by omega) (by omega)) ?_
    generalize ho : ({ cls := .type "range", data := .fields #[.int 0 s.toks, .int k t, .int 1 (s.toks + 1)] } : Obj) = o1
    have X1 : Ext W0 g s.heap g (s.heap.push o1) := Ext.grown I.sub fun a o e => Heap.get?_push_of_some _ e
    rw [e1]
    have X2 : Ext W0 g (s.heap.push o1) g ((s.heap.push o1).push { cls := .type "range_iterator", data := .fields #[rawInt 0, rawInt (k.toNat : Int), rawInt 1] }) := Ext.grown X1.sub fun a o e => Heap.get?_push_of_some _ e
    have X := X1.trans X2
    have lz : (List.map iN (List.range k.toNat)).length = k.toNat := by simp
    refine hq _ (List.map iN (List.range k.toNat)) b g _ _ [(s.heap.push o1).objs.size] _ (sat_ret.mp hs) X.any (I.ext0 X) (iter_of_walks (Walks.range R.h _ 0 1 k.toNat) fun i h x => rangeIter_no x) ⟨0, ?_, by rw [lz]; omega, ?_, none_of_sub X1.sub get_size, fun b hb => .inl (List.mem_singleton.mp hb)⟩ ?_ (by rw [lz]; omega)
    · show IsRangeIter _ _ _ _ _
      have : IsRangeIter ((s.heap.push o1).push { cls := .type "range_iterator", data := .fields #[rawInt 0, rawInt (k.toNat : Int), rawInt 1] }) (s.heap.push o1).objs.size 0 k.toNat 1 := Heap.get?_push_size _ rfl
      simpa using this
    · rintro j x e v ⟨tt, rfl⟩
      simp at e
      obtain ⟨w, e, rfl⟩ := e
      have e : w = j := by
        have h1 := List.getElem?_eq_some_iff.mp e
        obtain ⟨h1, h2⟩ := h1
        simpa using h2.symm
      subst e
      have : (0 : Int) + ((0 + w : Nat) : Int) * 1 = (w : Int) := by omega
      rw [this]
      exact .int _ _
    · intro a ha
      rw [List.mem_singleton.mp ha]
      cases e : s.heap.get? (s.heap.push o1).objs.size with
      | none => rfl
      | some o => have := Heap.lt_size e; rw [Heap.size_push] at this; exact absurd this (Nat.not_lt.mpr (Nat.le_succ _))
  · exact gives_fail

theorem callWith_wp {pos : Pos} {f : Value} {first : List Value} {es : List Expr} {Q : Value → Shared → Prop} {E : Value → Shared → Prop} {post : Nat → List PV → Prop} (S : Sound c P n Γ r) (hns : noStars es = true) (H : Here c P n sf A σ g b s sc ρ env)
    (hs : Sat b (evArgs r sc ρ σ es) post)
    (h : ∀ vs l b' g' h' tk, post b' l → Ext (Wp σ.pen c.p) g s.heap g' h' → Inv c sf g' σ b' h' → RelL c g' vs l → KeepOk c f h' ∧ wpAny (model c.prog c.w) A (call f (first ++ vs)) Q E { s with heap := h', toks := tk }) :
    wpAny (model c.prog c.w) A (callWith pos f first (backTo pos (starEach es env)) []) Q E s := by
  refine callWith_of (P := fun h => KeepOk c f h) (by rw [noStars_any hns]; rfl) (fun h p => p) ?_
  cases es with
  | nil =>
    obtain ⟨h1, h2⟩ := h [] [] b g s.heap s.toks (sat_ret.mp hs) (Ext.refl H.I.sub) H.I .nil
    exact evalArgs_nil3 ⟨h1, h2⟩
  | cons e es => 
    have hst : isStar e = false := by
      rw [noStars] at hns
      cases q : isStar e with
      | true => rw [q] at hns; cases hns
      | false => rfl
    have := S.evL (pos := pos) H (fun vs s' => KeepOk c f s'.heap ∧ wpAny (model c.prog c.w) A (call f (first ++ vs)) Q E s') E _ hs fun vs l b1 g1 h1 tk1 hp x1 I1 r1 => h vs l b1 g1 h1 tk1 hp x1 I1 r1
    rw [starEach_cons hst] at this ⊢
    exact evalArgs_plain this

theorem gives_trans {m : (Value → Shared → Prop) → (Value → Shared → Prop) → Prop} {g' : Frz} {h' : Heap} {tk b' : Nat} {t : T (List PV)} {Q : Value → Shared → Prop} {E : Value → Shared → Prop} {post : Nat → List PV → Prop}
    (G : Gives c A tg σ sf g' b' { s with heap := h', toks := tk } m t) (x : Ext (Wp σ.pen c.p) g s.heap g' h') (hs : Sat b' t post)
    (hq : ∀ it xs b' g' h' tk own J, post b' xs → Ext (Wp σ.pen c.p) g s.heap g' h' → Inv c sf g' σ b' h' → Iter c A tg it own J → J xs g' h' → (∀ a ∈ own, s.heap.get? a = none) → xs.length ≤ 1000 → Q it { s with heap := h', toks := tk }) : m Q E :=
  G Q E post hs fun it xs b2 g2 h2 tk2 own J hp x2 I2 It J2 fr hl => hq it xs b2 g2 h2 tk2 own J hp (x.trans x2) I2 It J2 (fun a ha => by
    have := fr a ha
    cases e : s.heap.get? a with
    | none => rfl
    | some o => have q := x.live a (by rw [e]; rfl); rw [this] at q; cases q) hl

theorem s_hIter {e : Expr} (S : Sound c P n Γ r) (H : Here c P n sf A σ g b s sc ρ env) :
    Gives c A tg σ sf g b s (fun Q E => wpAny (model c.prog c.w) A (eval e env) (fun x s₁ => wpAny (model c.prog c.w) A (pyIter x) Q E s₁) E s) (hIter r sc ρ σ e) := by
  intro Q E post hs hq
  refine S.ev H _ E _ (sat_bind.mp hs) fun v x b1 g1 h1 tk1 hp x1 I1 r1 => ?_
  exact gives_trans (gives_items (s := { s with heap := h1, toks := tk1 }) H.R I1 r1) x1 hp hq
theorem s_callT {x : Str} {args : List Expr} {p pos : Pos} {t : String} {k : List PV → T (List PV)} (Tb : TabOk c P n Γ) (C : c.Ok) (S : Sound c P n Γ r) (H : Here c P n sf A σ g b s sc ρ env) (hd : strEq x "__debug__" = false) (hns : noStars args = true)
    (hg : globV Γ sc x = some (.raw (.type t))) (h : ∀ {vs l g' b' h' tk}, Inv c sf g' σ b' h' → RelL c g' vs l →
      Gives c A tg σ sf g' b' { s with heap := h', toks := tk } (fun Q E => wpAny (model c.prog c.w) A (call (.type t) vs) (fun x s₁ => wpAny (model c.prog c.w) A (pyIter x) Q E s₁) E { s with heap := h', toks := tk }) (k l)) :
    Gives c A tg σ sf g b s (fun Q E => wpAny (model c.prog c.w) A (eval (.Call (.Name x p) args [] pos) env) (fun x s₁ => wpAny (model c.prog c.w) A (pyIter x) Q E s₁) E s) ((evArgs r sc ρ σ args).bind k) := by
  intro Q E post hs hq
  obtain ⟨hk, hgl⟩ := globV_some hg
  have kd : env.scope.kind = .function := by rw [H.F.sce]; exact H.F.kind
  refine wpAny_Call_Name_kw (Name_function_global kd (kindOf_of H.F hk) (glob_value Tb C H.I H.F hgl fun u hu => ?_) (strEq_false hd))
  cases hu
  refine callWith_wp (first := []) S hns H (sat_bind.mp hs) fun vs l b1 g1 h1 tk1 hp x1 I1 r1 => ⟨keepOk_type, ?_⟩
  exact gives_trans (h I1 r1) x1 hp hq
theorem iterKind_1 {v : Option PV} (h : iterKind v = 1) : v = some (.raw (.type "range")) := by
  unfold iterKind at h
  split at h
  · split at h
    · split at h
      · split at h
        · rfl
        · cases h
        · cases h
      · cases h
    · cases h
  · cases h
theorem iterKind_2 {v : Option PV} (h0 : iterKind v ≠ 0) (h1 : iterKind v ≠ 1) : v = some (.raw (.type "zip")) := by
  unfold iterKind at h0 h1
  split at h0
  · split at h0
    · split at h0
      · split at h0
        · exact absurd rfl h1
        · rfl
        · exact absurd rfl h0
      · exact absurd rfl h0
    · exact absurd rfl h0
  · exact absurd rfl h0
theorem s_iter {e : Expr} (T : TabOk c P n Γ) (C : c.Ok) (S : Sound c P n Γ r) (H : Here c P n sf A σ g b s sc ρ env) :
    Gives c A tg σ sf g b s (fun Q E => wpAny (model c.prog c.w) A (eval e env) (fun x s₁ => wpAny (model c.prog c.w) A (pyIter x) Q E s₁) E s) (stepIter Γ r sc ρ σ tg e) := by
  unfold stepIter
  split
  · split
    · unfold hIterN
      split
      · split
        · exact s_hIter S H
        · rename_i hk
          split
          · rename_i hns
            split
            · exact gives_fail
            · rename_i hd
              exact s_callT T C S H hd hns (iterKind_1 hk) fun I1 r1 => gives_range H.R I1 r1
          · exact gives_fail
        · rename_i h0 h1
          split
          · rename_i hns
            split
            · rename_i ht
              split
              · exact gives_fail
              · rename_i hd
                exact s_callT T C S H hd hns (iterKind_2 h0 h1) fun I1 r1 => gives_zip H.R ht I1 r1
            · exact gives_fail
          · exact gives_fail
      · exact gives_fail
    · exact s_hIter S H
  · exact s_hIter S H
end
end Mine

namespace Mine

section
variable {prog : Program} {w : World} {A : Around} {R : Result → Shared → Prop} {s : Shared}
noncomputable def noE : Value → Shared → Prop := fun _ _ => False
noncomputable def testsOf (ifs : List Expr) (env : Env) : Sem Bool := forIn ifs true fun c r => if r = true then do let ok ← isTrue c env (eval c env); pure (ForInStep.yield ok) else pure (ForInStep.yield r)
theorem comp_step {elt target iter : Expr} {ifs : List Expr} {scope : Scope} {pos : Pos} {it acc : Value} {env : Env}
    (h : wpAny (model prog w) A (pyNext it) (fun r s₁ => match r with
      | none => R (.ok .next) s₁
      | some v => wpAny (model prog w) A (letOwnedTupleGo target it v) (fun _ s₁' => wpAny (model prog w) A (assign target env v) (fun _ s₂ =>
          wpAny (model prog w) A (testsOf ifs env) (fun ok s₃ =>
            if ok = true then wpAny (model prog w) A (eval elt env) (fun x s₄ =>
              wpAny (model prog w) A (call (.builtin "list.append") [acc, x]) (fun _ s₅ => codeAny (model prog w) A (.compLoop (.ListComp elt [⟨target, iter, ifs, 0⟩] scope pos) 0 it acc env) R s₅) noE s₄) noE s₃
            else codeAny (model prog w) A (.compLoop (.ListComp elt [⟨target, iter, ifs, 0⟩] scope pos) 0 it acc env) R s₃) noE s₂) noE s₁') noE s₁) noE s) :
    codeAny (model prog w) A (.compLoop (.ListComp elt [⟨target, iter, ifs, 0⟩] scope pos) 0 it acc env) R s := by
  refine codeAny_of_tree ?_
  show wpAny _ A ((compTurn (.ListComp elt [⟨target, iter, ifs, 0⟩] scope pos) 0 it acc env).onRaise (fun x => do noteFrame x env; theTreesLotGoes x)) _ _ s
  refine wpAny_noted ?_
  rw [compTurn_list]
  refine wpAny_bind (wpAny_standAt (wpAny_bind (wpAny_mono h (fun r s₁ h₁ => ?_) fun _ _ h' => h'.elim)))
  cases r with
  | none => exact wpAny_pure h₁
  | some v =>
    refine wpAny_bind (wpAny_mono h₁ (fun _ s₁' h₁' => ?_) fun _ _ h' => h'.elim)
    refine wpAny_bind (wpAny_mono h₁' (fun _ s₂ h₂ => wpAny_bind (wpAny_mono h₂ (fun ok s₃ h₃ => ?_) fun _ _ h' => h'.elim)) fun _ _ h' => h'.elim)
    cases ok with
    | false => exact wpAny_pure ⟨rfl, h₃⟩
    | true =>
      exact wpAny_bind (wpAny_bind (wpAny_mono h₃ (fun x s₄ h₄ => wpAny_bind (wpAny_mono h₄ (fun _ s₅ h₅ => wpAny_pure (wpAny_pure ⟨rfl, h₅⟩)) fun _ _ h' => h'.elim)) fun _ _ h' => h'.elim))

theorem for_step {target it : _} {body : List Stmt} {env : Env}
    (h : wpAny (model prog w) A (pyNext it) (fun r s₁ => match r with
      | none => R (.ok .next) s₁
      | some v => wpAny (model prog w) A (letOwnedTupleGo target it v) (fun _ s₁' => wpAny (model prog w) A (assign target env v) (fun _ s₂ =>
          wpAny (model prog w) A (execs body env) (fun f s₃ => match f with
            | .next => codeAny (model prog w) A (.forLoop target it body [] env) R s₃
            | .cont => codeAny (model prog w) A (.forLoop target it body [] env) R s₃
            | .brk => R (.ok .next) s₃
            | .ret v => R (.ok (.ret v)) s₃) noE s₂) noE s₁') noE s₁) noE s) :
    codeAny (model prog w) A (.forLoop target it body [] env) R s := by
  refine codeAny_of_tree ?_
  show wpAny _ A ((forTurn target it body [] env).onRaise (fun x => do noteFrame x env; theTreesLotGoes x)) _ _ s
  refine wpAny_noted ?_
  simp only [forTurn]
  refine wpAny_bind (wpAny_standAt (wpAny_bind (wpAny_onRaise (wpAny_mono h (fun r s₁ h₁ => ?_) fun _ _ h' => h'.elim))))
  cases r with
  | none => exact wpAny_pure ⟨rfl, codeAny_block (wpAny_execs_nil h₁)⟩
  | some v =>
    refine wpAny_bind (wpAny_mono h₁ (fun _ s₁' h₁' => ?_) fun _ _ h' => h'.elim)
    refine wpAny_bind (wpAny_mono h₁' (fun _ s₂ h₂ => wpAny_bind (wpAny_mono h₂ (fun f s₃ h₃ => ?_) fun _ _ h' => h'.elim)) fun _ _ h' => h'.elim)
    cases f with
    | next => exact wpAny_pure ⟨rfl, h₃⟩
    | cont => exact wpAny_pure ⟨rfl, h₃⟩
    | brk => exact wpAny_pure h₃
    | ret v => exact wpAny_pure h₃
end

section
variable {c : Cx} {P : PenS → Prop} {n : Nat} {Γ : Tab} {r : R} {sf : Slf} {A : Around} {σ : Sg} {g : Frz} {b : Nat} {s : Shared} {sc : Scope} {ρ : PEnv} {env : Env} {tg : Expr} {it : Value} {own : List Addr} {J : List PV → Frz → Heap → Prop} {D : Addr} {xs l0 : List PV}

theorem Lp.acc' {W : Addr → Prop} {g' : Frz} {h h' : Heap} (a : ∃ ys, h.PlainList D ys ∧ RelL c g ys.toList l0) (X : Ext W g h g' h') (n : ¬ W D) : ∃ ys, h'.PlainList D ys ∧ RelL c g' ys.toList l0 := by
  obtain ⟨ys, h1, h2⟩ := a
  exact ⟨ys, h1.at fun o e => X.keep _ o e n, h2.mono X.mono⟩
theorem acc_live {h : Heap} (a : ∃ ys, h.PlainList D ys ∧ RelL c g ys.toList l0) : (h.get? D).isSome = true := by
  obtain ⟨ys, ⟨k, e⟩, _⟩ := a
  rw [e]; rfl
/-- the loop's state, where nothing of its own has changed -/
theorem Lp.ext {W : Addr → Prop} {g' : Frz} {b' : Nat} {h h' : Heap} (L : Lp c sf σ sc env J D xs l0 ρ g b h) (It : Iter c A tg it own J) (X : Ext W g h g' h') (nO : ∀ a ∈ own, ¬ W a) (nE : ∀ a, Own env a → ¬ W a) (nD : ¬ W D) (I' : Inv c sf g' σ b' h') :
    Lp c sf σ sc env J D xs l0 ρ g' b' h' where
  I := I'
  F := L.F.ext X nE
  J := It.frame L.J L.I.sub X.mono (fun a ha o e => X.keep a o e (nO a ha)) (fun a ha => X.out (It.out L.J a ha) (It.live L.J a ha)) X.sub
  acc := Lp.acc' L.acc X nD
  fD := X.out L.fD (acc_live L.acc)
theorem Lp.here {h' : Heap} {tk : Nat} (L : Lp c sf σ sc env J D xs l0 ρ g b h') (R : Room A n) (m : P σ.pen) : Here c P n sf A σ g b { s with heap := h', toks := tk } sc ρ env := ⟨R, m, L.I, L.F⟩
theorem Ap.noP (p : Ap c sf σ env own D) (L : Lp c sf σ sc env J D xs l0 ρ g b s.heap) : (∀ a ∈ own, ¬ Wp σ.pen c.p a) ∧ (∀ a, Own env a → ¬ Wp σ.pen c.p a) ∧ ¬ Wp σ.pen c.p D :=
  ⟨fun a ha hw => p.O3 hw.is.1 (hw.is.2 ▸ ha), fun a ha hw => L.F.ap hw.is.1 a ha hw.is.2, fun hw => p.D3 hw.is.1 hw.is.2⟩
theorem Lp.extP {g' : Frz} {b' : Nat} {h' : Heap} (L : Lp c sf σ sc env J D xs l0 ρ g b s.heap) (p : Ap c sf σ env own D) (It : Iter c A tg it own J) (X : Ext (Wp σ.pen c.p) g s.heap g' h') (I' : Inv c sf g' σ b' h') : Lp c sf σ sc env J D xs l0 ρ g' b' h' := by
  obtain ⟨n1, n2, n3⟩ := p.noP L
  exact L.ext It X n1 n2 n3 I'

theorem at_ifs {ifs : List Expr} (S : Sound c P n Γ r) (H : Here c P n sf A σ g b s sc ρ env) : At c sf A σ (fun _ v r => v = r) (testsOf ifs env) (hIfs r sc σ ρ ifs) g b s := by
  unfold hIfs
  split
  · exact at_pure H.I rfl
  · split
    · intro Q E post hs hq
      exact wpAny_tests_one (S.tst H Q E post hs hq)
    · exact at_fail
theorem relL_push {ys : Array Value} {v : Value} {y : PV} (h : RelL c g ys.toList l0) (hv : Rel c g v y) : RelL c g (ys.push v).toList (l0 ++ [y]) := by
  rw [Array.toList_push]
  exact h.append (.cons hv .nil)

theorem s_comp {elt iter : Expr} {ifs : List Expr} {scope : Scope} {pos : Pos} (S : Sound c P n Γ r) (Rm : Room A n) (hm : P σ.pen) (p : Ap c sf σ env own D) (It : Iter c A tg it own J) (L : Lp c sf σ sc env J D xs l0 ρ g b s.heap) (hz : l0.length + xs.length ≤ 2000)
    (R : Result → Shared → Prop) (post : Nat → List PV → Prop) (hs : Sat b (stepComp r sc ρ σ elt tg ifs xs) post)
    (hR : ∀ l ys b' g' h' tk m, post b' l → ExtN (WC c σ own env D) g s.heap g' h' → Inv c sf g' σ b' h' → h'.PlainList D ys → g' D = none → RelL c g' ys.toList (l0 ++ l) → h'.Ns env.locals m → R (.ok .next) { s with heap := h', toks := tk }) :
    codeAny (model c.prog c.w) A (.compLoop (.ListComp elt [⟨tg, iter, ifs, 0⟩] scope pos) 0 it (.ref D) env) R s := by
  unfold stepComp at hs
  refine comp_step ?_
  cases xs with
  | nil =>
    refine It.nil L.J L.I.sub fun h' tk hk => ?_
    obtain ⟨ys, hp, hr⟩ := L.acc
    obtain ⟨m, hm, _⟩ := L.F.ns
    have X : ExtN (· ∈ own) g s.heap g h' := ⟨.refl g, fun _ _ e => .inl e, fun a o e na => hk a o na e, fun a o e => hk a o (fun ha => by rw [It.out L.J a ha] at e; cases e) (L.I.sub _ _ e)⟩
    refine hR [] ys b g h' tk m (sat_ret.mp hs) ⟨X.mono, X.new, fun a o e na => X.keep a o e fun q => na (.inr (.inl q)), X.sub⟩ (L.I.extN X p.O3 p.O4) (hp.at fun o e => hk _ o p.D1 e) L.fD (by rw [List.append_nil]; exact hr) (hm.at fun o e => hk _ o (fun q => p.O2 _ q (.inl rfl)) e)
  | cons x xs =>
    dsimp only at hs
    cases hb : bindT true sc tg x ρ with
    | none => rw [hb] at hs; exact (sat_fail.mp hs).elim
    | some ρ' =>
      rw [hb] at hs
      have hs : Sat b (hCompT r sc σ elt tg ifs xs ρ') post := hs
      refine It.cons L.J L.I.sub fun v g1 h1 tk1 X1 hv hgo => ?_
      refine hgo _ _ fun h1' tk1' X1' J1 => ?_
      have Xa := X1.trans X1'
      have I1 := L.I.extW Xa p.O3 p.O4
      have F1 := L.F.ext Xa fun a ha q => p.O2 a q ha
      have acc1 := Lp.acc' L.acc Xa p.D1
      have fD1 := Xa.out L.fD (acc_live L.acc)
      refine assign_T (s := { s with heap := h1', toks := tk1' }) Rm.h hb hv F1 X1'.sub fun h2 tk2 X2 F2 => ?_
      have nl : ∀ a, Own env a → a ∉ own := fun a ha q => p.O2 a q ha
      have nW : ∀ a, Wa env sc true a → a = env.locals := fun a ha => by
        rcases ha with ha | ⟨q, _⟩
        · exact ha
        · cases q
      have I2 : Inv c sf g1 σ b h2 := I1.extW X2 (fun n q => L.F.ap n _ (.inl rfl) (nW _ q).symm) (fun n => ⟨fun q => (L.F.apS n _ (.inl rfl)).1 (nW _ q).symm, fun q => (L.F.apS n _ (.inl rfl)).2 (nW _ q).symm⟩)
      have L2 : Lp c sf σ sc env J D xs l0 ρ' g1 b h2 := ⟨I2, F2, It.frame J1 X1'.sub (.refl _) (fun a ha o e => X2.keep a o e fun q => nl _ (.inl rfl) (nW _ q ▸ ha)) (fun a ha => It.out J1 a ha) X2.sub,
        Lp.acc' acc1 X2 (fun q => p.D2 (.inl (nW _ q))), fD1⟩
      refine at_ifs (s := { s with heap := h2, toks := tk2 }) S (L2.here (tk := tk2) Rm hm) _ _ _ (sat_bind.mp hs) fun ok ok' b3 g3 h3 tk3 hp X3 I3 e3 => ?_
      subst e3
      have L3 := L2.extP (s := { s with heap := h2, toks := tk2 }) p It X3 I3
      have XX3 : Ext (WC c σ own env D) g s.heap g3 h3 := (Xa.weaken fun a q => .inr (.inl q)).trans ((X2.weaken fun a q => .inr (.inr (.inl (nW a q)))).trans (X3.weaken fun a q => .inl q))
      have hp := sat_br.mp hp
      cases ok with
      | false =>
        rw [if_neg (by decide)]
        refine S.comp (s := { s with heap := h3, toks := tk3 }) Rm hm p It L3 (by simp at hz; omega) R post (hp.2 rfl) fun l ys b' g' h' tk m hp' X' I' hp2 f' r' hn => ?_
        exact hR l ys b' g' h' tk m hp' (XX3.transN X') I' hp2 f' r' hn
      | true =>
        rw [if_pos rfl]
        refine S.ev (s := { s with heap := h3, toks := tk3 }) (L3.here (tk := tk3) Rm hm) _ _ _ (sat_bind.mp (hp.1 rfl)) fun yv y b4 g4 h4 tk4 hp4 X4 I4 r4 => ?_
        have L4 := L3.extP (s := { s with heap := h3, toks := tk3 }) p It X4 I4
        obtain ⟨ys, q1, q2⟩ := L4.acc
        have sz : ys.size = l0.length := by rw [← q2.length, Array.length_toList]
        refine wpAny_list_append_plain (s := { s with heap := h4, toks := tk4 }) q1 (fun h5 hp5 hs5 => ?_) (by rw [sz, sizeLine_eq]; omega)
        have X5 : Ext (· = D) g4 h4 g4 h5 := by
          refine ⟨.refl _, fun _ _ e => .inl e, fun a o e na => by rw [hs5.2 a na]; exact e, fun a e => ?_, fun a o e => ?_⟩
          · by_cases ha : a = D
            · obtain ⟨k, e'⟩ := hp5
              rw [ha, e']; rfl
            · rw [hs5.2 a ha]; exact e
          · rw [hs5.2 a fun q => by rw [q, L4.fD] at e; cases e]
            exact L4.I.sub _ _ e
        have I5 := L4.I.extW X5 (fun n q => p.D3 n q.symm) (fun n => ⟨fun q => (p.D4 n).1 q.symm, fun q => (p.D4 n).2 q.symm⟩)
        have L5 : Lp c sf σ sc env J D xs (l0 ++ [y]) ρ' g4 b4 h5 := ⟨I5, L4.F.ext X5 fun a ha q => p.D2 (q ▸ ha), It.frame L4.J L4.I.sub (.refl _) (fun a ha o e => X5.keep a o e fun q => p.D1 (q ▸ ha)) (fun a ha => It.out L4.J a ha) X5.sub, ⟨_, hp5, relL_push q2 r4⟩, L4.fD⟩
        have XX5 : Ext (WC c σ own env D) g s.heap g4 h5 := XX3.trans ((X4.weaken fun a q => .inl q).trans (X5.weaken fun a q => .inr (.inr (.inr q))))
        refine S.comp (s := { s with heap := h5, toks := tk4 }) Rm hm p It L5 (by simp at hz ⊢; omega) R _ (sat_bind.mp hp4) fun l ys b' g' h' tk m hp' X' I' hp2 f' r' hn => ?_
        exact hR (y :: l) ys b' g' h' tk m (sat_ret.mp hp') (XX5.transN X') I' hp2 f' (by simpa using r') hn
end
end Mine

namespace Mine

theorem closure_go (env : Env) : ∀ (names : List (Str × NameKind)) (acc : List (Str × Addr)), (∀ x, (x, NameKind.free) ∈ names → ∃ a, env.cells.lookup x = some a) →
    ∃ cl, (forIn names acc fun (p : Str × NameKind) cs => if (p.2 == NameKind.free) = true then (do let a ← cellOf env p.1; pure (ForInStep.yield ((p.1, a) :: cs))) else pure (ForInStep.yield cs) : Sem (List (Str × Addr))) = pure cl ∧
      (∀ x a, cl.lookup x = some a → acc.lookup x = some a ∨ env.cells.lookup x = some a) ∧ ∀ x, ((x, NameKind.free) ∈ names ∨ (acc.lookup x).isSome = true) → (cl.lookup x).isSome = true
  | [], acc, _ => ⟨acc, rfl, fun x a h => .inl h, fun x h => by rcases h with h | h <;> first | exact h | cases h⟩
  | (y, k) :: r, acc, h => by
    rw [List.forIn_cons]
    by_cases hk : k = .free
    · subst hk
      obtain ⟨a, ha⟩ := h y (List.mem_cons_self ..)
      obtain ⟨cl, h1, h2, h3⟩ := closure_go env r ((y, a) :: acc) fun x hx => h x (List.mem_cons_of_mem _ hx)
      refine ⟨cl, ?_, fun x b hb => ?_, fun x hx => ?_⟩
      · rw [← h1]
        have q : cellOf env y = pure a := by unfold cellOf; rw [ha]
        simp only [q, beq_self_eq_true, if_true, pure_bind]
      · rcases h2 x b hb with q | q
        · rw [List.lookup_cons] at q
          cases e : x == y with
          | true => rw [e] at q; cases q; rw [beq_iff_eq.mp e]; exact .inr ha
          | false => rw [e] at q; exact .inl q
        · exact .inr q
      · refine h3 x ?_
        rcases hx with hx | hx
        · rcases List.mem_cons.mp hx with hx | hx
          · cases hx; refine .inr ?_; rw [List.lookup_cons]; simp
          · exact .inl hx
        · refine .inr ?_
          rw [List.lookup_cons]
          cases e : x == y with
          | true => rfl
          | false => exact hx
    · obtain ⟨cl, h1, h2, h3⟩ := closure_go env r acc fun x hx => h x (List.mem_cons_of_mem _ hx)
      refine ⟨cl, ?_, h2, fun x hx => h3 x ?_⟩
      · rw [← h1]
        have q : (k == NameKind.free) = false := by simpa using hk
        simp only [q, Bool.false_eq_true, if_false, pure_bind]
      · rcases hx with hx | hx
        · rcases List.mem_cons.mp hx with hx | hx
          · cases hx; exact absurd rfl hk
          · exact .inl hx
        · exact .inr hx
theorem closure_of {scope : Scope} {env : Env} (h : ∀ x, (x, NameKind.free) ∈ scope.names → ∃ a, env.cells.lookup x = some a) :
    ∃ cl, closureFor scope env = pure cl ∧ (∀ x a, cl.lookup x = some a → env.cells.lookup x = some a) ∧ ∀ x, (x, NameKind.free) ∈ scope.names → (cl.lookup x).isSome = true := by
  obtain ⟨cl, h1, h2, h3⟩ := closure_go env scope.names [] h
  refine ⟨cl, ?_, fun x a e => ?_, fun x hx => h3 x (.inl hx)⟩
  · unfold closureFor
    simp only [bind_pure]
    rw [← h1]
  · rcases h2 x a e with q | q
    · cases q
    · exact q

theorem look_mem {α : Type} {x : Str} {v : α} : ∀ {l : List (Str × α)}, look x l = some v → (x, v) ∈ l
  | [], e => by cases e
  | (y, u) :: r, e => by
    rw [look_cons] at e
    split at e
    · rename_i q; cases e; rw [q]; exact List.mem_cons_self ..
    · exact List.mem_cons_of_mem _ (look_mem e)
theorem namesOk_all {sc : Scope} {names : List (Str × NameKind)} : ∀ {l : List (Str × NameKind)}, namesOk sc names l = true → ∀ p ∈ l, p.2 ≠ .cell ∧ (p.2 = .local → look p.1 names = some .local) ∧ (p.2 = .free → kindIn sc p.1 = some .cell)
  | [], _, p, h => by cases h
  | (x, k) :: r, e, p, h => by
    unfold namesOk at e
    rcases List.mem_cons.mp h with rfl | hm
    · cases k with
      | cell => cases e
      | «local» =>
        simp only at e
        refine ⟨(fun e => nomatch e), (fun _ => ?_), (fun e => nomatch e)⟩
        split at e
        · assumption
        · cases e
      | free =>
        simp only at e
        refine ⟨(fun e => nomatch e), (fun e => nomatch e), (fun _ => ?_)⟩
        split at e
        · assumption
        · cases e
      | _ => exact ⟨(fun e => nomatch e), (fun e => nomatch e), (fun e => nomatch e)⟩
    · cases k with
      | cell => cases e
      | «local» =>
        simp only at e
        split at e
        · exact namesOk_all e p hm
        · cases e
      | free =>
        simp only at e
        split at e
        · exact namesOk_all e p hm
        · cases e
      | _ => exact namesOk_all e p hm
theorem look_relab {scope sc : Scope} {x : Str} : kindIn (relab scope sc) x = (kindIn scope x).map fun k => if (k == .free && sc.kind == .function && sc.names.lookup x == some .cell) then .cell else k := by
  unfold kindIn relab
  simp only
  generalize scope.names = names
  induction names with
  | nil => rfl
  | cons p r ih =>
    obtain ⟨y, k⟩ := p
    rw [List.map_cons]
    by_cases q : y = x
    · subst q
      by_cases z : (k == .free && sc.kind == .function && sc.names.lookup y == some .cell) = true
      · simp only [z, if_true, look_cons, Option.map_some]
      · rw [Bool.not_eq_true] at z
        simp only [z, Bool.false_eq_true, if_true, if_false, look_cons, Option.map_some]
    · by_cases z : (k == .free && sc.kind == .function && sc.names.lookup y == some .cell) = true
      · simp only [z, if_true, look_cons, q, if_false]; exact ih
      · rw [Bool.not_eq_true] at z
        simp only [z, Bool.false_eq_true, look_cons, q, if_false]; exact ih
theorem look_onlyFree {scope : Scope} {x : Str} {v : PV} : ∀ {ρ : PEnv}, look x (onlyFree scope ρ) = some v → kindIn scope x = some .free ∧ look x ρ = some v
  | [], e => by cases e
  | (y, u) :: r, e => by
    unfold onlyFree at e
    rw [look_cons]
    split at e
    · rename_i hk
      rw [look_cons] at e
      split at e
      · rename_i q; subst q; cases e; exact ⟨hk, by rw [if_pos rfl]⟩
      · rename_i q
        obtain ⟨h1, h2⟩ := look_onlyFree e
        exact ⟨h1, by rw [if_neg q]; exact h2⟩
    · rename_i hk
      obtain ⟨h1, h2⟩ := look_onlyFree e
      refine ⟨h1, ?_⟩
      by_cases q : y = x
      · subst q; exact absurd h1 hk
      · rw [if_neg q]; exact h2
end Mine

namespace Mine

section
variable {c : Cx} {P : PenS → Prop} {n : Nat} {Γ : Tab} {r : R} {sf : Slf} {A : Around} {σ : Sg} {g : Frz} {b : Nat} {s : Shared} {sc : Scope} {ρ : PEnv} {env : Env} {tg : Expr}

/-- one more object frozen -/
theorem Inv.freeze {h : Heap} {D : Addr} {o : Obj} (I : Inv c sf g σ b h) (f : g D = none) (e : h.get? D = some o) (hp : σ.pen ≠ .off → D ≠ c.p) (hs : σ.slf ≠ none → D ≠ sf.x ∧ D ≠ sf.dx) : Inv c sf (put g D o) σ b h where
  base := I.base.trans (put_le f)
  sub := fun a o' q => by
    unfold put at q
    by_cases ha : a = D
    · rw [if_pos ha] at q; cases q; rw [ha]; exact e
    · rw [if_neg ha] at q; exact I.sub _ _ q
  pen := PenB.mono I.pen (put_le f) fun _ _ e => e
  penF := fun n => by
    unfold put
    rw [if_neg fun q => hp n q.symm]; exact I.penF n
  slf := by
    have q := I.slf
    unfold SlfB at q ⊢
    split at q
    · exact trivial
    · obtain ⟨q1, es, m, q2, q3⟩ := q
      exact ⟨q1, es, m, q2, q3.mono (put_le f)⟩
  slfC := I.slfC
  slfF := fun n => by
    obtain ⟨f1, f2, f3⟩ := I.slfF n
    obtain ⟨k1, k2⟩ := hs n
    unfold put
    rw [if_neg fun q => k1 q.symm, if_neg fun q => k2 q.symm]
    exact ⟨f1, f2, f3⟩

theorem compOk_of {scope : Scope} {iter : Expr} (h : compOk sc scope iter = true) : scope.kind = .function ∧ isSetE iter = false ∧ namesOk sc scope.names scope.names = true := by
  unfold compOk at h
  split at h
  · rename_i hk
    split at h
    · cases h
    · rename_i hs
      refine ⟨?_, hs, h⟩
      cases q : scope.kind with
      | function => rfl
      | _ => rw [q] at hk; cases hk
  · cases h
theorem live_ne {h : Heap} {a D : Addr} (l : (h.get? a).isSome = true) (d : h.get? D = none) : a ≠ D := fun e => by rw [e, d] at l; cases l
theorem dead_back {W : Addr → Prop} {g' : Frz} {h h' : Heap} (x : Ext W g h g' h') {a : Addr} (d : h'.get? a = none) : h.get? a = none := by
  cases e : h.get? a with
  | none => rfl
  | some o => have q := x.live a (by rw [e]; rfl); rw [d] at q; cases q

/-- the frame of a comprehension -/
theorem comp_frame {scope : Scope} {iter : Expr} {cl : List (Str × Addr)} {C : Addr} {h h' : Heap} {g' : Frz} {cenv : Env} (F : Fm c sf g σ sc ρ env h) (hc : compOk sc scope iter = true) (X : Ext (Wp σ.pen c.p) g h g' h')
    (k1 : ∀ x a, cl.lookup x = some a → env.cells.lookup x = some a) (k2 : ∀ x, (x, NameKind.free) ∈ scope.names → (cl.lookup x).isSome = true) (d : h.get? C = none) (hC : g' C = none) (hn : h'.Ns C fun _ => none)
    (hp : σ.pen ≠ .off → C ≠ c.p) (hs : σ.slf ≠ none → C ≠ sf.x ∧ C ≠ sf.dx)
    (e1 : cenv.scope = relab scope sc) (e2 : cenv.globals = env.globals) (e3 : cenv.builtins = env.builtins) (e4 : cenv.locals = C) (e5 : cenv.cells = cl) : Fm c sf g' σ (relab scope sc) (onlyFree scope ρ) cenv h' := by
  obtain ⟨q1, q2, q3⟩ := compOk_of hc
  have all := namesOk_all q3
  have F' := F.extP X
  have own : ∀ a, Own cenv a → a = C ∨ Own env a := fun a ha => by
    rcases ha with ha | ⟨x, ha⟩
    · exact .inl (ha.trans e4)
    · rw [e5] at ha; exact .inr (.inr ⟨x, k1 x a ha⟩)
  have toFree : ∀ x, kindIn (relab scope sc) x = some .cell → kindIn scope x = some .free ∧ kindIn sc x = some .cell := fun x hx => by
    rw [look_relab] at hx
    cases hk : kindIn scope x with
    | none => rw [hk] at hx; cases hx
    | some k =>
      rw [hk] at hx
      have m := look_mem hk
      obtain ⟨a1, a2, a3⟩ := all _ m
      cases k with
      | cell => exact absurd rfl a1
      | free => exact ⟨rfl, a3 rfl⟩
      | _ => simp at hx
  have rel : ∀ x, kindIn scope x = some .free → kindIn sc x = some .cell → kindIn (relab scope sc) x = some .cell := fun x hx hy => by
    rw [look_relab, hx]
    have : sc.names.lookup x = some .cell := by rw [← look_lookup]; exact hy
    simp [F.kind, this]
  refine ⟨e1, by show scope.kind = .function; exact q1, e2.trans F.glob, e3.trans F.blt, ⟨fun _ => none, by rw [e4]; exact hn, fun x v hx => ?_⟩, fun x hx => ?_, ?_, ?_, ?_, ?_, ?_, ?_⟩
  · obtain ⟨f1, f2⟩ := look_onlyFree hx
    obtain ⟨m, _, hv⟩ := F'.ns
    obtain ⟨k, u, h1, h2, h3⟩ := hv x v f2
    obtain ⟨a1, a2, a3⟩ := all _ (look_mem f1)
    have hcell := a3 rfl
    rw [hcell] at h1
    cases h1
    obtain ⟨a, z1, z2⟩ := h2
    refine ⟨.cell, u, rel x f1 hcell, ?_, h3⟩
    cases hl : cl.lookup x with
    | none => have := k2 x (look_mem f1); rw [hl] at this; cases this
    | some a' =>
      have := k1 x a' hl
      rw [z1] at this
      cases this
      exact ⟨a, by rw [e5]; exact hl, z2⟩
  · obtain ⟨f1, f2⟩ := toFree x hx
    obtain ⟨a, uo, z1, z2⟩ := F'.cells x f2
    cases hl : cl.lookup x with
    | none => have := k2 x (look_mem f1); rw [hl] at this; cases this
    | some a' =>
      have := k1 x a' hl
      rw [z1] at this
      cases this
      exact ⟨a, uo, by rw [e5]; exact hl, z2⟩
  · rw [e5]; exact fun x y a h1 h2 => F.inj x y a (k1 _ _ h1) (k1 _ _ h2)
  · rw [e5, e4]; exact fun x a h1 => live_ne (F.live a (.inr ⟨x, k1 _ _ h1⟩)) d
  · intro a ha
    rcases own a ha with rfl | ha
    · obtain ⟨o, _, _, ho, _⟩ := hn; rw [ho]; rfl
    · exact F'.live a ha
  · intro a ha
    rcases own a ha with rfl | ha
    · exact hC
    · exact F'.out a ha
  · intro np a ha
    rcases own a ha with rfl | ha
    · exact hp np
    · exact F.ap np a ha
  · intro ns a ha
    rcases own a ha with rfl | ha
    · exact hs ns
    · exact F.apS ns a ha

theorem comp_wp {elt iter : Expr} {ifs : List Expr} {scope : Scope} {p pos : Pos} {use : Option (Value → Sem Unit)} {Q : Value → Shared → Prop} {E : Value → Shared → Prop} {post : Nat → List PV → Prop} (S : Sound c P n Γ r) (H : Here c P n sf A σ g b s sc ρ env) (hc : compOk sc scope iter = true)
    (hs : Sat b ((r.evIter sc ρ σ tg iter).bind fun xs => r.comp (relab scope sc) (onlyFree scope ρ) σ elt tg ifs xs) post)
    (hq : ∀ D C l b' g' h' tk m, post b' l → Ext (Wp σ.pen c.p) g s.heap g' h' → Inv c sf g' σ b' h' → Rel c g' (.ref D) (.lst l) → h'.Ns C m → s.heap.get? C = none → g' C = none → (σ.pen ≠ .off → C ≠ c.p) → (σ.slf ≠ none → C ≠ sf.x ∧ C ≠ sf.dx) →
      match use with
      | none => ∀ h'', Heap.SameBut C h' h'' → Q (.ref D) { s with heap := h'', toks := tk }
      | some u => wpAny (model c.prog c.w) A (u (.ref D)) (fun _ s'' => ∃ m, s''.heap.Ns C m ∧ ∀ h', Heap.SameBut C s''.heap h' → Q .none { s'' with heap := h' }) E { s with heap := h', toks := tk }) :
    wpAny (model c.prog c.w) A (comprehension (.ListComp elt [⟨tg, iter, ifs, 0⟩] scope p) scope env pos (newList []) false (eval iter env) use) Q E s := by
  obtain ⟨q1, q2, q3⟩ := compOk_of hc
  have all := namesOk_all q3
  obtain ⟨cl, hcl, k1, k2⟩ := closure_of (scope := scope) (env := env) fun x hx => by
    obtain ⟨a, uo, z, _⟩ := H.F.cells x ((all _ hx).2.2 rfl)
    exact ⟨a, z⟩
  refine wpAny_comprehension_free rfl (fun x => by cases iter <;> first | rfl | cases q2) hcl q1 (fun x hx e => by rw [← look_lookup]; exact (all _ hx).2.1 e) ?_
  refine S.iter H _ E _ (sat_bind.mp hs) fun it xs b1 g1 h1 tk1 own J hp X1 I1 It J1 fr hl => ?_
  refine wpAny_newObj_type ?_ (by show (0 : Nat) ≤ _; exact Nat.zero_le _)
  refine wpAny_newFunctionEnv (fun x hx => (all _ hx).1) (by intro x hx; cases hx) (fun h2 hns hsb => ?_) q1
  dsimp only at hns hsb ⊢
  generalize hHD : h1.push { cls := .type "list", dict := none, data := .seq ([] : List Value).toArray } = HD at hns hsb ⊢
  have dD : h1.get? h1.objs.size = none := get_size
  have hCs : HD.objs.size = h1.objs.size + 1 := by rw [← hHD, Heap.size_push]
  have dC1 : HD.get? HD.objs.size = none := get_size
  have up1 : ∀ a o, h1.get? a = some o → HD.get? a = some o := fun a o e => by rw [← hHD]; exact Heap.get?_push_of_some _ e
  have gD : HD.get? h1.objs.size = some { cls := .type "list", data := .seq #[] } := by rw [← hHD]; exact Heap.get?_push_size _ rfl
  have dC : h1.get? HD.objs.size = none := by
    cases e : h1.get? HD.objs.size with
    | none => rfl
    | some o => rw [up1 _ _ e] at dC1; cases dC1
  have up2 : ∀ a o, HD.get? a = some o → h2.get? a = some o := fun a o e => by
    rw [hsb.2 a fun q => by rw [q, dC1] at e; cases e]; exact Heap.get?_push_of_some _ e
  have X2 : Ext W0 g1 h1 g1 h2 := Ext.grown I1.sub fun a o e => up2 _ _ (up1 _ _ e)
  have Z := X1.trans X2.any
  have I2 := I1.ext0 X2
  have dDs := dead_back X1 dD
  have dCs := dead_back X1 dC
  have fD : g1 h1.objs.size = none := none_of_sub I1.sub dD
  have fC : g1 HD.objs.size = none := none_of_sub I1.sub dC
  have hpC : σ.pen ≠ .off → HD.objs.size ≠ c.p := fun np => (live_ne (I1.penLive np) dC).symm
  have hpD : σ.pen ≠ .off → h1.objs.size ≠ c.p := fun np => (live_ne (I1.penLive np) dD).symm
  have hsC : σ.slf ≠ none → HD.objs.size ≠ sf.x ∧ HD.objs.size ≠ sf.dx := fun ns => ⟨(live_ne (I1.slfLive ns).1 dC).symm, (live_ne (I1.slfLive ns).2 dC).symm⟩
  have hsD : σ.slf ≠ none → h1.objs.size ≠ sf.x ∧ h1.objs.size ≠ sf.dx := fun ns => ⟨(live_ne (I1.slfLive ns).1 dD).symm, (live_ne (I1.slfLive ns).2 dD).symm⟩
  have esc : relabel scope env = relab scope sc := by rw [← H.F.sce]; rfl
  generalize hcenv : ({ newEnv scope HD.objs.size env.globals cl env.qual none .none (some env) builtinsNs with scope := relabel scope env } : Env) = cenv
  have c1 : cenv.scope = relab scope sc := by rw [← hcenv]; exact esc
  have c2 : cenv.globals = env.globals := by rw [← hcenv]; rfl
  have c3 : cenv.builtins = env.builtins := by rw [← hcenv]; rfl
  have c4 : cenv.locals = HD.objs.size := by rw [← hcenv]; rfl
  have c5 : cenv.cells = cl := by rw [← hcenv]; rfl
  have F2 := comp_frame (cenv := cenv) H.F hc Z k1 k2 dCs fC (by simpa using hns) hpC hsC c1 c2 c3 c4 c5
  have ownE : ∀ a, Own cenv a → a = HD.objs.size ∨ Own env a := fun a ha => by
    rcases ha with ha | ⟨x, ha⟩
    · exact .inl (ha.trans c4)
    · rw [c5] at ha; exact .inr (.inr ⟨x, k1 x a ha⟩)
  have liveE : ∀ a, Own env a → (h1.get? a).isSome = true := fun a ha => X1.live a (H.F.live a ha)
  have Apt : Ap c sf σ cenv own h1.objs.size := by
    refine ⟨fun ha => live_ne (It.live J1 _ ha) dD rfl, fun ha => ?_, hpD, hsD, fun a ha hb => ?_, fun np ha => ?_, fun ns => ⟨fun ha => ?_, fun ha => ?_⟩⟩
    · rcases ownE _ ha with e | e
      · rw [hCs] at e; exact absurd e (Nat.ne_of_lt (Nat.lt_succ_self _))
      · exact live_ne (liveE _ e) dD rfl
    · rcases ownE _ hb with e | e
      · exact live_ne (It.live J1 a ha) dC e
      · exact live_ne (H.F.live a e) (fr a ha) rfl
    · exact live_ne (H.I.penLive np) (fr _ ha) rfl
    · exact live_ne (H.I.slfLive ns).1 (fr _ ha) rfl
    · exact live_ne (H.I.slfLive ns).2 (fr _ ha) rfl
  have J2 := It.frame J1 I1.sub (.refl _) (fun a _ o e => up2 _ _ (up1 _ _ e)) (fun a ha => It.out J1 a ha) X2.sub
  have L : Lp c sf σ (relab scope sc) cenv J h1.objs.size xs [] (onlyFree scope ρ) g1 b1 h2 := ⟨I2, F2, J2, ⟨#[], ⟨0, up2 _ _ gD⟩, .nil⟩, fD⟩
  have loop : ∀ tk, codeAny (model c.prog c.w) A (.compLoop (.ListComp elt [⟨tg, iter, ifs, 0⟩] scope p) 0 it (.ref h1.objs.size) cenv) (compPost (model c.prog c.w) A E use Q (.ref h1.objs.size) HD.objs.size) { s with heap := h2, toks := tk } := fun tk => by
    refine S.comp (s := { s with heap := h2, toks := tk }) H.R H.m Apt It L (by simpa using Nat.le_trans hl (by decide)) _ _ hp fun l ys b' g' h' tk' m hpost Y I' hys hfD hr hn => ?_
    have Zs : Ext (Wp σ.pen c.p) g s.heap g' h' := ExtN.close Z Y (fun a ha => by
      rcases ha with ha | ha | ha | ha
      · exact .inl ha
      · exact .inr (fr a ha)
      · rw [ha, c4]; exact .inr dCs
      · rw [ha]; exact .inr dDs) fun a ha => by rw [ha.is.2]; exact I'.penLive ha.is.1
    obtain ⟨k, eD⟩ := hys
    have Zf := Zs.freeze dDs hfD eD
    have I'' := I'.freeze hfD eD hpD hsD
    have fC' : put g' h1.objs.size { cls := .type "list", data := .seq ys k } HD.objs.size = none := by
      unfold put
      rw [if_neg (by rw [hCs]; exact Nat.ne_of_gt (Nat.lt_succ_self _))]
      exact Y.out fC (by obtain ⟨o, _, _, ho, _⟩ := hns; rw [ho]; rfl)
    have hfin := hq h1.objs.size HD.objs.size l b' _ h' tk' m hpost Zf I'' (.lst (put_same _ _ _) rfl rfl rfl (by simpa using hr.mono (put_le hfD))) (by rw [← c4]; exact hn) dCs fC' hpC hsC
    unfold compPost
    cases use with
    | none => exact ⟨m, by rw [← c4]; exact hn, hfin⟩
    | some u => exact hfin
  refine codeAny_compStart_list ?_ ?_
  · exact loop tk1
  · refine It.self J2 ?_
    exact loop tk1

theorem Inv.sameC {C : Addr} {h h' : Heap} {m : Str → Option Value} (I : Inv c sf g σ b h) (hs : Heap.SameBut C h h') (hn : h.Ns C m) (fC : g C = none) (hp : σ.pen ≠ .off → C ≠ c.p) (hsl : σ.slf ≠ none → C ≠ sf.x ∧ C ≠ sf.dx) : Inv c sf g σ b h' :=
  I.extN (W := (· = C)) ⟨.refl g, fun _ _ e => .inl e, fun a o e na => by rw [hs.2 a na]; exact e, fun a o e => by rw [hs.2 a fun q => by rw [q, fC] at e; cases e]; exact I.sub _ _ e⟩
    (fun n q => hp n q.symm) (fun n => ⟨fun q => (hsl n).1 q.symm, fun q => (hsl n).2 q.symm⟩)
theorem Ext.sameC {W : Addr → Prop} {C : Addr} {g' : Frz} {h h' h'' : Heap} (x : Ext W g h g' h') (hs : Heap.SameBut C h' h'') (d : h.get? C = none) (fC : g' C = none) : Ext W g h g' h'' := x.sameBut hs d fC
theorem s_comp1 {elt iter : Expr} {ifs : List Expr} {scope : Scope} {pos : Pos} {async : Int} (S : Sound c P n Γ r) (H : Here c P n sf A σ g b s sc ρ env) : At c sf A σ (Rel c) (eval (.ListComp elt [⟨tg, iter, ifs, async⟩] scope pos) env) (hComp1 r sc ρ σ elt tg iter ifs async scope) g b s := by
  unfold hComp1
  split
  · rename_i ha
    have ha := of_decide_eq_true ha
    subst ha
    refine at_ok1 fun hc => ?_
    intro Q E post hs hq
    rw [arm_eval_ListComp]
    have hs : Sat b ((r.evIter sc ρ σ tg iter).bind fun xs => r.comp (relab scope sc) (onlyFree scope ρ) σ elt tg ifs xs) (fun b' l => post b' (.lst l)) := by
      rw [sat_bind] at hs ⊢
      exact sat_mono (fun b' xs h => by rw [sat_bind] at h; exact sat_mono (fun b'' l h => sat_ret.mp h) h) hs
    exact comp_wp (use := none) S H hc hs fun D C l b' g' h' tk m hp X I' hr hn d fC p1 p2 h'' hsb => hq _ _ b' g' h'' tk hp (X.sameC hsb d fC) (I'.sameC hsb hn fC p1 p2) hr
  · exact at_fail
theorem s_compE {elt : Expr} {gens : List Comprehension} {scope : Scope} {pos : Pos} (S : Sound c P n Γ r) (H : Here c P n sf A σ g b s sc ρ env) : At c sf A σ (Rel c) (eval (.ListComp elt gens scope pos) env) (hComp r sc ρ σ elt gens scope) g b s := by
  unfold hComp
  split
  · exact at_fail
  · split
    · rename_i q _
      cases q
      exact s_comp1 S H
    · exact at_fail
/-- all kinds of expressions -/
theorem s_ev {e : Expr} (T : TabOk c P n Γ) (C : c.Ok) (S : Sound c P n Γ r) (H : Here c P n sf A σ g b s sc ρ env) : At c sf A σ (Rel c) (eval e env) (stepEv Γ r sc ρ σ e) g b s := by
  cases e with
  | Constant => exact s_const H.I
  | Name => exact s_name T C H
  | BoolOp => rw [arm_eval_BoolOp]; exact S.evBool H
  | BinOp => exact s_bin S H
  | UnaryOp => exact s_un S H
  | IfExp => exact s_if S H
  | List => exact s_list S H
  | Tuple => exact s_tuple S H
  | Dict => exact s_dict C S H
  | Compare => exact s_cmp S H
  | Call f args kws pos =>
    cases kws with
    | nil =>
      cases f with
      | Name => exact s_callN T C S H
      | Attribute => exact s_callA T C S H
      | _ => exact at_fail
    | cons => exact at_fail
  | Attribute => exact s_attr T C S H
  | Subscript => exact s_sub S H
  | ListComp => exact s_compE S H
  | _ => exact at_fail
end
end Mine

namespace Mine

theorem SameM.refl (σ : Sg) : SameM σ σ := ⟨rfl, Iff.rfl, rfl⟩
theorem SameM.trans {σ σ' σ'' : Sg} (x : SameM σ σ') (y : SameM σ' σ'') : SameM σ σ'' := ⟨x.pen.trans y.pen, x.slf.trans y.slf, y.cl.trans x.cl⟩
theorem kind_off {p p' : PenS} (h : penKind p = penKind p') : p' ≠ .off → p ≠ .off := by
  cases p <;> cases p' <;> simp [penKind] at h ⊢
theorem Fm.mode {c : Cx} {sf : Slf} {g : Frz} {σ σ' : Sg} {sc : Scope} {ρ : PEnv} {env : Env} {h : Heap} (F : Fm c sf g σ sc ρ env h) (m : SameM σ σ') : Fm c sf g σ' sc ρ env h :=
  ⟨F.sce, F.kind, F.glob, F.blt, F.ns, F.cells, F.inj, F.apart, F.live, F.out, fun n => F.ap (kind_off m.pen n), fun n => F.apS fun e => n (m.slf.mp e)⟩
theorem Wp_mode {c : Cx} {σ σ' : Sg} (m : SameM σ σ') (a : Addr) : Wp σ'.pen c.p a ↔ Wp σ.pen c.p a := by
  have h := m.pen
  cases hp : σ.pen <;> cases hp' : σ'.pen <;> rw [hp, hp'] at h <;> simp [penKind] at h <;> rfl
theorem Wst_mode {c : Cx} {σ σ' : Sg} {sf : Slf} {env : Env} {sc : Scope} (m : SameM σ σ') (a : Addr) : Wst c σ' sf env sc a → Wst c σ sf env sc a := fun h => by
  rcases h with h | h | ⟨h1, h2⟩
  · exact .inl ((Wp_mode m a).mp h)
  · exact .inr (.inl h)
  · exact .inr (.inr ⟨fun e => h1 (m.slf.mp e), h2⟩)

section
variable {c : Cx} {P : PenS → Prop} {n : Nat} {Γ : Tab} {r : R} {sf : Slf} {A : Around} {σ : Sg} {g : Frz} {b : Nat} {s : Shared} {sc : Scope} {ρ : PEnv} {env : Env}

theorem inv_store {g' : Frz} {lo : Bool} {h h' : Heap} (I : Inv c sf g σ b h) (F : Fm c sf g σ sc ρ env h) (X : Ext (Wa env sc lo) g h g' h') : Inv c sf g' σ b h' :=
  I.extW X (fun n q => F.ap n _ q.own rfl) (fun n => ⟨fun q => (F.apS n _ q.own).1 rfl, fun q => (F.apS n _ q.own).2 rfl⟩)
theorem atX_fail {m : Sem Flow} : AtX c sf A σ sc env m .fail g b s := fun _ _ _ hs _ => (sat_fail.mp hs).elim
theorem atX_ok1 {m : Sem Flow} {z : Bool} {t : T (PF × PEnv × Sg)} (h : z = true → AtX c sf A σ sc env m t g b s) : AtX c sf A σ sc env m (ok1 z t) g b s := fun Q E post hs hq => by
  have hs := sat_br.mp hs
  cases z with
  | true => exact h rfl Q E post (hs.1 rfl) hq
  | false => exact (sat_fail.mp (hs.2 rfl)).elim
theorem atX_optT {χ : Type} {m : Sem Flow} {o : Option χ} {k : χ → T (PF × PEnv × Sg)} (h : ∀ z, o = some z → AtX c sf A σ sc env m (k z) g b s) : AtX c sf A σ sc env m (optT o k) g b s := by
  cases o with
  | none => exact atX_fail
  | some z => exact h z rfl

theorem swaps_plain {value : Expr} {t : Expr} {line : Nat} (h : isComp value = false) : swapsWith value (some t) line env = pure false := by
  cases value <;> first | rfl | cases h
theorem swaps_list {elt : Expr} {gens : List Comprehension} {scope : Scope} {p p' : Pos} {x : Str} {line : Nat} : ∃ z, swapsWith (.ListComp elt gens scope p) (some (.Name x p')) line env = pure z := ⟨_, rfl⟩
theorem swapped_name {x : Str} {p : Pos} {value : Expr} : swappedStores [.Name x p] value env = pure none := by cases value <;> rfl
theorem swapped_attr {o : Expr} {x : Str} {p : Pos} {value : Expr} : swappedStores [.Attribute o x p] value env = pure none := by cases value <;> rfl
theorem swapped_sub {o i : Expr} {p : Pos} {value : Expr} : swappedStores [.Subscript o i p] value env = pure none := by cases value <;> rfl
theorem swaps_attr {value : Expr} {o : Expr} {x : Str} {p : Pos} {line : Nat} : swapsWith value (some (.Attribute o x p)) line env = pure false := by cases value <;> rfl
theorem swaps_sub {value : Expr} {o i : Expr} {p : Pos} {line : Nat} : swapsWith value (some (.Subscript o i p)) line env = pure false := by cases value <;> rfl
theorem swaps_tup {value : Expr} {ts : List Expr} {k : Nat} {p : Pos} {line : Nat} : swapsWith value (some (.Tuple ts k p)) line env = pure false := by cases value <;> rfl

/-- an assignment to one target, not swapped -/
theorem assign_wp {t value : Expr} {pos : Pos} {Q : Flow → Shared → Prop} {E : Value → Shared → Prop} {M : Model} (h1 : swapsWith value (some t) pos.line env = pure false) (h2 : swappedStores [t] value env = pure none)
    (he : assignEach [t] env = [(false, assign t env)]) (h : wpAny M A (eval value env) (fun v s' => wpAny M A (assign t env v) (fun _ s'' => Q .next s'') E s') E s) : wpAny M A (exec (.Assign [t] value pos) env) Q E s := by
  rw [arm_exec_Assign]
  refine wpAny_bind (wpAny_standAt ?_)
  have h1 : swapsWithSole [t] value pos.line env = pure false := h1
  rw [h1]
  refine wpAny_bind (wpAny_pure ?_)
  rw [if_neg (by decide)]
  refine wpAny_bind (wpAny_mono h (fun v s' h' => ?_) fun _ _ e => e)
  rw [h2, he]
  refine wpAny_bind (wpAny_pure ?_)
  show wpAny M A (assign t env v >>= fun _ => pure .next) Q E s'
  exact wpAny_bind (wpAny_mono h' (fun _ _ q => wpAny_pure q) fun _ _ e => e)

theorem s_setN {x : Str} {value : Expr} {p pos : Pos} (S : Sound c P n Γ r) (H : Here c P n sf A σ g b s sc ρ env) : AtX c sf A σ sc env (exec (.Assign [.Name x p] value pos) env) (hSetN r sc ρ σ x value) g b s := by
  unfold hSetN
  refine atX_ok1 fun hk => ?_
  have hk : stV false sc x = true := hk
  have main : ∀ {t : T PV} {m : Sem Value}, At c sf A σ (Rel c) (eval value env) t g b s → swapsWith value (some (.Name x p)) pos.line env = pure false → AtX c sf A σ sc env (exec (.Assign [.Name x p] value pos) env) (t.bind fun v => .ret (.nxt, setE x v ρ, σ)) g b s := by
    intro t m ht hsw Q E post hs hq
    refine assign_wp hsw swapped_name rfl (ht _ E _ (sat_bind.mp hs) fun v y b1 g1 h1 tk1 hp X1 I1 r1 => ?_)
    have H1 := H.ext (tk := tk1) X1 I1
    refine assign_Name (store_one (s := { s with heap := h1, toks := tk1 }) H1.F I1.sub hk (.rel r1) fun h' tk X F' => ?_)
    exact hq _ _ _ _ _ _ (sat_ret.mp hp) ((X1.weaken fun a q => .inl q).trans (X.weaken fun a q => .inr (.inl q))) (inv_store I1 H1.F X) F' (.refl σ) .nxt
  split
  · rename_i elt gens scope p'
    obtain ⟨z, hz⟩ := swaps_list (env := env) (elt := elt) (gens := gens) (scope := scope) (p := p') (p' := p) (x := x) (line := pos.line)
    cases z with
    | false => exact main (m := pure .none) (s_compE S H) hz
    | true =>
      unfold hComp
      split
      · exact fun Q E post hs hq => (sat_fail.mp (sat_bind.mp hs)).elim
      · split
        · rename_i q _
          obtain ⟨target, iter, ifs, async⟩ := q
          unfold hComp1
          dsimp only
          split
          · rename_i ha
            have ha := of_decide_eq_true ha
            subst ha
            intro Q E post hs hq
            have hs := sat_bind.mp hs
            have hs := sat_br.mp hs
            cases hc : compOk sc scope iter with
            | false => exact (sat_fail.mp (hs.2 hc)).elim
            | true =>
              have hs := hs.1 hc
              have hs : Sat b ((r.evIter sc ρ σ target iter).bind fun xs => r.comp (relab scope sc) (onlyFree scope ρ) σ elt target ifs xs) (fun b' l => post b' (.nxt, setE x (.lst l) ρ, σ)) := by
                rw [sat_bind] at hs ⊢
                exact sat_mono (fun b' xs h => by rw [sat_bind] at h; exact sat_mono (fun b'' l h => sat_ret.mp (sat_ret.mp h)) h) hs
              rw [arm_exec_Assign]
              refine wpAny_bind (wpAny_standAt ?_)
              have hz : swapsWithSole [.Name x p] (.ListComp elt [⟨target, iter, ifs, 0⟩] scope p') pos.line env = pure true := hz
              rw [hz]
              refine wpAny_bind (wpAny_pure ?_)
              rw [if_pos rfl, arm_evalThenUse_ListComp]
              refine wpAny_bind (wpAny_bind ?_)
              refine comp_wp (use := some _) S H hc hs fun D C l b1 g1 h1 tk1 m hp X1 I1 hr hn dC fC p1 p2 => ?_
              have H1 := H.ext (tk := tk1) X1 I1
              show wpAny _ A (assign (.Name x p) env (.ref D)) _ E _
              refine assign_Name (store_one (s := { s with heap := h1, toks := tk1 }) H1.F I1.sub hk (.rel hr) fun h' tk X F' => ?_)
              have nC : ¬ Wa env sc false C := fun q => live_ne (H.F.live _ q.own) dC rfl
              have hn' : h'.Ns C m := hn.at fun o e => X.keep _ o e nC
              refine ⟨m, hn', fun h'' hsb => wpAny_pure (wpAny_pure ?_)⟩
              have X2 := ((X1.weaken fun a q => .inl q : Ext (Wst c σ sf env sc) _ _ _ _).trans (X.weaken fun a q => .inr (.inl q))).sameC hsb dC fC
              refine hq _ _ _ _ _ _ hp X2 ((inv_store I1 H1.F X).sameC hsb hn' fC p1 p2) ?_ (.refl σ) .nxt
              exact F'.extN (W := (· = C)) ⟨.refl g1, fun _ _ e => .inl e, fun a o e na => by rw [hsb.2 a na]; exact e, fun a o e => by rw [hsb.2 a fun q => by rw [q, fC] at e; cases e]; exact X.sub _ _ e⟩ (fun a ha q => live_ne (H.F.live a ha) dC q)
          · exact fun Q E post hs hq => (sat_fail.mp (sat_bind.mp hs)).elim
        · exact fun Q E post hs hq => (sat_fail.mp (sat_bind.mp hs)).elim
  · rename_i hl
    split
    · exact atX_fail
    · rename_i ho
      refine main (m := pure .none) (S.ev H) (swaps_plain ?_)
      cases value <;> first | rfl | exact (hl _ _ _ _ rfl).elim | cases ho

/-! tuples of names -/
theorem memS_false {x : Str} : ∀ {ts : List Expr}, memS x ts = false → ∀ t ∈ ts, ∃ y, nameOf t = some y ∧ y ≠ x
  | [], _, t, h => by cases h
  | e :: es, q, t, h => by
    unfold memS at q
    split at q
    · rename_i y hy
      split at q
      · cases q
      · rename_i hne
        rcases List.mem_cons.mp h with rfl | h
        · exact ⟨y, hy, fun z => by rw [strEq_iff.mpr z] at hne; cases hne⟩
        · exact memS_false q t h
    · cases q
theorem look_set2 {x y z : Str} {u v : PV} (h : x ≠ y) : look z (setE x u (setE y v ρ)) = look z (setE y v (setE x u ρ)) := by
  rw [look_setE, look_setE, look_setE, look_setE]
  by_cases hx : x = z
  · subst hx
    rw [if_pos rfl, if_pos rfl, if_neg (fun q => h q.symm)]
  · rw [if_neg hx, if_neg hx]
theorem Fm.congr {ρ' : PEnv} {h : Heap} (F : Fm c sf g σ sc ρ env h) (e : ∀ x, look x ρ' = look x ρ) : Fm c sf g σ sc ρ' env h :=
  ⟨F.sce, F.kind, F.glob, F.blt, by obtain ⟨m, h1, h2⟩ := F.ns; exact ⟨m, h1, fun x v q => h2 x v (by rw [← e]; exact q)⟩, F.cells, F.inj, F.apart, F.live, F.out, F.ap, F.apS⟩
noncomputable def setAll : List (Str × PV) → PEnv → PEnv
  | [], ρ => ρ
  | (x, v) :: r, ρ => setAll r (setE x v ρ)
theorem look_congr_set {x : Str} {v : PV} {ρ ρ' : PEnv} (h : ∀ z, look z ρ = look z ρ') (z : Str) : look z (setE x v ρ) = look z (setE x v ρ') := by
  rw [look_setE, look_setE, h]
theorem setAll_congr : ∀ {l : List (Str × PV)} {ρ ρ' : PEnv}, (∀ z, look z ρ = look z ρ') → ∀ z, look z (setAll l ρ) = look z (setAll l ρ')
  | [], _, _, h, z => h z
  | (x, v) :: r, _, _, h, z => setAll_congr (l := r) (look_congr_set h) z
theorem setAll_out {x : Str} {v : PV} : ∀ {l : List (Str × PV)} {ρ : PEnv}, (∀ p ∈ l, p.1 ≠ x) → ∀ z, look z (setAll l (setE x v ρ)) = look z (setE x v (setAll l ρ))
  | [], _, _, z => rfl
  | (y, w) :: r, ρ, h, z => by
    show look z (setAll r (setE y w (setE x v ρ))) = look z (setE x v (setAll r (setE y w ρ)))
    rw [← setAll_out (l := r) (fun p hp => h p (List.mem_cons_of_mem _ hp)) z]
    exact setAll_congr (fun z => look_set2 (h (y, w) (List.mem_cons_self ..))) z
theorem setAll_append : ∀ {l q : List (Str × PV)} {ρ : PEnv}, setAll (l ++ q) ρ = setAll q (setAll l ρ)
  | [], _, _ => rfl
  | (x, v) :: r, q, ρ => setAll_append (l := r) (q := q) (ρ := setE x v ρ)
theorem setAll_rev : ∀ {l : List (Str × PV)} {ρ : PEnv}, (l.map (·.1)).Nodup → ∀ z, look z (setAll l.reverse ρ) = look z (setAll l ρ)
  | [], _, _, z => rfl
  | (x, v) :: r, ρ, h, z => by
    rw [List.map_cons, List.nodup_cons] at h
    have hx : ∀ p ∈ r, p.1 ≠ x := fun p hp e => h.1 (by rw [← e]; exact List.mem_map.mpr ⟨p, hp, rfl⟩)
    rw [List.reverse_cons, setAll_append]
    show look z (setE x v (setAll r.reverse ρ)) = look z (setAll r (setE x v ρ))
    rw [look_congr_set (setAll_rev h.2) z, setAll_out hx z]
theorem bindNs_all : ∀ {ts : List Expr} {l : List PV} {ρ ρ' : PEnv}, bindNs false sc ts l ρ = some ρ' → ∃ xs : List Str, ts.map nameOf = xs.map some ∧ ρ' = setAll (xs.zip l) ρ ∧ (∀ x ∈ xs, stV false sc x = true) ∧ xs.length = l.length
  | [], [], ρ, ρ', e => by cases e; exact ⟨[], rfl, rfl, (fun x h => nomatch h), rfl⟩
  | [], _ :: _, ρ, ρ', e => by cases e
  | _ :: _, [], ρ, ρ', e => by cases e
  | t :: ts, v :: l, ρ, ρ', e => by
    obtain ⟨x, p, rfl, hk, e⟩ := bindNs_cons e
    obtain ⟨xs, h1, h2, h3, h4⟩ := bindNs_all e
    refine ⟨x :: xs, by rw [List.map_cons, h1]; rfl, h2, fun y hy => ?_, by simp [h4]⟩
    rcases List.mem_cons.mp hy with rfl | hy
    · exact hk
    · exact h3 y hy
theorem distinct_nodup : ∀ {ts : List Expr} {xs : List Str}, ts.map nameOf = xs.map some → distinctT ts = true → xs.Nodup
  | [], [], _, _ => List.nodup_nil
  | [], _ :: _, e, _ => by cases e
  | _ :: _, [], e, _ => by cases e
  | t :: ts, x :: xs, e, h => by
    rw [List.map_cons, List.map_cons] at e
    obtain ⟨e1, e2⟩ := List.cons.inj e
    unfold distinctT at h
    rw [e1] at h
    simp only at h
    split at h
    · cases h
    · rename_i hm
      refine List.nodup_cons.mpr ⟨fun hx => ?_, distinct_nodup e2 h⟩
      obtain ⟨i, hi, hx⟩ := List.getElem_of_mem hx
      have hi' : i < ts.length := by have := congrArg List.length e2; simp at this; omega
      have q : nameOf ts[i] = some x := by
        have : (ts.map nameOf)[i]? = (xs.map some)[i]? := by rw [e2]
        rw [List.getElem?_map, List.getElem?_map, List.getElem?_eq_getElem hi', List.getElem?_eq_getElem hi, hx] at this
        simpa using this
      obtain ⟨y, h1, h2⟩ := memS_false hm _ (List.getElem_mem hi')
      rw [q] at h1
      cases h1
      exact h2 rfl
/-- names stored one after the other -/
theorem store_seq {E} : ∀ {ps : List (Str × PV)} {vs : List Value} {ρ : PEnv} {s : Shared} {Q : Unit → Shared → Prop}, (∀ p ∈ ps, stV false sc p.1 = true) → RelL c g vs (ps.map (·.2)) → Fm c sf g σ sc ρ env s.heap → LeF g s.heap.get? →
    (∀ h' tk, Ext (Wa env sc false) g s.heap g h' → Fm c sf g σ sc (setAll ps ρ) env h' → Q () { s with heap := h', toks := tk }) → wpAny (model c.prog c.w) A (assignInOrder ((ps.map (·.1)).map fun n => bindName env n) vs) Q E s
  | [], vs, ρ, s, Q, _, r, F, sub, h => by
    cases r
    exact wpAny_pure (h s.heap s.toks (Ext.refl sub) F)
  | (x, y) :: ps, vs, ρ, s, Q, hk, r, F, sub, h => by
    cases r with
    | cons h1 r =>
      show wpAny _ _ (assignInOrder ((bindName env x) :: (ps.map (·.1)).map fun n => bindName env n) (_ :: _)) Q E s
      refine wpAny_bind (wpAny_holding (wpAny_bindName (store_one F sub (hk _ (List.mem_cons_self ..)) (.rel h1) fun h' tk X F' => ?_)))
      exact store_seq (s := { s with heap := h', toks := tk }) (fun p hp => hk p (List.mem_cons_of_mem _ hp)) r F' X.sub fun h'' tk' X' F'' => h h'' tk' (X.trans X') F''
theorem relL_rev {g : Frz} : ∀ {vs : List Value} {l : List PV}, RelL c g vs l → RelL c g vs.reverse l.reverse
  | _, _, .nil => .nil
  | _, _, .cons h r => by rw [List.reverse_cons, List.reverse_cons]; exact (relL_rev r).append (.cons h .nil)

theorem map_some_inj : ∀ {a b : List Str}, a.map some = b.map some → a = b
  | [], [], _ => rfl
  | [], _ :: _, e => by cases e
  | _ :: _, [], e => by cases e
  | x :: a, y :: b, e => by
    rw [List.map_cons, List.map_cons] at e
    obtain ⟨e1, e2⟩ := List.cons.inj e
    cases e1
    rw [map_some_inj e2]
theorem fm_names {f : Expr → Option Str} (hf : ∀ t y, f t = some y → nameOf t = some y) : ∀ {ts : List Expr}, (ts.filterMap f).length = ts.length → ts.map nameOf = (ts.filterMap f).map some
  | [], _ => rfl
  | t :: ts, h => by
    rw [List.filterMap_cons] at h ⊢
    cases e : f t with
    | none =>
      rw [e] at h
      have := List.length_filterMap_le f ts
      simp only [List.length_cons] at h
      omega
    | some y =>
      rw [e] at h
      simp only [List.length_cons, Nat.add_right_cancel_iff] at h
      rw [List.map_cons, List.map_cons, hf t y e, fm_names hf h]
theorem swapped_of {ts vs : List Expr} {k k2 : Nat} {p p2 : Pos} (h : vs.all (constantsAlone 8) = false) : ∃ o, swappedStores [.Tuple ts k p] (.Tuple vs k2 p2) env = pure o ∧ ∀ names, o = some names → names.length = ts.length ∧ ∀ xs : List Str, ts.map nameOf = xs.map some → names = xs := by
  unfold swappedStores
  dsimp only
  split
  · exact ⟨none, rfl, fun _ e => by cases e⟩
  · split
    · exact ⟨none, rfl, fun _ e => by cases e⟩
    · generalize hf : (fun x => match x with
        | Expr.Name id pos => if (env.kindOf id == some NameKind.local && pos.line == (Option.map (fun (x : Expr) => x.pos.line) ts.head?).getD 0) = true then some id else none
        | x => none : Expr → Option Str) = f
      have hfn : ∀ t y, f t = some y → nameOf t = some y := by
        intro t y e
        rw [← hf] at e
        cases t with
        | Name id pos =>
          simp only at e
          split at e
          · cases e; rfl
          · cases e
        | _ => cases e
      split
      · exact ⟨none, rfl, fun _ e => by cases e⟩
      · rename_i hne
        have hlen : (ts.filterMap f).length = ts.length := by
          simp only [Bool.or_eq_true, not_or, bne_iff_ne, ne_eq, Decidable.not_not] at hne
          exact hne.1
        have key : ∀ names, some (ts.filterMap f) = some names → names.length = ts.length ∧ ∀ xs : List Str, ts.map nameOf = xs.map some → names = xs := by
          intro names e
          cases e
          refine ⟨hlen, fun xs hx => ?_⟩
          rw [fm_names hfn hlen] at hx
          exact map_some_inj hx
        split
        · exact ⟨none, rfl, fun _ e => by cases e⟩
        · rw [h]
          exact ⟨some (ts.filterMap f), rfl, key⟩

theorem zip_fst : ∀ {xs : List Str} {l : List PV}, xs.length = l.length → (xs.zip l).map (·.1) = xs ∧ (xs.zip l).map (·.2) = l
  | [], [], _ => ⟨rfl, rfl⟩
  | [], _ :: _, h => by cases h
  | _ :: _, [], h => by cases h
  | x :: xs, v :: l, h => by
    obtain ⟨h1, h2⟩ := zip_fst (xs := xs) (l := l) (by simpa using h)
    exact ⟨by rw [List.zip_cons_cons, List.map_cons, h1], by rw [List.zip_cons_cons, List.map_cons, h2]⟩
theorem s_setT {ts : List Expr} {k : Nat} {tp pos : Pos} {value : Expr} (S : Sound c P n Γ r) (H : Here c P n sf A σ g b s sc ρ env) : AtX c sf A σ sc env (exec (.Assign [.Tuple ts k tp] value pos) env) (hSetT r sc ρ σ ts value) g b s := by
  unfold hSetT
  split
  · rename_i vs k2 p2
    refine atX_ok1 fun h1 => atX_ok1 fun hd => ?_
    have h1 : vs.all (constantsAlone 8) = false := by cases q : vs.all (constantsAlone 8) with | false => rfl | true => rw [q] at h1; cases h1
    obtain ⟨o, ho, hn⟩ := swapped_of (env := env) (ts := ts) (k := k) (p := tp) (k2 := k2) (p2 := p2) h1
    intro Q E post hs hq
    have step : ∀ (v : Value) (x : PV) (b1 : Nat) (g1 : Frz) (h1 : Heap) (tk1 : Nat), Sat b1 (match x with | .tup l => optT (bindNs false sc ts l ρ) fun ρ' => (.ret (.nxt, ρ', σ) : T (PF × PEnv × Sg)) | _ => .fail) post → Ext (Wp σ.pen c.p) g s.heap g1 h1 → Inv c sf g1 σ b1 h1 → Rel c g1 v x →
        ∃ l ρ', x = .tup l ∧ bindNs false sc ts l ρ = some ρ' ∧ post b1 (.nxt, ρ', σ) := by
      intro v x b1 g1 h1 tk1 hp X1 I1 r1
      cases x with
      | tup l =>
        simp only at hp
        cases hb : bindNs false sc ts l ρ with
        | none => rw [hb] at hp; exact (sat_fail.mp hp).elim
        | some ρ' => rw [hb] at hp; exact ⟨l, ρ', rfl, hb, sat_ret.mp hp⟩
      | _ => exact (sat_fail.mp hp).elim
    cases o with
    | none =>
      refine Assign_Tuple (S.ev H _ E _ (sat_bind.mp hs) fun v x b1 g1 h1 tk1 hp X1 I1 r1 => ?_) rfl ho
      obtain ⟨l, ρ', rfl, hb, hp⟩ := step v x b1 g1 h1 tk1 hp X1 I1 r1
      have H1 := H.ext (tk := tk1) X1 I1
      refine assign_T (s := { s with heap := h1, toks := tk1 }) (t := .Tuple ts k tp) (lo := false) H.R.h (by show bindNs false sc ts l ρ = some ρ'; exact hb) r1 H1.F I1.sub fun h' tk X F' => ?_
      exact hq _ _ _ _ _ _ hp ((X1.weaken fun a q => .inl q).trans (X.weaken fun a q => .inr (.inl q))) (inv_store I1 H1.F X) F' (.refl σ) .nxt
    | some names =>
      obtain ⟨n1, n2⟩ := hn names rfl
      refine Assign_Tuple_swapped (S.ev H _ E _ (sat_bind.mp hs) fun v x b1 g1 h1 tk1 hp X1 I1 r1 => ?_) rfl ho
      obtain ⟨l, ρ', rfl, hb, hp⟩ := step v x b1 g1 h1 tk1 hp X1 I1 r1
      have H1 := H.ext (tk := tk1) X1 I1
      obtain ⟨xs, e1, rfl, e3, e4⟩ := bindNs_all hb
      have e2 := n2 xs e1
      subst e2
      have nd := distinct_nodup e1 hd
      obtain ⟨_, _, _, _, rfl, a1, a2, a3, ra⟩ := rel_tup r1
      rename_i a o vs n0
      have sz := ra.size
      rw [e4, ← sz]
      refine unpackItems_tuple H.R.h ⟨_, I1.sub _ _ a1, a2, _, a3⟩ fun h2 he => ?_
      have Xe : Ext W0 g1 h1 g1 h2 := Ext.grown I1.sub fun a o e => he a o (Nat.ne_of_lt (Heap.lt_size e)) e
      have I2 := I1.ext0 Xe
      have H2 := H1.ext (tk := tk1) (Xe.any) I2
      obtain ⟨z1, z2⟩ := zip_fst (xs := names) (l := l) e4
      have ez : names.reverse = ((names.zip l).reverse.map (·.1)) := by rw [List.map_reverse, z1]
      have el : ((names.zip l).reverse.map (·.2)) = l.reverse := by rw [List.map_reverse, z2]
      rw [ez]
      refine store_seq (s := { s with heap := h2, toks := tk1 }) (fun p hp => e3 _ ?_) (by rw [el]; exact relL_rev ra) H2.F Xe.sub fun h' tk X F' => ?_
      · have : p.1 ∈ (names.zip l).map (·.1) := List.mem_map.mpr ⟨p, List.mem_reverse.mp hp, rfl⟩
        rw [z1] at this; exact this
      · exact hq _ _ _ _ _ _ hp (((X1.trans Xe.any).weaken fun a q => .inl q).trans (X.weaken fun a q => .inr (.inl q))) (inv_store I2 H2.F X) (F'.congr fun x => (setAll_rev (by rw [z1]; exact nd) x).symm) (.refl σ) .nxt
  · exact atX_fail
end
end Mine

namespace Mine

section
variable {c : Cx} {P : PenS → Prop} {n : Nat} {Γ : Tab} {r : R} {sf : Slf} {A : Around} {σ : Sg} {g : Frz} {b : Nat} {s : Shared} {sc : Scope} {ρ : PEnv} {env : Env}

theorem relD_put {hsh : Int} {x : Str} {tk : Tok} {v : Value} {y : PV} (hv : Rel c g v y) : ∀ {es : List DictEntry} {fs : List (Str × PV)}, RelD c g es fs → RelD c g (putL x hsh (.str x tk) v es) (setE x y fs)
  | _, _, .nil => .cons hv .nil
  | _, _, .cons (h := h) (k := k) (t := t) (v := u) (x := z) (es := es) (l := l) hu r => by
    have e1 : putL x hsh (.str x tk) v (⟨h, .str k t, u⟩ :: es) = if (Value.str k t).isStr x then ⟨h, .str k t, v⟩ :: es else ⟨h, .str k t, u⟩ :: putL x hsh (.str x tk) v es := rfl
    have e2 : setE x y ((k, z) :: l) = match strEq k x with | true => (k, y) :: l | false => (k, z) :: setE x y l := rfl
    have e3 : (Value.str k t).isStr x = (k == x) := rfl
    rw [e1, e2, e3, ← strEq_beq]
    cases strEq k x with
    | true => exact .cons hv r
    | false => exact .cons hu (relD_put hv r)
theorem relD_len : ∀ {es : List DictEntry} {fs : List (Str × PV)}, RelD c g es fs → es.length = fs.length
  | _, _, .nil => rfl
  | _, _, .cons _ r => by rw [List.length_cons, List.length_cons, relD_len r]
theorem putL_len {hsh : Int} {x : Str} {k v : Value} : ∀ {es : List DictEntry}, (putL x hsh k v es).length ≤ es.length + 1
  | [] => by simp [putL]
  | e :: r => by
    unfold putL
    split
    · simp
    · have := putL_len (hsh := hsh) (x := x) (k := k) (v := v) (es := r)
      simp; omega
theorem relD_lookIn {es : List DictEntry} {fs : List (Str × PV)} {m : Nat} (h : RelD c g es fs) (x : Str) : (lookIn x (dictOf es m)).isSome = true := by
  rw [lookIn_dict]
  cases e : look x fs with
  | none => rw [(relD_find h x).1 e]; rfl
  | some v => obtain ⟨u, h1, _⟩ := (relD_find h x).2 v e; rw [h1]; rfl

/-- self.x = v -/
theorem set_field {x dx C : Addr} {es : List DictEntry} {m : Nat} {fs : List (Str × PV)} {attr : Str} {v : Value} {y : PV} {Q : Unit → Shared → Prop} {E : Value → Shared → Prop} (T : TabOk c P n Γ) (X : c.K.In s.heap) (h1 : s.heap.get? x = some (instObj C dx)) (h2 : s.heap.get? dx = some (dictOf es m)) (h3 : RelD c g es fs)
    (hv : Rel c g v y) (ha : (lookM C attr Γ.att).isSome = true) (hz : fs.length ≤ 100)
    (h : ∀ h' es' m' tk, h'.get? dx = some (dictOf es' m') → RelD c g es' (setE attr y fs) → Heap.SameBut dx s.heap h' → Q () { s with heap := h', toks := tk }) :
    wpAny (model c.prog c.w) A (setAttr (.ref x) attr v) Q E s := by
  obtain ⟨a1, a2, _, a4, a5, a6⟩ := T.att _ _ ha
  have I := instAt_of h1 h2
  refine set_plain X I a6 ?_
  refine osa_open (s := { s with toks := s.toks + 1 }) X I a5 a4 fun bb => ?_
  obtain ⟨cd, hc, hd'⟩ := any_some a2
  have L1 : Looks (model c.prog c.w) ({ s with toks := s.toks + 1 } : Shared).heap (classData C) cd := looks_clsIn X hc
  refine wpAny_bind (wpAny_pure (wpAny_bind (wpAny_bind (wpAny_loadPart h1 (wpAny_bind (L1.here ?_))))))
  rw [hd']
  refine wpAny_pure (a := some dx) (wpAny_bind (wpAny_pure (wpAny_bind ?_)))
  unfold nsSet
  refine wpAny_bind (wpAny_bind (wpAny_askSetting (wpAny_pure (wpAny_bind (wpAny_mkText (wpAny_bind (wpAny_loadPart h2 ?_)))))))
  have hl := relD_lookIn (m := m) h3 attr
  rw [lookIn_dict] at hl
  dsimp only
  have cc : (!es.toArray.any (·.key.isStr attr) && es.toArray.any (·.refKey)) = false := by
    rw [← Array.any_toList, ← Array.any_toList]
    unfold getL at hl
    split at hl
    · rename_i en he
      have : es.any (·.key.isStr attr) = true := List.any_eq_true.mpr ⟨en, List.mem_of_find?_eq_some he, (by have q := List.find?_some (p := fun (x : DictEntry) => x.key.isStr attr) he; exact q)⟩
      show (!es.any _ && _) = false
      rw [this]; rfl
    · split at hl
      · cases hl
      · rename_i z
        rw [Bool.not_eq_true] at z
        show (_ && es.any _) = false
        rw [z, Bool.and_false]
  rw [aRefKeyMayBeTheName_at, cc]
  have ln : es.length ≤ 100 := by rw [relD_len h3]; exact hz
  refine wpAny_updatePart h2 ?_
  have D' := Heap.get?_update_self (h := s.heap) (a := dx) (Obj.putName attr (PyData.keyHash c.w.params attr) (.str attr (s.toks + 1)) v) h2 (by rw [putName_dict]; rfl)
  rw [putName_dict] at D'
  refine wpAny_bind (wpAny_lookBehind D' (pastItsLine_dict (by
    rw [List.size_toArray, sizeLine_eq]
    have := putL_len (hsh := PyData.keyHash c.w.params attr) (x := attr) (k := .str attr (s.toks + 1)) (v := v) (es := es)
    omega)) ?_)
  exact wpAny_pure (h _ _ _ _ D' (relD_put hv h3) (Heap.SameBut.update ..))

theorem self_of {x : Str} (h : isSelf (look x ρ) = true) : look x ρ = some .self := by
  unfold isSelf at h
  split at h
  · assumption
  · cases h
theorem stOk_kind {x : Str} (h : stOk sc x = true) : ∃ k, kindIn sc x = some k ∧ k ≠ .free := by
  unfold stOk at h
  split at h
  · exact ⟨.local, by assumption, fun e => nomatch e⟩
  · exact ⟨.cell, by assumption, fun e => nomatch e⟩
  · cases h
theorem not_true {z : Bool} (h : (!z) = true) : z = false := by cases z with | false => rfl | true => cases h
/-- the name of self, or of the pen -/
theorem eval_self {x : Str} {p : Pos} {v : PV} {E} {Q : Value → Shared → Prop} (F : Fm c sf g σ sc ρ env s.heap) (hl : look x ρ = some v) (hst : stOk sc x = true) (hd : strEq x "__debug__" = false) (h : ∀ u, RelS c sf g u v → Q u s) : wpAny (model c.prog c.w) A (eval (.Name x p) env) Q E s := by
  obtain ⟨k, hk, hkf⟩ := stOk_kind hst
  exact wpAny_Name (local_value F hl hk (fun e => absurd e hkf) h) (strEq_false hd)

theorem s_setA {o : Expr} {a : Str} {p pos : Pos} {value : Expr} (T : TabOk c P n Γ) (C : c.Ok) (S : Sound c P n Γ r) (H : Here c P n sf A σ g b s sc ρ env) : AtX c sf A σ sc env (exec (.Assign [.Attribute o a p] value pos) env) (hSetA Γ r sc ρ σ o a value) g b s := by
  unfold hSetA
  split
  · rename_i x px
    refine atX_ok1 fun h1 => atX_ok1 fun h2 => atX_ok1 fun h3 => atX_ok1 fun h4 => atX_optT fun fs hfs => ?_
    have h1 := self_of h1
    have h3 := not_true h3
    intro Q E post hs hq
    refine assign_wp swaps_attr swapped_attr rfl (S.ev H _ E _ (sat_bind.mp hs) fun v y b1 g1 hh1 tk1 hp X1 I1 r1 => ?_)
    have H1 := H.ext (tk := tk1) X1 I1
    have hp := sat_br.mp hp
    cases hz : Nat.ble fs.length 100 with
    | false => exact (sat_fail.mp (hp.2 hz)).elim
    | true =>
      have hp := sat_ret.mp (hp.1 hz)
      show wpAny _ A (holding [v] (eval (.Name x px) env) >>= fun ov => standAt p.atName >>= fun _ => holding [v, ov] (setAttr ov a v) >>= fun _ => release [v, ov] []) _ E _
      refine wpAny_bind (wpAny_holding (eval_self (s := { s with heap := hh1, toks := tk1 }) H1.F h1 h2 h3 fun u hu => ?_))
      cases hu.ofSelf
      have hI := I1.slf
      rw [hfs] at hI
      obtain ⟨q1, es, m, q2, q3⟩ := hI
      have hns : σ.slf ≠ none := by rw [hfs]; exact Option.some_ne_none _
      have hC := I1.slfC hns
      obtain ⟨f1, f2, f3, f4⟩ := I1.slfF hns
      refine wpAny_bind (wpAny_standAt (wpAny_bind (wpAny_holding (set_field (s := { s with heap := hh1, toks := tk1 }) T (I1.KIn (s := { s with heap := hh1, toks := tk1 }) C) q1 q2 q3 r1 (by rw [hC]; exact h4) (Nat.le_of_ble_eq_true hz) fun h' es' m' tk e1 e2 e3 => wpAny_release' ?_))))
      have X2 : Ext (· = sf.dx) g1 hh1 g1 h' := by
        refine ⟨.refl g1, fun _ _ e => .inl e, fun a o e na => by rw [e3.2 a na]; exact e, fun a e => ?_, fun a o e => by rw [e3.2 a fun q => by rw [q, f2] at e; cases e]; exact I1.sub _ _ e⟩
        by_cases ha : a = sf.dx
        · rw [ha, e1]; rfl
        · rw [e3.2 a ha]; exact e
      have I2 : Inv c sf g1 { σ with slf := some (setE a y fs) } b1 h' := by
        refine ⟨I1.base, X2.sub, PenB.mono I1.pen (.refl g1) fun np o e => X2.keep _ _ e fun q => (f4 np).2 q.symm, I1.penF, ⟨X2.keep _ _ q1 f3, es', m', e1, e2⟩, fun _ => hC, fun _ => ⟨f1, f2, f3, f4⟩⟩
      have mode : SameM σ { σ with slf := some (setE a y fs) } := ⟨rfl, by rw [hfs]; simp, rfl⟩
      refine hq _ _ _ _ _ _ hp ((X1.weaken fun a q => .inl q).trans (X2.weaken fun a q => .inr (.inr ⟨hns, q⟩))) I2 ((H1.F.ext X2 fun a ha q => (H.F.apS hns a ha).2 q).mode mode) mode .nxt
  · exact atX_fail

theorem s_setS {o i : Expr} {p pos : Pos} {value : Expr} (S : Sound c P n Γ r) (H : Here c P n sf A σ g b s sc ρ env) : AtX c sf A σ sc env (exec (.Assign [.Subscript o i p] value pos) env) (hSetS r sc ρ σ o i value) g b s := by
  unfold hSetS
  split
  · split
    · rename_i x px _ j kd pj
      refine atX_ok1 fun h1 => atX_ok1 fun h2 => atX_ok1 fun h3 => atX_optT fun PP hP => ?_
      have h3 := not_true h3
      have h1 : look x ρ = some .pen := by
        unfold isPen at h1
        split at h1
        · assumption
        · cases h1
      have hP : σ.pen = .at PP := by
        unfold penAt at hP
        split at hP
        · cases hP; assumption
        · cases hP
      intro Q E post hs hq
      refine assign_wp swaps_sub swapped_sub rfl (S.ev H _ E _ (sat_bind.mp hs) fun v y b1 g1 hh1 tk1 hp X1 I1 r1 => ?_)
      have H1 := H.ext (tk := tk1) X1 I1
      have np : σ.pen ≠ .off := by rw [hP]; exact fun h => nomatch h
      show wpAny _ A (holding [v] (eval (.Name x px) env) >>= fun ov => holding [v, ov] (eval (.Constant (.int j) kd pj) env) >>= fun iv => standAt p >>= fun _ => holding [v, ov, iv] (setItem ov iv v) >>= fun _ => release [v, ov, iv] []) _ E _
      refine wpAny_bind (wpAny_holding (eval_self (s := { s with heap := hh1, toks := tk1 }) H1.F h1 h2 h3 fun u hu => ?_))
      have hu := hu.toRel rfl
      obtain rfl := rel_pen hu
      refine wpAny_bind (wpAny_holding (wpAny_Constant_int ?_))
      refine wpAny_bind (wpAny_standAt (wpAny_bind (wpAny_holding ?_)))
      have hI := I1.pen
      rw [hP] at hI
      obtain ⟨l, t, u, L, hl⟩ := hI
      have fin : ∀ (k : Nat) (ui : Int) (tu : Tok) (PP' : List Int × Int × Int) (q : PF × PEnv × Sg), v = .int ui tu → (j = k ∧ (k = 1 ∨ k = 2)) → PP'.1 = PP.1 → ((#[.ref l, .int PP.2.1 t, .int PP.2.2 u] : Array Value).setIfInBounds k v = #[.ref l, .int PP'.2.1 (if k = 1 then tu else t), .int PP'.2.2 (if k = 2 then tu else u)]) → q = (.nxt, ρ, { σ with pen := .at PP' }) → post b1 q →
          wpAny (model c.prog c.w) A (setItem (.ref c.p) (.int j tk1) v) (fun _ s' => wpAny (model c.prog c.w) A (release [v, .ref c.p, .int j tk1] []) (fun _ s'' => Q .next s'') E s') E { s with heap := hh1, toks := tk1 + 1 } := by
        intro k ui tu PP' q hv hj hc1 harr hqe hpost
        obtain ⟨hj, hk⟩ := hj
        refine wpAny_setItem_list (s := { s with heap := hh1, toks := tk1 + 1 }) L (by rw [hj]; exact Int.natCast_nonneg k) (by rcases hk with rfl | rfl <;> rw [hj] <;> decide) (by rcases hk with rfl | rfl <;> rw [hj] <;> (show (_ : Int) < ((3 : Nat) : Int)) <;> decide) fun h' L' hsb => wpAny_release' ?_
        have e : j.toNat = k := by rw [hj]; rfl
        rw [e, harr] at L'
        have X2 : Ext (· = c.p) g1 hh1 g1 h' := by
          refine ⟨.refl g1, fun _ _ e => .inl e, fun a o e na => by rw [hsb.2 a na]; exact e, fun a e => ?_, fun a o e => by rw [hsb.2 a fun q => by rw [q, I1.penF np] at e; cases e]; exact I1.sub _ _ e⟩
          by_cases ha : a = c.p
          · obtain ⟨o, ho, _⟩ := L'; rw [ha, ho]; rfl
          · rw [hsb.2 a ha]; exact e
        have mode : SameM σ { σ with pen := .at PP' } := ⟨by rw [hP]; rfl, Iff.rfl, rfl⟩
        have hsl := I1.slf
        have I2 : Inv c sf g1 { σ with pen := .at PP' } b1 h' := by
          refine ⟨I1.base, X2.sub, ⟨l, _, _, L', by rw [hc1]; exact hl⟩, fun _ => I1.penF np, ?_, I1.slfC, fun ns => ?_⟩
          · unfold SlfB at hsl ⊢
            dsimp only
            cases hσ : σ.slf with
            | none => exact trivial
            | some fs =>
              rw [hσ] at hsl
              obtain ⟨q1, es, m, q2, q3⟩ := hsl
              obtain ⟨_, _, _, f4⟩ := I1.slfF (by rw [hσ]; exact Option.some_ne_none _)
              exact ⟨X2.keep _ _ q1 (f4 np).1, es, m, X2.keep _ _ q2 (f4 np).2, q3⟩
          · obtain ⟨f1, f2, f3, f4⟩ := I1.slfF ns
            exact ⟨f1, f2, f3, fun _ => f4 np⟩
        subst hqe
        refine hq _ _ _ _ _ _ hpost ((X1.weaken fun a q => .inl q).trans (X2.weaken fun a q => .inl (by rw [hP]; exact q))) I2 ((H1.F.ext X2 fun a ha q => H.F.ap np a ha q).mode mode) mode .nxt
      unfold penSet at hp
      cases y with
      | int ui =>
        obtain ⟨_, rfl⟩ := rel_int r1
        rename_i tu
        dsimp only at hp
        split at hp
        · exact fin 1 ui tu (PP.1, ui, PP.2.2) _ rfl ⟨rfl, .inl rfl⟩ rfl rfl rfl (sat_ret.mp hp)
        · exact fin 2 ui tu (PP.1, PP.2.1, ui) _ rfl ⟨rfl, .inr rfl⟩ rfl rfl rfl (sat_ret.mp hp)
        · exact (sat_fail.mp hp).elim
      | _ => exact (sat_fail.mp hp).elim
    · exact atX_fail
  · exact atX_fail
end
end Mine

namespace Mine

noncomputable def KindP (P : PenS → Prop) : Prop := ∀ p p', penKind p = penKind p' → P p → P p'

section
variable {c : Cx} {P : PenS → Prop} {n : Nat} {Γ : Tab} {r : R} {sf : Slf} {A : Around} {σ : Sg} {g : Frz} {b : Nat} {s : Shared} {sc : Scope} {ρ : PEnv} {env : Env}

theorem s_ret {e : Option Expr} {pos : Pos} (S : Sound c P n Γ r) (H : Here c P n sf A σ g b s sc ρ env) : AtX c sf A σ sc env (exec (.Return e pos) env) (hRet r sc ρ σ e) g b s := by
  unfold hRet
  split
  · rename_i e
    rw [exec_Return_some]
    intro Q E post hs hq
    refine wpAny_bind (wpAny_standAt (wpAny_bind (S.ev H _ E _ (sat_bind.mp hs) fun v x b1 g1 h1 tk1 hp X1 I1 r1 => wpAny_pure ?_)))
    exact hq _ _ _ _ _ _ (sat_ret.mp hp) (X1.weaken fun a q => .inl q) I1 (H.ext (tk := tk1) X1 I1).F (.refl σ) (.ret r1)
  · exact atX_fail
theorem s_ifS {t : Expr} {bd o : List Stmt} {pos : Pos} (S : Sound c P n Γ r) (H : Here c P n sf A σ g b s sc ρ env) : AtX c sf A σ sc env (exec (.If t bd o pos) env) (hIfS r sc ρ σ t bd o) g b s := by
  unfold hIfS
  rw [arm_exec_If]
  intro Q E post hs hq
  refine wpAny_bind (wpAny_standAt (wpAny_bind (S.tst H _ E _ (sat_bind.mp hs) fun v z b1 g1 h1 tk1 hp X1 I1 r1 => ?_)))
  subst r1
  have H1 := H.ext (tk := tk1) X1 I1
  have hp := sat_br.mp hp
  cases v with
  | true =>
    rw [if_pos rfl]
    exact S.exs H1 Q E post (hp.1 rfl) fun fl q b' g' h' tk a1 a2 a3 a4 a5 a6 => hq fl q b' g' h' tk a1 ((X1.weaken fun a q => .inl q).trans a2) a3 a4 a5 a6
  | false =>
    rw [if_neg (by decide)]
    exact S.exs H1 Q E post (hp.2 rfl) fun fl q b' g' h' tk a1 a2 a3 a4 a5 a6 => hq fl q b' g' h' tk a1 ((X1.weaken fun a q => .inl q).trans a2) a3 a4 a5 a6
theorem s_exs {ss : List Stmt} (hP : KindP P) (S : Sound c P n Γ r) (H : Here c P n sf A σ g b s sc ρ env) : AtX c sf A σ sc env (execs ss env) (stepExs r sc ρ σ ss) g b s := by
  unfold stepExs
  split
  · exact fun Q E post hs hq => wpAny_execs_nil (hq _ _ b g s.heap s.toks (sat_ret.mp hs) (Ext.refl H.I.sub) H.I H.F (.refl σ) .nxt)
  · rename_i st ss
    rw [execs_cons]
    unfold hSeq
    intro Q E post hs hq
    refine wpAny_bind (S.ex H _ E _ (sat_bind.mp hs) fun fl q b1 g1 h1 tk1 hp X1 I1 F1 M1 W1 => ?_)
    obtain ⟨f, ρ1, σ1⟩ := q
    cases W1 with
    | nxt =>
      have H1 : Here c P n sf A σ1 g1 b1 { s with heap := h1, toks := tk1 } sc ρ1 env := ⟨H.R, hP _ _ M1.pen H.m, I1, F1⟩
      exact S.exs H1 Q E post hp fun fl q b' g' h' tk a1 a2 a3 a4 a5 a6 => hq fl q b' g' h' tk a1 (X1.trans (a2.weaken fun a q => Wst_mode M1 a q)) a3 a4 (M1.trans a5) a6
    | ret hr => exact wpAny_pure (hq _ _ _ _ _ _ (sat_ret.mp hp) X1 I1 F1 M1 (.ret hr))

theorem Ao.mode {σ' : Sg} {own : List Addr} (p : Ao c sf σ env own) (m : SameM σ σ') : Ao c sf σ' env own := ⟨p.O2, fun n => p.O3 (kind_off m.pen n), fun n => p.O4 fun e => n (m.slf.mp e)⟩
theorem Wst.notOwn {own : List Addr} {a : Addr} (p : Ao c sf σ env own) (ha : a ∈ own) (h : Wst c σ sf env sc a) : False := by
  rcases h with h | h | ⟨h1, h2⟩
  · exact p.O3 h.is.1 (h.is.2 ▸ ha)
  · exact p.O2 a ha h.own
  · exact (p.O4 h1).2 (h2 ▸ ha)
theorem look_take {α : Type} {x : Str} {v : α} : ∀ {l : List (Str × α)} {n : Nat}, look x (l.take n) = some v → look x l = some v
  | [], n, e => by rw [List.take_nil] at e; exact e
  | p :: r, 0, e => by rw [List.take_zero] at e; cases e
  | (y, u) :: r, n + 1, e => by
    rw [List.take_succ_cons, look_cons] at e
    rw [look_cons]
    split at e
    · rename_i q; rw [if_pos q]; exact e
    · rename_i q; rw [if_neg q]; exact look_take e
theorem Fm.take (F : Fm c sf g σ sc ρ env s.heap) (k : Nat) : Fm c sf g σ sc (ρ.take k) env s.heap :=
  ⟨F.sce, F.kind, F.glob, F.blt, (by obtain ⟨m, h1, h2⟩ := F.ns; exact ⟨m, h1, fun x v e => h2 x v (look_take e)⟩), F.cells, F.inj, F.apart, F.live, F.out, F.ap, F.apS⟩
theorem s_loop {tg : Expr} {it : Value} {own : List Addr} {J : List PV → Frz → Heap → Prop} {xs : List PV} {body : List Stmt} (hP : KindP P) (S : Sound c P n Γ r) (H : Here c P n sf A σ g b s sc ρ env) (p : Ao c sf σ env own) (It : Iter c A tg it own J) (hJ : J xs g s.heap)
    (R : Result → Shared → Prop) (post : Nat → PF × PEnv × Sg → Prop) (hs : Sat b (stepLoop r sc ρ σ tg body xs) post)
    (hR : ∀ fl q b' g' h' tk, post b' q → ExtN (fun a => Wst c σ sf env sc a ∨ a ∈ own) g s.heap g' h' → Inv c sf g' q.2.2 b' h' → Fm c sf g' q.2.2 sc q.2.1 env h' → SameM σ q.2.2 → FlowIs c g' fl q.1 → R (.ok fl) { s with heap := h', toks := tk }) :
    codeAny (model c.prog c.w) A (.forLoop tg it body [] env) R s := by
  unfold stepLoop at hs
  refine for_step ?_
  cases xs with
  | nil =>
    refine It.nil hJ H.I.sub fun h' tk hk => ?_
    have X : ExtN (· ∈ own) g s.heap g h' := ⟨.refl g, fun _ _ e => .inl e, fun a o e na => hk a o na e, fun a o e => hk a o (fun ha => by rw [It.out hJ a ha] at e; cases e) (H.I.sub _ _ e)⟩
    exact hR _ _ b g h' tk (sat_ret.mp hs) ⟨X.mono, X.new, fun a o e na => X.keep a o e fun q => na (.inr q), X.sub⟩ (H.I.extN X p.O3 p.O4) (H.F.extN X fun a ha q => p.O2 a q ha) (.refl σ) .nxt
  | cons x xs =>
    dsimp only at hs
    cases hb : bindT false sc tg x ρ with
    | none => rw [hb] at hs; exact (sat_fail.mp hs).elim
    | some ρ' =>
      rw [hb] at hs
      have hs : Sat b (hLoop r sc σ ρ.length tg body xs ρ') post := hs
      refine It.cons hJ H.I.sub fun v g1 h1 tk1 X1 hv hgo => hgo _ _ fun h1' tk1' X1' J1 => ?_
      have Xa := X1.trans X1'
      have I1 := H.I.extW Xa p.O3 p.O4
      have F1 := H.F.ext Xa fun a ha q => p.O2 a q ha
      refine assign_T (s := { s with heap := h1', toks := tk1' }) H.R.h hb hv F1 X1'.sub fun h2 tk2 X2 F2 => ?_
      have I2 := inv_store I1 F1 X2
      have nl : ∀ a, Own env a → a ∉ own := fun a ha q => p.O2 a q ha
      have J2 := It.frame J1 X1'.sub (.refl _) (fun a ha o e => X2.keep a o e fun q => nl _ q.own ha) (fun a ha => It.out J1 a ha) X2.sub
      have H2 : Here c P n sf A σ g1 b { s with heap := h2, toks := tk2 } sc ρ' env := ⟨H.R, H.m, I2, F2⟩
      have XX2 : Ext (fun a => Wst c σ sf env sc a ∨ a ∈ own) g s.heap g1 h2 := (Xa.weaken fun a q => .inr q).trans (X2.weaken fun a q => .inl (.inr (.inl q)))
      refine S.exs H2 _ _ _ (sat_bind.mp hs) fun fl q b3 g3 h3 tk3 hp X3 I3 F3 M3 W3 => ?_
      obtain ⟨f, ρ3, σ3⟩ := q
      have XX3 := XX2.trans (X3.weaken fun a q => .inl q)
      cases W3 with
      | nxt =>
        have H3 : Here c P n sf A σ3 g3 b3 { s with heap := h3, toks := tk3 } sc (ρ3.take ρ.length) env := ⟨H.R, hP _ _ M3.pen H.m, I3, Fm.take (s := { s with heap := h3, toks := tk3 }) F3 _⟩
        have J3 := It.frame J2 X2.sub X3.mono (fun a ha o e => X3.keep a o e fun q => q.notOwn p ha) (fun a ha => X3.out (It.out J2 a ha) (It.live J2 a ha)) X3.sub
        refine S.loop H3 (p.mode M3) It J3 R post hp fun fl q b' g' h' tk a1 a2 a3 a4 a5 a6 => ?_
        refine hR fl q b' g' h' tk a1 (XX3.transN ⟨a2.mono, a2.new, fun a o e na => a2.keep a o e fun q => na ?_, a2.sub⟩) a3 a4 (M3.trans a5) a6
        rcases q with q | q
        · exact .inl (Wst_mode M3 a q)
        · exact .inr q
      | ret hr => exact hR _ _ _ _ _ _ (sat_ret.mp hp) XX3.n I3 F3 M3 (.ret hr)
theorem s_for {tg iter : Expr} {body orelse : List Stmt} {pos : Pos} (S : Sound c P n Γ r) (H : Here c P n sf A σ g b s sc ρ env) : AtX c sf A σ sc env (exec (.For tg iter body orelse pos) env) (hFor r sc ρ σ tg iter body orelse) g b s := by
  unfold hFor
  split
  · split
    · exact atX_fail
    · rename_i hset
      intro Q E post hs hq
      refine wpAny_For (S.iter H _ E _ (sat_bind.mp hs) fun it xs b1 g1 h1 tk1 own J hp X1 I1 It J1 fr hl => ?_) (fun x => by cases iter <;> first | rfl | cases hset)
      have H1 := H.ext (tk := tk1) X1 I1
      have ao : Ao c sf σ env own := by
        refine ⟨fun a ha ho => live_ne (H.F.live a ho) (fr a ha) rfl, fun np ha => live_ne (H.I.penLive np) (fr _ ha) rfl, fun ns => ⟨fun ha => live_ne (H.I.slfLive ns).1 (fr _ ha) rfl, fun ha => live_ne (H.I.slfLive ns).2 (fr _ ha) rfl⟩⟩
      refine S.loop H1 ao It J1 _ _ hp fun fl q b' g' h' tk a1 a2 a3 a4 a5 a6 => ?_
      refine hq fl q b' g' h' tk a1 (ExtN.close (X1.weaken fun a q => .inl q : Ext (Wst c σ sf env sc) _ _ _ _) a2 (fun a ha => ?_) fun a ha => ?_) a3 a4 a5 a6
      · rcases ha with ha | ha
        · exact .inl ha
        · exact .inr (fr a ha)
      · rcases ha with ha | ha | ⟨n1, n2⟩
        · rw [ha.is.2]; exact a3.penLive (kind_off a5.pen.symm ha.is.1)
        · exact a4.live a ha.own
        · rw [n2]; exact (a3.slfLive fun e => n1 (a5.slf.mpr e)).2
  · exact atX_fail

theorem refOf_some {v : Option PV} {a : Addr} (h : refOf v = some a) : v = some (.raw (.ref a)) := by
  unfold refOf at h
  split at h
  · cases h; rfl
  · cases h
theorem s_ini {cn m x : Str} {pc apos px p0 pos : Pos} {args : List Expr} (T : TabOk c P n Γ) (C : c.Ok) (S : Sound c P n Γ r) (H : Here c P n sf A σ g b s sc ρ env) :
    AtX c sf A σ sc env (exec (.Expr (.Call (.Attribute (.Name cn pc) m apos) (.Name x px :: args) [] p0) pos) env) (ok1 (decide (apos.endLine = p0.line)) (ok1 (noStars (.Name x px :: args)) (hIniCall Γ r sc ρ σ cn m x args))) g b s := by
  refine atX_ok1 fun hline => atX_ok1 fun hns => ?_
  have hline : (apos.endLine == p0.line) = true := by simpa using hline
  unfold hIniCall
  refine atX_ok1 fun h1 => atX_ok1 fun h2 => atX_ok1 fun h3 => atX_ok1 fun h4 => atX_ok1 fun h5 => atX_optT fun a ha => atX_optT fun F hF => atX_optT fun fs hfs => ?_
  have h1 := self_of h1
  have h3 := not_true h3
  have h4 := not_true h4
  cases strEq_iff.mp h5
  obtain ⟨hk, hgl⟩ := globV_some (refOf_some ha)
  obtain ⟨f, mc, t1, t2, t3, t4, t5, t6⟩ := T.ini _ _ hF
  have kd : env.scope.kind = .function := by rw [H.F.sce]; exact H.F.kind
  have hint : interactive env = false := by unfold interactive; rw [kd]; rfl
  intro Q E post hs hq
  rw [arm_exec_Expr]
  refine wpAny_bind (wpAny_standAt ?_)
  rw [hint, if_neg (by decide)]
  refine wpAny_bind (wpAny_pure (a := false) ?_)
  rw [if_neg (by decide)]
  refine wpAny_bind ?_
  rw [arm_eval_Call, base_of rfl]
  refine wpAny_bind (Name_function_global kd (kindOf_of H.F hk) (glob_value T C H.I H.F hgl fun u hu => ?_) (strEq_false h4))
  cases hu
  refine wpAny_bind (wpAny_standAt ?_)
  unfold methodCall calleeOf methodCallPos
  rw [form_ok hns]
  simp only [if_true, hline, Bool.not_true, Bool.or_true]
  have X := H.I.KIn C
  refine wpAny_bind (wpAny_holding (method_cls X t2 (cls_value X t3 t4 t5 (wpAny_bind (wpAny_pure ?_)))))
  refine callWith_of (P := fun h => KeepOk c (.ref f) h) (by rw [noStars_any hns]; rfl) (fun h p => p) ?_
  have st := starEach_cons (env := env) (e := .Name x px) (es := args) rfl
  rw [st]
  refine evalArgs_plain ?_
  show wpAny _ _ (spliced (backTo p0 ((false, eval (.Name x px) env) :: starEach args env))) _ _ _
  rw [← st]
  refine wpAny_items_cons ?_ st
  refine eval_self (s := { s with toks := s.toks + 1 }) H.F h1 h2 h3 fun u hu => ?_
  cases hu.ofSelf
  have H0 : Here c P n sf A σ g b { s with toks := s.toks + 1 } sc ρ env := ⟨H.R, H.m, H.I, H.F⟩
  refine S.evL H0 _ E _ (sat_bind.mp hs) fun vs l b1 g1 hh1 tk1 hp X1 I1 r1 => ⟨keepOk_K (s := { s with heap := hh1, toks := tk1 }) C I1 t1, ?_⟩
  have hns' : σ.slf ≠ none := by rw [hfs]; exact Option.some_ne_none _
  refine t6 sf A σ fs g1 b1 { s with heap := hh1, toks := tk1 } vs l H.R H.m hfs I1 r1 _ E _ (sat_bind.mp hp) fun fs' b' g' h' tk hp' X2 I2 => ?_
  have mode : SameM σ { σ with slf := some fs' } := ⟨rfl, by rw [hfs]; simp, rfl⟩
  have F1 := (H.ext (tk := tk1) X1 I1).F
  have nE : ∀ a, Own env a → ¬ (Wp σ.pen c.p a ∨ a = sf.dx) := fun a ha q => by
    rcases q with q | q
    · exact H.F.ap q.is.1 a ha q.is.2
    · exact (H.F.apS hns' a ha).2 q
  exact wpAny_pure (hq _ _ _ _ _ _ (sat_ret.mp hp') ((X1.weaken fun a q => .inl q).trans (X2.weaken fun a q => q.elim .inl fun q => .inr (.inr ⟨hns', q⟩))) I2 ((F1.ext X2 nE).mode mode) mode .nxt)
theorem s_expr {e : Expr} {pos : Pos} (T : TabOk c P n Γ) (C : c.Ok) (S : Sound c P n Γ r) (H : Here c P n sf A σ g b s sc ρ env) : AtX c sf A σ sc env (exec (.Expr e pos) env) (hExpr Γ r sc ρ σ e) g b s := by
  unfold hExpr
  split
  · split
    · exact atX_fail
    · split
      · split
        · split
          · exact atX_fail
          · split
            · exact s_ini T C S H
            · exact atX_fail
        · exact atX_fail
      · exact atX_fail
  · exact atX_fail
theorem s_ex {st : Stmt} (T : TabOk c P n Γ) (C : c.Ok) (S : Sound c P n Γ r) (H : Here c P n sf A σ g b s sc ρ env) : AtX c sf A σ sc env (exec st env) (stepEx Γ r sc ρ σ st) g b s := by
  cases st with
  | Assign targets value pos =>
    cases targets with
    | nil => exact atX_fail
    | cons t ts =>
      cases ts with
      | cons => exact atX_fail
      | nil =>
        cases t with
        | Name => exact s_setN S H
        | Tuple => exact s_setT S H
        | Attribute => exact s_setA T C S H
        | Subscript => exact s_setS S H
        | _ => exact atX_fail
  | Return => exact s_ret S H
  | If => exact s_ifS S H
  | For => exact s_for S H
  | Expr => exact s_expr T C S H
  | _ => exact atX_fail

theorem sound_step (hP : KindP P) (T : TabOk c P n Γ) (C : c.Ok) (S : Sound c P n Γ r) : Sound c P n Γ (step Γ r) where
  ev := fun H => s_ev T C S H
  evL := fun H => s_L S H
  evD := fun H => s_D S H
  evBool := fun H => s_bool S H
  evC := fun H hv => s_C S H hv
  iter := fun H => s_iter T C S H
  comp := fun a b p It L hz R post hs hR => s_comp S a b p It L hz R post hs hR
  tst := fun H => s_tst S H
  allT := fun H => s_all S H
  ex := fun H => s_ex T C S H
  exs := fun H => s_exs hP S H
  loop := fun H p It J R post hs hR => s_loop hP S H p It J R post hs hR
theorem sound_none : Sound c P n Γ R.none where
  ev := fun H => at_fail
  evL := fun H => at_fail
  evD := fun H => at_fail
  evBool := fun H => at_fail
  evC := fun H hv => ⟨at_fail, at_fail⟩
  iter := fun H => gives_fail
  comp := fun a b p It L hz R post hs hR => (sat_fail.mp hs).elim
  tst := fun H => at_fail
  allT := fun H => at_fail
  ex := fun H => atX_fail
  exs := fun H => atX_fail
  loop := fun H p It J R post hs hR => (sat_fail.mp hs).elim
/-- the interpreter is sound -/
theorem sound_Rn (hP : KindP P) (T : TabOk c P n Γ) (C : c.Ok) : ∀ k, Sound c P n Γ (Rn Γ k)
  | 0 => sound_none
  | k + 1 => sound_step hP T C (sound_Rn hP T C k)
end
end Mine

namespace Mine

noncomputable def zipA (xs : List Str) (vs : List PV) : Option PEnv := match xs with
  | [] => match vs with
    | [] => some []
    | _ :: _ => none
  | x :: xs => match vs with
    | [] => none
    | v :: vs => match zipA xs vs with
      | some r => some ((x, v) :: r)
      | none => none
noncomputable def retOf (q : PF × PEnv × Sg) : T PV := match q.1 with
  | .nxt => .ret .none
  | .ret v => .ret v
structure FD where
  params : List Str
  sc : Scope
  body : List Stmt
noncomputable def runF (Γ : Tab) (k : Nat) (pn : PenS) (d : FD) (D : List PV) (as : List PV) : T PV := match zipA d.params (as ++ D) with
  | some ρ => ((Rn Γ k).exs d.sc ρ { pen := pn } d.body).bind retOf
  | none => .fail

theorem zipA_some : ∀ {xs : List Str} {vs : List PV} {ρ : PEnv}, zipA xs vs = some ρ → xs.length = vs.length ∧ ρ = xs.zip vs
  | [], [], ρ, e => by cases e; exact ⟨rfl, rfl⟩
  | [], _ :: _, ρ, e => by cases e
  | _ :: _, [], ρ, e => by cases e
  | x :: xs, v :: vs, ρ, e => by
    unfold zipA at e
    cases h : zipA xs vs with
    | none => simp [h] at e
    | some r =>
      simp [h] at e
      obtain ⟨h1, h2⟩ := zipA_some h
      subst e h2
      exact ⟨by simp [h1], by simp⟩

structure FnAt (c : Cx) (f : Addr) (d : FD) (D : List PV) : Prop where
  lk : ∃ oc od fd osl, c.K.lookup f = some ⟨oc, od, .func fd, osl⟩ ∧ codeIn c.K fd.code fd.qualname = true ∧ fd.body = .stmts d.body ∧ fd.scope = d.sc ∧ fd.globals = mainGlobals ∧ fd.builtins = builtinsNs ∧ fd.closure = [] ∧
    ∀ (s : Shared) (vs : List Value), c.K.In s.heap → vs.length + D.length = d.params.length → ∃ ds, BindsTo s fd ⟨vs, []⟩ (d.params.zip (vs ++ ds)) ∧ ∀ g, LeF c.hb.get? g → RelL c g ds D
  kind : d.sc.kind = .function
  co : d.sc.isCoroutine = false
  gen : d.sc.isGenerator = false
  loc : ∀ x ∈ d.params, d.sc.names.lookup x = some .local
  nd : d.params.Nodup
  nocell : ∀ x ∈ d.sc.names, x.2 ≠ .cell

theorem lookup_rev {α : Type} : ∀ {l : List (Str × α)} {x : Str}, (l.map (·.1)).Nodup → l.reverse.lookup x = l.lookup x
  | [], x, _ => rfl
  | (y, v) :: r, x, h => by
    rw [List.map_cons, List.nodup_cons] at h
    rw [List.reverse_cons, List.lookup_append, lookup_rev h.2]
    cases e : x == y with
    | true =>
      have := beq_iff_eq.mp e
      subst this
      have : r.lookup x = none := by
        rw [List.lookup_eq_none_iff]
        intro p hp
        simp only [bne_iff_ne, ne_eq]
        intro q
        exact h.1 (q ▸ List.mem_map.mpr ⟨p, hp, rfl⟩)
      rw [this]
      simp
    | false => simp [List.lookup_cons, e]
inductive RelSL (c : Cx) (sf : Slf) (g : Frz) : List Value → List PV → Prop
  | nil : RelSL c sf g [] []
  | cons {v : Value} {x : PV} {vs : List Value} {l : List PV} : RelS c sf g v x → RelSL c sf g vs l → RelSL c sf g (v :: vs) (x :: l)
theorem RelL.toS {c : Cx} {sf : Slf} {g : Frz} : ∀ {vs : List Value} {l : List PV}, RelL c g vs l → RelSL c sf g vs l
  | _, _, .nil => .nil
  | _, _, .cons h r => .cons (.rel h) r.toS
theorem RelSL.append {c : Cx} {sf : Slf} {g : Frz} : ∀ {vs ws : List Value} {l k : List PV}, RelSL c sf g vs l → RelSL c sf g ws k → RelSL c sf g (vs ++ ws) (l ++ k)
  | _, _, _, _, .nil, h => h
  | _, _, _, _, .cons a r, h => .cons a (r.append h)
theorem zip_rel {c : Cx} {sf : Slf} {g : Frz} : ∀ {xs : List Str} {ws : List Value} {l : List PV} {x : Str} {v : PV}, RelSL c sf g ws l → look x (xs.zip l) = some v → ∃ u, (xs.zip ws).lookup x = some u ∧ RelS c sf g u v ∧ x ∈ xs
  | [], ws, l, x, v, _, e => by simp [look] at e
  | y :: xs, _, _, x, v, .nil, e => by simp [look] at e
  | y :: xs, _, _, x, v, .cons (v := u) (x := w) h r, e => by
    rw [List.zip_cons_cons, look_cons] at e
    rw [List.zip_cons_cons, List.lookup_cons]
    split at e
    · rename_i q
      subst q
      cases e
      exact ⟨u, by simp, h, List.mem_cons_self ..⟩
    · rename_i q
      obtain ⟨u', h1, h2, h3⟩ := zip_rel r e
      have : (x == y) = false := by simpa using fun e : x = y => q e.symm
      rw [this]
      exact ⟨u', h1, h2, List.mem_cons_of_mem _ h3⟩
theorem Room.deeper {A : Around} {n : Nat} {env : Env} (r : Room A (n + 1)) : Room (A.deeper env) n := ⟨by have := r.d; show A.depth + 1 + n < _; omega, by have := r.u; show A.units + 3 + 20 * n + 100 < _; omega, r.h⟩

section
variable {c : Cx} {P : PenS → Prop} {n : Nat} {Γ : Tab}
theorem zip_keys {xs : List Str} : ∀ {ws : List Value}, xs.length = ws.length → (xs.zip ws).map (·.1) = xs := by
  induction xs with
  | nil => intro ws h; simp
  | cons x xs ih =>
    intro ws h
    cases ws with
    | nil => cases h
    | cons w ws => rw [List.zip_cons_cons, List.map_cons, ih (by simpa using h)]

/-- the frame in which a function's body begins -/
theorem enter_fm {sf : Slf} {g : Frz} {σ : Sg} {h h₀ : Heap} {d : FD} {fd : FuncData} {f : Addr} {ws : List Value} {l : List PV} (e1 : fd.scope = d.sc) (e2 : fd.globals = mainGlobals) (e3 : fd.builtins = builtinsNs) (e4 : fd.closure = []) (hk : d.sc.kind = .function)
    (loc : ∀ x ∈ d.params, d.sc.names.lookup x = some .local) (nd : d.params.Nodup) (nocell : ∀ x ∈ d.sc.names, x.2 ≠ .cell) (hl : d.params.length = ws.length) (r : RelSL c sf g ws l)
    (fr : h.get? h.objs.size = none) (hn : h₀.Ns h.objs.size fun x => (d.params.zip ws).reverse.lookup x) (out : g h.objs.size = none) (hp : σ.pen ≠ .off → h.objs.size ≠ c.p) (hs : σ.slf ≠ none → h.objs.size ≠ sf.x ∧ h.objs.size ≠ sf.dx) :
    Fm c sf g σ d.sc (d.params.zip l) (callEnv fd h.objs.size f) h₀ := by
  have ec : (callEnv fd h.objs.size f).cells = [] := e4
  have own : ∀ a, Own (callEnv fd h.objs.size f) a → a = h.objs.size := fun a ha => by
    rcases ha with ha | ⟨x, ha⟩
    · exact ha
    · rw [ec] at ha; cases ha
  refine ⟨e1, hk, e2, e3, ⟨_, hn, fun x v hx => ?_⟩, fun x hx => ?_, ?_, ?_, ?_, ?_, ?_, ?_⟩
  · obtain ⟨u, q1, q2, q3⟩ := zip_rel r hx
    refine ⟨.local, u, by unfold kindIn; rw [look_lookup]; exact loc x q3, ?_, q2⟩
    show (d.params.zip ws).reverse.lookup x = some u
    rw [lookup_rev (by rw [zip_keys hl]; exact nd)]; exact q1
  · exact absurd rfl (nocell _ (look_mem hx))
  · rw [ec]; intro x y a h; cases h
  · rw [ec]; intro x a h; cases h
  · intro a ha; rw [own a ha]; obtain ⟨o, _, _, ho, _⟩ := hn; rw [ho]; rfl
  · intro a ha; rw [own a ha]; exact out
  · intro np a ha; rw [own a ha]; exact hp np
  · intro ns a ha; rw [own a ha]; exact hs ns

/-- a call of a function: its body, run by the interpreter -/
theorem code_body {sf sf' : Slf} {A : Around} {σ σ' : Sg} {g : Frz} {b : Nat} {s : Shared} {f : Addr} {d : FD} {D : List PV} {vs : List Value} {l : List PV} {k : Nat} (hP : KindP P) (C : c.Ok) (FA : FnAt c f d D) (T : TabOk c P n Γ) (R : Room A (n + 1))
    (I : Inv c sf g σ b s.heap) (hm : P σ'.pen) (hl : d.params.length = vs.length + D.length) (hr : RelSL c sf' g vs l)
    (hI' : ∀ h₀, Ext W0 g s.heap g h₀ → Inv c sf' g σ' b h₀) (hnew : σ'.slf ≠ none → (s.heap.get? sf'.x).isSome = true ∧ (s.heap.get? sf'.dx).isSome = true) (hpen : σ'.pen ≠ .off → (s.heap.get? c.p).isSome = true)
    (RR : Result → Shared → Prop) (post : Nat → PF × PEnv × Sg → Prop) (hs : Sat b ((Rn Γ k).exs d.sc (d.params.zip (l ++ D)) σ' d.body) post)
    (hq : ∀ v q b' g' h' tk, post b' q → Ext (fun a => Wp σ'.pen c.p a ∨ (σ'.slf ≠ none ∧ a = sf'.dx)) g s.heap g' h' → Inv c sf' g' q.2.2 b' h' → SameM σ' q.2.2 → (∃ fl, FlowIs c g' fl q.1 ∧ v = (match fl with | .ret v => v | _ => .none)) → RR (.ok (.ret v)) { s with heap := h', toks := tk }) :
    codeAny (model c.prog c.w) A (.call (.ref f) ⟨vs, []⟩) RR s := by
  obtain ⟨oc, od, fd, osl, k1, k2, k3, k4, k5, k6, k7, k8⟩ := FA.lk
  have X := I.KIn C
  obtain ⟨ds, k9, k10⟩ := k8 s vs X (by omega)
  have rd := k10 g I.base
  have r1 := hr.append (rd.toS (sf := sf'))
  have hlw : d.params.length = (vs ++ ds).length := by rw [List.length_append, rd.length, hl]
  refine codeAny_call_def (fd := fd) (body := d.body) (by have := R.d; omega) (X _ _ k1) rfl (C.lim.keeps I.base') (codeRec_of X k2) k3 k9 (by rw [k4]; exact FA.nocell) (fun x hx => ?_) (fun h₀ hn hk => ?_) (by rw [k4]; exact FA.co) (by rw [k4]; exact FA.gen) (by rw [k4]; exact FA.kind)
  · rw [k4]
    have : x.1 ∈ (d.params.zip (vs ++ ds)).map (·.1) := List.mem_map.mpr ⟨x, hx, rfl⟩
    rw [zip_keys hlw] at this
    exact FA.loc _ this
  · have X0 : Ext W0 g s.heap g h₀ := Ext.grown I.sub hk
    have fr : s.heap.get? s.heap.objs.size = none := get_size
    have out : g s.heap.objs.size = none := none_of_sub I.sub fr
    have I0 := hI' h₀ X0
    have hpL : σ'.pen ≠ .off → s.heap.objs.size ≠ c.p := fun np => (live_ne (hpen np) fr).symm
    have hsL : σ'.slf ≠ none → s.heap.objs.size ≠ sf'.x ∧ s.heap.objs.size ≠ sf'.dx := fun ns => ⟨(live_ne (hnew ns).1 fr).symm, (live_ne (hnew ns).2 fr).symm⟩
    have F := enter_fm (sf := sf') (σ := σ') (f := f) k4 k5 k6 k7 FA.kind FA.loc FA.nd FA.nocell hlw r1 fr hn out hpL hsL
    have H : Here c P n sf' (A.deeper (callEnv fd s.heap.objs.size f)) σ' g b { s with heap := h₀, toks := s.toks + (d.params.zip (vs ++ ds)).length } d.sc (d.params.zip (l ++ D)) (callEnv fd s.heap.objs.size f) := ⟨R.deeper, hm, I0, F⟩
    refine wpAny_mono ((sound_Rn hP T C k).exs H (fun fl s' => RR (.ok (.ret (match fl with | .ret v => v | _ => .none))) s') (fun _ _ => False) post hs fun fl q b' g' h' tk hp X1 I1 F1 M1 W1 => ?_) (fun _ _ q => q) (fun _ _ q => q.elim)
    refine hq _ q b' g' h' tk hp ?_ I1 M1 ⟨fl, W1, rfl⟩
    refine ExtN.close (X0.any : Ext (fun a => Wp σ'.pen c.p a ∨ (σ'.slf ≠ none ∧ a = sf'.dx)) g s.heap g h₀) X1.n (fun a ha => ?_) (fun a ha => ?_)
    · rcases ha with ha | ha | ha
      · exact .inl (.inl ha)
      · refine .inr ?_
        have : a = s.heap.objs.size := by
          rcases ha.own with q | ⟨x, q⟩
          · exact q
          · have ec : (callEnv fd s.heap.objs.size f).cells = [] := k7
            rw [ec] at q; cases q
        rw [this]; exact fr
      · exact .inl (.inr ha)
    · rcases ha with ha | ⟨n1, n2⟩
      · rw [ha.is.2]; exact I1.penLive (kind_off M1.pen.symm ha.is.1)
      · rw [n2]; exact (I1.slfLive fun e => n1 (M1.slf.mpr e)).2

theorem sat_le {α : Type} {t : T α} : ∀ {b : Nat} {post : Nat → α → Prop}, Sat b t post → Sat b t fun b' a => b' ≤ b ∧ post b' a := by
  induction t with
  | ret a => intro b post h; rw [sat_ret] at h ⊢; exact ⟨Nat.le_refl _, h⟩
  | fail => intro b post h; rw [sat_fail] at h; exact h.elim
  | next m k ih => intro b post h; rw [sat_next] at h ⊢; obtain ⟨c, e, h⟩ := h; exact ⟨c, e, fun i h0 h1 => sat_mono (fun b' a q => ⟨by omega, q.2⟩) (ih i (h i h0 h1))⟩
  | br c x y ix iy => intro b post h; rw [sat_br] at h ⊢; exact ⟨fun e => ix (h.1 e), fun e => iy (h.2 e)⟩
  | need o k ih => intro b post h; rw [sat_need] at h ⊢; obtain ⟨v, e, h⟩ := h; exact ⟨v, e, ih v h⟩
theorem PenB.le {c : Cx} {g : Frz} {p : PenS} {b b' : Nat} {h : Heap} (q : PenB c g p b h) (l : b' ≤ b) : PenB c g p b' h := by
  unfold PenB at q ⊢
  split at q
  · exact trivial
  · exact q
  · obtain ⟨P, y, z1, z2, z3, z4⟩ := q
    exact ⟨P, y, z1, z2, by omega, z4⟩
theorem Inv.le {sf : Slf} {g : Frz} {σ : Sg} {b b' : Nat} {h : Heap} (I : Inv c sf g σ b h) (l : b' ≤ b) : Inv c sf g σ b' h := ⟨I.base, I.sub, I.pen.le l, I.penF, I.slf, I.slfC, I.slfF⟩
theorem Inv.off {sf sf' : Slf} {g : Frz} {σ : Sg} {b b' : Nat} {h : Heap} (I : Inv c sf g σ b h) : Inv c sf' g {} b' h :=
  ⟨I.base, I.sub, trivial, fun n => absurd rfl n, trivial, fun n => absurd rfl n, fun n => absurd rfl n⟩

/-- a function that has nothing to do with the pen, called anywhere -/
theorem fn_pure {f : Addr} {d : FD} {D : List PV} {k : Nat} (C : c.Ok) (FA : FnAt c f d D) (T : TabOk c (· = .off) n Γ) : FnOk c (fun _ => True) (n + 1) (.ref f) (runF Γ k .off d D) := by
  intro sf A σ g b s vs l R _ I hl Q E post hs hq
  unfold runF at hs
  cases hz : zipA d.params (l ++ D) with
  | none => rw [hz] at hs; exact (sat_fail.mp hs).elim
  | some ρ =>
    rw [hz] at hs
    obtain ⟨z1, rfl⟩ := zipA_some hz
    have hs := sat_le hs
    refine wpAny_call (code_body (sf := sf) (sf' := ⟨0, 0, 0⟩) (σ := σ) (σ' := { pen := .off }) (P := (· = .off)) (fun p p' e h => by subst h; cases p' <;> simp [penKind] at e ⊢) C FA T R I rfl (by rw [z1, List.length_append, hl.length]) hl.toS (fun h₀ X => (I.ext0 X).off) (fun n => absurd rfl n) (fun n => absurd rfl n) _ _ (sat_bind.mp hs) fun v q b' g' h' tk hp X1 I1 M1 hv => ?_)
    obtain ⟨fl, W, rfl⟩ := hv
    have X0 : Ext W0 g s.heap g' h' := X1.weaken fun a q => q.elim (fun q => q.is.1 rfl) fun q => q.1 rfl
    obtain ⟨p, ρ', σ'⟩ := q
    cases W with
    | nxt =>
      obtain ⟨h1, h2⟩ := sat_ret.mp hp
      exact hq _ _ b' g' h' tk h2 X0.any ((I.ext0 X0).le h1) .none
    | ret hr =>
      obtain ⟨h1, h2⟩ := sat_ret.mp hp
      exact hq _ _ b' g' h' tk h2 X0.any ((I.ext0 X0).le h1) hr
/-- a function that draws -/
theorem fn_draws {f : Addr} {d : FD} {D : List PV} {k : Nat} (C : c.Ok) (FA : FnAt c f d D) (T : TabOk c (· = .any) n Γ) : FnOk c (· = .any) (n + 1) (.ref f) (runF Γ k .any d D) := by
  intro sf A σ g b s vs l R hm I hl Q E post hs hq
  unfold runF at hs
  cases hz : zipA d.params (l ++ D) with
  | none => rw [hz] at hs; exact (sat_fail.mp hs).elim
  | some ρ =>
    rw [hz] at hs
    obtain ⟨z1, rfl⟩ := zipA_some hz
    have hop : σ.pen ≠ .off := by rw [hm]; exact fun e => nomatch e
    have toAny : ∀ {g h b}, Inv c sf g σ b h → Inv c ⟨0, 0, 0⟩ g { pen := .any } b h := fun I => ⟨I.base, I.sub, by have := I.pen; rw [hm] at this; exact this, fun _ => I.penF hop, trivial, fun n => absurd rfl n, fun n => absurd rfl n⟩
    refine wpAny_call (code_body (sf := sf) (sf' := ⟨0, 0, 0⟩) (σ := σ) (σ' := { pen := .any }) (P := (· = .any)) (fun p p' e h => by subst h; cases p' <;> simp [penKind] at e ⊢) C FA T R I rfl (by rw [z1, List.length_append, hl.length]) hl.toS (fun h₀ X => toAny (I.ext0 X)) (fun n => absurd rfl n) (fun _ => I.penLive hop) _ _ (sat_bind.mp hs) fun v q b' g' h' tk hp X1 I1 M1 hv => ?_)
    obtain ⟨fl, W, rfl⟩ := hv
    have X0 : Ext (Wp σ.pen c.p) g s.heap g' h' := X1.weaken fun a q => q.elim (fun q => by rw [hm]; exact q) fun q => absurd rfl q.1
    obtain ⟨p, ρ', σ'⟩ := q
    have hσ' : σ'.pen = .any := by
      have := M1.pen
      cases h : σ'.pen <;> rw [show σ'.pen = _ from h] at this <;> simp [penKind] at this ⊢
    have hpen : PenB c g' σ.pen b' h' := by have := I1.pen; rw [hσ'] at this; rw [hm]; exact this
    cases W with
    | nxt => exact hq _ _ b' g' h' tk (sat_ret.mp hp) X0 (I.extP X0 hpen) .none
    | ret hr => exact hq _ _ b' g' h' tk (sat_ret.mp hp) X0 (I.extP X0 hpen) hr

noncomputable def fieldsOf' (q : PF × PEnv × Sg) : T (List (Str × PV)) := match q.1 with
  | .nxt => optT q.2.2.slf .ret
  | .ret _ => .fail
noncomputable def runI (Γ : Tab) (k : Nat) (C : Addr) (d : FD) (D : List PV) (as : List PV) : T (List (Str × PV)) := match zipA d.params (.self :: (as ++ D)) with
  | some ρ => ((Rn Γ k).exs d.sc ρ { slf := some [], cl := C } d.body).bind fieldsOf'
  | none => .fail

/-- the making of an object -/
theorem cls_ok {C f : Addr} {d : FD} {D : List PV} {k : Nat} (Co : c.Ok) (FA : FnAt c f d D) (T : TabOk c (· = .off) n Γ) (hmk : makesIn c.K C = true) (hi : findIn c.K (.ref C) "__init__" = some (some (.ref f))) (hf : typeIn c.K (.ref f) = some (.type "function")) :
    FnOk c (fun _ => True) (n + 3) (.ref C) fun l => (runI Γ k C d D l).bind fun fs => .ret (.obj C fs) := by
  intro sf A σ g b s vs l R _ I hl Q E post hs hq
  have hs := sat_bind.mp hs
  unfold runI at hs
  cases hz : zipA d.params (.self :: (l ++ D)) with
  | none => rw [hz] at hs; exact (sat_fail.mp hs).elim
  | some ρ =>
    rw [hz] at hs
    obtain ⟨z1, rfl⟩ := zipA_some hz
    have hs := sat_le (sat_bind.mp hs)
    have X := I.KIn Co
    obtain ⟨hp, gg, dd, tt, os⟩ := s
    dsimp only at X I hs
    refine wpAny_call (make_core (makes_of X hmk) (looks_findIn X hi) (fun self => bind_fn X self hf) (.inl rfl) ?_)
    have d1 : hp.get? hp.objs.size = none := get_size
    have sz1 : (hp.push emptyDict).objs.size = hp.objs.size + 1 := Heap.size_push ..
    have d2 : (hp.push emptyDict).get? (hp.objs.size + 1) = none := by rw [← sz1]; exact get_size
    have k1 : ∀ a o, hp.get? a = some o → (hp.push emptyDict).get? a = some o := fun a o e => Heap.get?_push_of_some _ e
    have k2 : ∀ a o, (hp.push emptyDict).get? a = some o → ((hp.push emptyDict).push (instObj C hp.objs.size)).get? a = some o := fun a o e => Heap.get?_push_of_some _ e
    have d2' : hp.get? (hp.objs.size + 1) = none := by
      cases e : hp.get? (hp.objs.size + 1) with
      | none => rfl
      | some o => rw [k1 _ _ e] at d2; cases d2
    have gx : ((hp.push emptyDict).push (instObj C hp.objs.size)).get? (hp.objs.size + 1) = some (instObj C hp.objs.size) := by rw [← sz1]; exact Heap.get?_push_size _ rfl
    have gd : ((hp.push emptyDict).push (instObj C hp.objs.size)).get? hp.objs.size = some (dictOf [] 0) := k2 _ _ (Heap.get?_push_size _ rfl)
    generalize hH : (hp.push emptyDict).push (instObj C hp.objs.size) = H at gx gd k2 ⊢
    have X0 : Ext W0 g hp g H := Ext.grown I.sub fun a o e => k2 _ _ (k1 _ _ e)
    have fd : g hp.objs.size = none := none_of_sub I.sub d1
    have fx : g (hp.objs.size + 1) = none := none_of_sub I.sub d2'
    have I0 : Inv c sf g σ b H := I.ext0 X0
    have nxd : hp.objs.size + 1 ≠ hp.objs.size := Nat.succ_ne_self _
    have selfI : ∀ h₀, Ext W0 g H g h₀ → Inv c ⟨hp.objs.size + 1, hp.objs.size, C⟩ g { slf := some [], cl := C } b h₀ := fun h₀ Y =>
      ⟨I0.base, Y.sub, trivial, fun n => absurd rfl n, ⟨Y.keep _ _ gx fun q => q, [], 0, Y.keep _ _ gd (fun q => q), .nil⟩, fun _ => rfl, fun _ => ⟨fx, fd, nxd, fun n => absurd rfl n⟩⟩
    have RR : Room (A.under (.builtin "type.__call__" ⟨.ref C :: vs, []⟩)) (n + 1) := by
      have w : (Code.builtin "type.__call__" ⟨.ref C :: vs, []⟩).weight ≤ 2 := Nat.le_of_ble_eq_true (by rfl)
      have u : (Code.builtin "type.__call__" ⟨.ref C :: vs, []⟩).cUnits ≤ 10 := Nat.le_of_ble_eq_true (by rfl)
      exact ⟨by show A.depth + _ + (n + 1) < _; have := R.d; omega, by show A.units + _ + _ + _ < _; have := R.u; omega, R.h⟩
    refine code_body (sf := sf) (σ := σ) (s := ⟨H, gg, dd, tt, os⟩) (sf' := ⟨hp.objs.size + 1, hp.objs.size, C⟩) (σ' := { slf := some [], cl := C }) (P := (· = .off)) (fun p p' e h => by subst h; cases p' <;> simp [penKind] at e ⊢) Co FA T RR I0 rfl
      (l := .self :: l) (by rw [z1]; simp [hl.length]; omega) (.cons .self hl.toS) selfI (fun _ => ⟨by rw [gx]; rfl, by rw [gd]; rfl⟩) (fun n => absurd rfl n) _ _ hs fun v q b' g' h' tk hpost X1 I1 M1 hv => ?_
    obtain ⟨fl, W, rfl⟩ := hv
    obtain ⟨p, ρ', σ'⟩ := q
    obtain ⟨hle, hpost⟩ := hpost
    unfold fieldsOf' at hpost
    cases W with
    | ret hr => exact (sat_fail.mp hpost).elim
    | nxt =>
      dsimp only at hpost
      cases hsl : σ'.slf with
      | none => rw [hsl] at hpost; exact (sat_fail.mp hpost).elim
      | some fs =>
        rw [hsl] at hpost
        have hpost := sat_ret.mp (sat_ret.mp hpost)
        have sl := I1.slf
        dsimp only at sl
        rw [hsl] at sl
        obtain ⟨q1, es, m, q2, q3⟩ := sl
        obtain ⟨f1, f2, f3, f4⟩ := I1.slfF (by rw [hsl]; exact Option.some_ne_none _)
        have Xb : Ext (Wp σ.pen c.p) g hp g' h' := ExtN.close (X0.any : Ext (Wp σ.pen c.p) g hp g H) X1.n (fun a ha => by
          rcases ha with ha | ⟨_, ha⟩
          · exact absurd rfl ha.is.1
          · rw [ha]; exact .inr d1) fun a ha => by
            have hl : (H.get? a).isSome = true := by rw [ha.is.2]; exact I0.penLive ha.is.1
            exact X1.live a hl
        have pne : σ.pen ≠ .off → c.p ≠ hp.objs.size ∧ c.p ≠ hp.objs.size + 1 := fun n => ⟨live_ne (I.penLive n) d1, live_ne (I.penLive n) d2'⟩
        have X2 := (Xb.freeze d1 f2 q2).freeze (o := instObj C hp.objs.size) d2' (by unfold put; rw [if_neg nxd]; exact f1) q1
        have m1 := put_le (o := dictOf es m) f2
        have m2 : LeF g' (put (put g' hp.objs.size (dictOf es m)) (hp.objs.size + 1) (instObj C hp.objs.size)) := m1.trans (put_le (by unfold put; rw [if_neg nxd]; exact f1))
        have pk : ∀ o, σ.pen ≠ .off → hp.get? c.p = some o → h'.get? c.p = some o := fun o n e => X1.keep _ _ (k2 _ _ (k1 _ _ e)) fun q => by
          rcases q with q | ⟨_, q⟩
          · exact q.is.1 rfl
          · exact (pne n).1 q
        have If : Inv c sf (put (put g' hp.objs.size (dictOf es m)) (hp.objs.size + 1) (instObj C hp.objs.size)) σ b' h' := (I.extP X2 ((PenB.mono I.pen (X0.mono.trans (X1.mono.trans m2)) fun n o e => pk o n e).le hle))
        have sx : put (put g' hp.objs.size (dictOf es m)) (hp.objs.size + 1) (instObj C hp.objs.size) (hp.objs.size + 1) = some (instObj C hp.objs.size) := put_same _ _ _
        have sd : put (put g' hp.objs.size (dictOf es m)) (hp.objs.size + 1) (instObj C hp.objs.size) hp.objs.size = some (dictOf es m) := by
          unfold put; rw [if_neg (fun e => nxd e.symm), if_pos rfl]
        exact ⟨rfl, hq _ _ b' _ h' tk hpost X2 If (.obj sx sd (q3.mono m2))⟩
end
end Mine

namespace Mine

/-- a function some of whose names are kept in cells -/
structure FnCell (c : Cx) (f : Addr) (d : FD) : Prop where
  lk : ∃ oc od fd osl, c.K.lookup f = some ⟨oc, od, .func fd, osl⟩ ∧ codeIn c.K fd.code fd.qualname = true ∧ fd.body = .stmts d.body ∧ fd.scope = d.sc ∧ fd.globals = mainGlobals ∧ fd.builtins = builtinsNs ∧ fd.closure = [] ∧
    ∀ (vs : List Value), vs.length = d.params.length → bindArgs fd ⟨vs, []⟩ = pure (d.params.zip vs)
  kind : d.sc.kind = .function
  co : d.sc.isCoroutine = false
  gen : d.sc.isGenerator = false
  loc : ∀ x ∈ d.params, d.sc.names.lookup x = some .local ∨ d.sc.names.lookup x = some .cell
  nd : d.params.Nodup

theorem cellsFrom_dom : ∀ {names : List (Str × NameKind)} {n : Nat} {acc : List (Str × Addr)} {x : Str}, ((x, NameKind.cell) ∈ names ∨ (acc.lookup x).isSome = true) → ((cellsFrom n names acc).lookup x).isSome = true
  | [], n, acc, x, h => by rcases h with h | h <;> first | exact h | cases h
  | (y, k) :: r, n, acc, x, h => by
    unfold cellsFrom
    split
    · rename_i hk
      refine cellsFrom_dom ?_
      rcases h with h | h
      · rcases List.mem_cons.mp h with h | h
        · cases h; refine .inr ?_; rw [List.lookup_cons]; simp
        · exact .inl h
      · refine .inr ?_
        rw [List.lookup_cons]
        cases e : x == y with
        | true => rfl
        | false => exact h
    · rename_i hk
      refine cellsFrom_dom ?_
      rcases h with h | h
      · rcases List.mem_cons.mp h with h | h
        · cases h; exact absurd rfl hk
        · exact .inl h
      · exact .inr h
theorem bindLC {kd : Str → Option NameKind} {x : Str} {u : Value} : ∀ {l : List (Str × Value)} {m cm : Str → Option Value}, (l.map (·.1)).Nodup → (l.lookup x = some u → (kd x = some .local → bindL kd l m x = some u) ∧ (kd x ≠ some .local → bindC kd l cm x = some u)) ∧ (l.lookup x = none → bindL kd l m x = m x ∧ bindC kd l cm x = cm x)
  | [], m, cm, _ => ⟨(fun e => nomatch e), (fun _ => ⟨rfl, rfl⟩)⟩
  | (y, v) :: r, m, cm, h => by
    rw [List.map_cons, List.nodup_cons] at h
    have ih := @bindLC kd x u r (if kd y = some .local then fun z => if z = y then some v else m z else m) (if kd y = some .local then cm else fun z => if z = y then some v else cm z) h.2
    have e1 : bindL kd ((y, v) :: r) m = bindL kd r (if kd y = some .local then fun z => if z = y then some v else m z else m) := rfl
    have e2 : bindC kd ((y, v) :: r) cm = bindC kd r (if kd y = some .local then cm else fun z => if z = y then some v else cm z) := rfl
    rw [e1, e2, List.lookup_cons]
    cases e : x == y with
    | true =>
      have q := beq_iff_eq.mp e
      subst q
      have hn : r.lookup x = none := by
        rw [List.lookup_eq_none_iff]
        intro p hp
        simp only [bne_iff_ne, ne_eq]
        intro q
        exact h.1 (q ▸ List.mem_map.mpr ⟨p, hp, rfl⟩)
      obtain ⟨h1, h2⟩ := ih.2 hn
      rw [h1, h2]
      refine ⟨fun e => ?_, fun e => by cases e⟩
      cases e
      refine ⟨fun hk => by rw [if_pos hk]; simp, fun hk => by rw [if_neg hk]; simp⟩
    | false =>
      have q : x ≠ y := by simpa using e
      refine ⟨fun e' => ih.1 e', fun e' => ?_⟩
      obtain ⟨h1, h2⟩ := ih.2 e'
      rw [h1, h2]
      constructor
      · split
        · exact if_neg q
        · rfl
      · split
        · rfl
        · exact if_neg q

theorem code_cells {c : Cx} {sf sf' : Slf} {A : Around} {σ σ' : Sg} {g : Frz} {b : Nat} {s : Shared} {f : Addr} {d : FD} {vs : List Value} {l : List PV} (C : c.Ok) (FA : FnCell c f d) (hroom : A.depth < recursionLimit)
    (I : Inv c sf g σ b s.heap) (hl : d.params.length = vs.length) (hr : RelL c g vs l) (RR : Result → Shared → Prop)
    (hnew : σ'.slf = none) (hpen : σ'.pen ≠ .off → (s.heap.get? c.p).isSome = true)
    (h : ∀ env h₀ tk, Ext W0 g s.heap g h₀ → Fm c sf' g σ' d.sc (d.params.zip l) env h₀ → (∀ a, Own env a → s.heap.get? a = none) →
      wpAny (model c.prog c.w) (A.deeper env) (execs d.body env) (fun fl s' => RR (.ok (.ret (match fl with | .ret v => v | _ => .none))) s') (fun _ _ => False) { s with heap := h₀, toks := tk }) :
    codeAny (model c.prog c.w) A (.call (.ref f) ⟨vs, []⟩) RR s := by
  obtain ⟨oc, od, fd, osl, k1, k2, k3, k4, k5, k6, k7, k8⟩ := FA.lk
  have X := I.KIn C
  have kd : ∀ x, (callEnvC fd s.heap.objs.size f).kindOf x = d.sc.names.lookup x := fun x => by show fd.scope.names.lookup x = _; rw [k4]
  have ec : (callEnvC fd s.heap.objs.size f).cells = cellsFrom (s.heap.objs.size + 1) d.sc.names [] := by show cellsFrom _ fd.scope.names [] = _; rw [k4]
  have el : (callEnvC fd s.heap.objs.size f).locals = s.heap.objs.size := rfl
  have dom : ∀ x, d.sc.names.lookup x = some .cell → ((cellsFrom (s.heap.objs.size + 1) d.sc.names []).lookup x).isSome = true := fun x hx => cellsFrom_dom (.inl (mem_of_lookup hx))
  refine codeAny_call_cells (fd := fd) (body := d.body) hroom (X _ _ k1) rfl (C.lim.keeps I.base') (codeRec_of X k2) k3 (k8 vs hl.symm) k7 (fun x hx => ?_) (fun s₁ Y => ?_) (by rw [k4]; exact FA.co) (by rw [k4]; exact FA.gen) (by rw [k4]; exact FA.kind)
  · rw [k4]
    have : x.1 ∈ (d.params.zip vs).map (·.1) := List.mem_map.mpr ⟨x, hx, rfl⟩
    rw [zip_keys hl] at this
    rcases FA.loc _ this with q | q
    · exact .inl q
    · exact .inr ⟨q, dom _ q⟩
  · obtain ⟨⟨⟨h₀, tk, rfl⟩, hns, keep, fresh⟩, cell, apart, above⟩ := Y
    have X0 : Ext W0 g s.heap g h₀ := Ext.grown I.sub keep
    have fr : ∀ a, s.heap.objs.size ≤ a → s.heap.get? a = none := fun a ha => by
      cases e : s.heap.get? a with
      | none => rfl
      | some o => exact absurd (Heap.lt_size e) (Nat.not_lt.mpr ha)
    have own : ∀ a, Own (callEnvC fd s.heap.objs.size f) a → s.heap.get? a = none := fun a ha => by
      rcases ha with ha | ⟨x, ha⟩
      · rw [ha, el]; exact get_size
      · exact fr a (Nat.le_of_lt (above _ _ (mem_of_lookup ha)))
    refine wpAny_mono (h (callEnvC fd s.heap.objs.size f) h₀ tk X0 ?_ own) (fun _ _ q => q) (fun _ _ q => q.elim)
    refine ⟨k4, FA.kind, k5, k6, ⟨_, hns, fun x v hx => ?_⟩, fun x hx => ?_, fun x y a h1 h2 => name_of_addr apart (mem_of_lookup h1) (mem_of_lookup h2), fun x a h1 => Nat.ne_of_gt (above _ _ (mem_of_lookup h1)), fun a ha => ?_, fun a ha => none_of_sub I.sub (own a ha), fun n a ha => ?_, fun n => absurd hnew n⟩
    · obtain ⟨u, q1, q2, q3⟩ := zip_rel (hr.toS (sf := sf')) hx
      have nd : ((d.params.zip vs).map (·.1)).Nodup := by rw [zip_keys hl]; exact FA.nd
      obtain ⟨b1, b2⟩ := (bindLC (kd := (callEnvC fd s.heap.objs.size f).kindOf) (x := x) (u := u) (m := fun _ => none) (cm := fun _ => none) nd).1 q1
      rcases FA.loc x q3 with q | q
      · exact ⟨.local, u, by unfold kindIn; rw [look_lookup]; exact q, b1 (by rw [kd]; exact q), q2⟩
      · have hd := dom x q
        cases hl : (cellsFrom (s.heap.objs.size + 1) d.sc.names []).lookup x with
        | none => rw [hl] at hd; cases hd
        | some a =>
          have := cell x a (by rw [ec]; exact hl)
          rw [b2 (by rw [kd, q]; exact fun e => by cases e)] at this
          exact ⟨.cell, u, by unfold kindIn; rw [look_lookup]; exact q, ⟨a, by rw [ec]; exact hl, this⟩, q2⟩
    · have hx' : d.sc.names.lookup x = some .cell := by rw [← look_lookup]; exact hx
      have hd := dom x hx'
      cases hl : (cellsFrom (s.heap.objs.size + 1) d.sc.names []).lookup x with
      | none => rw [hl] at hd; cases hd
      | some a => exact ⟨a, _, by rw [ec]; exact hl, cell x a (by rw [ec]; exact hl)⟩
    · rcases ha with ha | ⟨x, ha⟩
      · obtain ⟨o, _, _, ho, _⟩ := hns; rw [ha, ho]; rfl
      · obtain ⟨o, ho, _⟩ := cell x a ha; rw [ho]; rfl
    · exact (live_ne (hpen n) (own a ha)).symm

/-- such a function, that has nothing to do with the pen -/
theorem fn_cells {c : Cx} {n : Nat} {Γ : Tab} {f : Addr} {d : FD} {k : Nat} (C : c.Ok) (FA : FnCell c f d) (T : TabOk c (· = .off) n Γ) : FnOk c (fun _ => True) (n + 1) (.ref f) (runF Γ k .off d []) := by
  intro sf A σ g b s vs l R _ I hl Q E post hs hq
  unfold runF at hs
  rw [List.append_nil] at hs
  cases hz : zipA d.params l with
  | none => rw [hz] at hs; exact (sat_fail.mp hs).elim
  | some ρ =>
    rw [hz] at hs
    obtain ⟨z1, rfl⟩ := zipA_some hz
    have hs := sat_bind.mp (sat_le hs)
    refine wpAny_call (code_cells (sf' := ⟨0, 0, 0⟩) (σ' := {}) C FA (by have := R.d; omega) I (by rw [z1, hl.length]) hl _ rfl (fun n => absurd rfl n) fun env h₀ tk X0 F hown => ?_)
    have H : Here c (· = .off) n ⟨0, 0, 0⟩ (A.deeper env) {} g b { s with heap := h₀, toks := tk } d.sc (d.params.zip l) env := ⟨R.deeper, rfl, (I.ext0 X0).off, F⟩
    refine (sound_Rn (fun p p' e h => by subst h; cases p' <;> simp [penKind] at e ⊢) T C k).exs H _ _ _ hs fun fl q b' g' h' tk' hp X1 I1 F1 M1 W1 => ?_
    have X2 : Ext W0 g s.heap g' h' := ExtN.close X0 X1.n (fun a ha => by
      rcases ha with ha | ha | ⟨n1, _⟩
      · exact absurd rfl ha.is.1
      · exact .inr (hown a ha.own)
      · exact absurd rfl n1) (fun a ha => ha.elim)
    obtain ⟨pf, ρ', σ'⟩ := q
    cases W1 with
    | nxt =>
      obtain ⟨h1, h2⟩ := sat_ret.mp hp
      exact hq _ _ b' g' h' tk' h2 X2.any ((I.ext0 X2).le h1) .none
    | ret hr =>
      obtain ⟨h1, h2⟩ := sat_ret.mp hp
      exact hq _ _ b' g' h' tk' h2 X2.any ((I.ext0 X2).le h1) hr
end Mine

namespace Mine

section
variable {c : Cx} {n : Nat} {Γ : Tab}
/-- an __init__ called for an object that another __init__ is filling -/
noncomputable def runO (Γ : Tab) (k : Nat) (d : FD) (cl : Addr) (as : List PV) (fs : List (Str × PV)) : T (List (Str × PV)) := match zipA d.params (.self :: as) with
  | some ρ => ((Rn Γ k).exs d.sc ρ { slf := some fs, cl := cl } d.body).bind fieldsOf'
  | none => .fail
theorem ini_ok {P : PenS → Prop} {f : Addr} {d : FD} {k : Nat} (C : c.Ok) (FA : FnAt c f d []) (T : TabOk c (· = .off) n Γ) (sf : Slf) (A : Around) (σ : Sg) (fs : List (Str × PV)) (g : Frz) (b : Nat) (s : Shared) (vs : List Value) (l : List PV) (R : Room A (n + 1)) (hm : P σ.pen) (hsl : σ.slf = some fs) (I : Inv c sf g σ b s.heap) (hl : RelL c g vs l)
    (Q : Value → Shared → Prop) (E : Value → Shared → Prop) (post : Nat → List (Str × PV) → Prop) (hs : Sat b (runO Γ k d σ.cl l fs) post)
    (hq : ∀ fs' b' g' h' tk, post b' fs' → Ext (fun a => Wp σ.pen c.p a ∨ a = sf.dx) g s.heap g' h' → Inv c sf g' { σ with slf := some fs' } b' h' → Q .none { s with heap := h', toks := tk }) :
    wpAny (model c.prog c.w) A (call (.ref f) (.ref sf.x :: vs)) Q E s := by
  unfold runO at hs
  cases hz : zipA d.params (.self :: l) with
  | none => rw [hz] at hs; exact (sat_fail.mp hs).elim
  | some ρ =>
    rw [hz] at hs
    obtain ⟨z1, rfl⟩ := zipA_some hz
    have hns : σ.slf ≠ none := by rw [hsl]; exact Option.some_ne_none _
    have hC := I.slfC hns
    have hs := sat_bind.mp (sat_le hs)
    have toOff : ∀ {g h b}, Inv c sf g σ b h → Inv c sf g { slf := some fs, cl := σ.cl } b h := fun I =>
      ⟨I.base, I.sub, trivial, fun n => absurd rfl n, by have := I.slf; rw [hsl] at this; exact this, fun _ => hC, fun _ => by obtain ⟨f1, f2, f3, _⟩ := I.slfF hns; exact ⟨f1, f2, f3, fun n => absurd rfl n⟩⟩
    refine wpAny_call (code_body (sf := sf) (sf' := sf) (σ := σ) (σ' := { slf := some fs, cl := σ.cl }) (P := (· = .off)) (fun p p' e h => by subst h; cases p' <;> simp [penKind] at e ⊢) C FA T R I rfl (by rw [z1]; simp [hl.length]) (.cons .self hl.toS) (fun h₀ X => toOff (I.ext0 X)) (fun _ => I.slfLive hns) (fun n => absurd rfl n) _ _ (by rw [List.append_nil]; exact hs) fun v q b' g' h' tk hp X1 I1 M1 hv => ?_)
    obtain ⟨fl, W, rfl⟩ := hv
    obtain ⟨p, ρ', σ'⟩ := q
    cases W with
    | ret hr => exact (sat_fail.mp hp).elim
    | nxt =>
      unfold fieldsOf' at hp
      dsimp only at hp
      cases hs' : σ'.slf with
      | none => rw [hs'] at hp; exact (sat_fail.mp hp).elim
      | some fs' =>
        rw [hs'] at hp
        obtain ⟨hle, hp⟩ := sat_ret.mp hp
        obtain ⟨f1, f2, f3, f4⟩ := I.slfF hns
        have X2 : Ext (fun a => Wp σ.pen c.p a ∨ a = sf.dx) g s.heap g' h' := X1.weaken fun a q => by
          rcases q with q | ⟨_, q⟩
          · exact absurd rfl q.is.1
          · exact .inr q
        refine hq fs' b' g' h' tk hp X2 ⟨I1.base, I1.sub, (PenB.mono I.pen X2.mono fun np o e => X1.keep _ _ e fun q => ?_).le hle, fun np => X2.out (I.penF np) (I.penLive np), by have := I1.slf; dsimp only at this; rw [hs'] at this; exact this, fun _ => hC, fun _ => ?_⟩
        · rcases q with q | ⟨_, q⟩
          · exact q.is.1 rfl
          · exact (f4 np).2 q.symm
        · obtain ⟨e1, e2, e3, _⟩ := I1.slfF (by rw [hs']; exact Option.some_ne_none _)
          exact ⟨e1, e2, e3, f4⟩

/-- the drawing: the function run on a pen that is known -/
theorem nxt_ok {f : Addr} {d : FD} {k : Nat} (C : c.Ok) (FA : FnAt c f d []) (T : TabOk c (fun p => penKind p = 1) n Γ)
    (h : ∀ (b : Nat) (P : List Int × Int × Int) (m : Int), PenOk (b + 1) P → 0 < m → m ≤ 1000 → Sat 0 (((Rn Γ k).exs d.sc (d.params.zip [.pen, .int m]) { pen := .at P } d.body)) fun _ q => ∃ i P', q.1 = .ret (.int i) ∧ q.2.2.pen = .at P' ∧ 0 ≤ i ∧ i < m ∧ PenOk b P')
    (hl : d.params.length = 2) (sf : Slf) (A : Around) (σ : Sg) (g : Frz) (b : Nat) (s : Shared) (m : Int) (t : Tok) (R : Room A (n + 1)) (hm : σ.pen = .any) (I : Inv c sf g σ b s.heap) :
    At c sf A σ (Rel c) (call (.ref f) [.ref c.p, .int m t]) (ok1 (decide (0 < m)) (ok1 (decide (m ≤ 1000)) (.next m fun i => .ret (.int i)))) g b s := by
  refine at_ok1 fun h1 => at_ok1 fun h2 => ?_
  have h1 := of_decide_eq_true h1
  have h2 := of_decide_eq_true h2
  intro Q E post hs hq
  obtain ⟨b', eb, hs'⟩ := sat_next.mp hs
  subst eb
  have hI := I.pen
  rw [hm] at hI
  obtain ⟨PP, hP, hok⟩ := hI
  have hop : σ.pen ≠ .off := by rw [hm]; exact fun e => nomatch e
  have toAt : ∀ {g h}, PenAt c g PP h → Inv c sf g σ (b' + 1) h → Inv c ⟨0, 0, 0⟩ g { pen := .at PP } 0 h := fun q I => ⟨I.base, I.sub, q, fun _ => I.penF hop, trivial, fun n => absurd rfl n, fun n => absurd rfl n⟩
  refine wpAny_call (code_body (sf := sf) (b := 0) (sf' := ⟨0, 0, 0⟩) (σ := σ) (σ' := { pen := .at PP }) (P := fun p => penKind p = 1) (fun p p' e h => e.symm.trans h) C FA T R ((I.le (Nat.zero_le _))) rfl (by rw [hl]; rfl) (l := [.pen, .int m]) (.cons (.rel .pen) (.cons (.rel (.int _ _)) .nil)) (fun h₀ X => toAt (PenAt.mono X.mono (fun o e => X.keep _ _ e fun q => q) hP) (I.ext0 X)) (fun n => absurd rfl n) (fun _ => I.penLive hop) _ _ (by rw [List.append_nil]; exact h b' PP m hok h1 h2) fun v q b2 g' h' tk hp X1 I1 M1 hv => ?_)
  obtain ⟨i, P', e1, e2, i0, i1, hok'⟩ := hp
  obtain ⟨fl, W, rfl⟩ := hv
  obtain ⟨p, ρ', σ'⟩ := q
  dsimp only at e1 e2
  subst e1
  have hI1 := I1.pen
  dsimp only at hI1
  rw [e2] at hI1
  have X2 : Ext (Wp σ.pen c.p) g s.heap g' h' := X1.weaken fun a q => q.elim (fun q => by rw [hm]; exact q) fun q => absurd rfl q.1
  cases W with
  | ret hr =>
    exact hq _ (.int i) b' g' h' tk (sat_ret.mp (hs' i i0 i1)) X2 (I.extP X2 (by rw [hm]; exact ⟨P', hI1, hok'⟩)) hr
end
end Mine

namespace Mine

noncomputable def topAt (i : Nat) : Stmt := match PySem.Challenge.pw_pb0423_01.main.body[i]? with
  | some s => s
  | none => .Pass default
noncomputable def fdOf (s : Stmt) : FD := match s with
  | .FunctionDef _ args body _ _ _ sc _ _ _ => ⟨args.args.map (·.arg), sc, body⟩
  | _ => ⟨[], default, []⟩
noncomputable def methAt (i j : Nat) : Stmt := match topAt i with
  | .ClassDef _ _ _ b _ _ _ _ _ _ _ => (match b[j]? with
    | some s => s
    | none => .Pass default)
  | _ => .Pass default
noncomputable def cx (pr : Program) (w : World) (hb : Heap) (mg mb : Str → Option Value) (p : Addr) : Cx := ⟨pr, w, Mine.hd.heap_1 w.params, hb, mg, mb, p⟩

/-- what is to be seen of a function in the written heap -/
noncomputable def SeenF (K : Frag) (f : Addr) (d : FD) (B : FuncData → Prop) : Prop := ∃ oc od fd osl, K.lookup f = some ⟨oc, od, .func fd, osl⟩ ∧ codeIn K fd.code fd.qualname = true ∧ fd.body = .stmts d.body ∧ fd.scope = d.sc ∧ fd.globals = mainGlobals ∧ fd.builtins = builtinsNs ∧ fd.closure = [] ∧ B fd
noncomputable def PlainF (d : FD) (n : Nat) : Prop := d.params.length = n ∧ d.sc.kind = .function ∧ d.sc.isCoroutine = false ∧ d.sc.isGenerator = false ∧ (∀ x ∈ d.params, d.sc.names.lookup x = some .local) ∧ d.params.Nodup ∧ (∀ x ∈ d.sc.names, x.2 ≠ .cell)
theorem lenS {n : Nat} {vs : List Value} (h : vs.length = n + 1) : ∃ a t, vs = a :: t ∧ t.length = n := by
  cases vs with
  | nil => cases h
  | cons a t => exact ⟨a, t, rfl, Nat.succ.inj h⟩
theorem len0 {vs : List Value} (h : vs.length = 0) : vs = [] := List.eq_nil_of_length_eq_zero h
theorem len1 {vs : List Value} (h : vs.length = 1) : ∃ a, vs = [a] := by
  obtain ⟨a, t, e, h⟩ := lenS h
  exact ⟨a, by rw [e, len0 h]⟩
theorem len2 {vs : List Value} (h : vs.length = 2) : ∃ a b, vs = [a, b] := by
  obtain ⟨a, t, e, h⟩ := lenS h
  obtain ⟨b, q⟩ := len1 h
  exact ⟨a, b, by rw [e, q]⟩
theorem len3 {vs : List Value} (h : vs.length = 3) : ∃ a b c, vs = [a, b, c] := by
  obtain ⟨a, t, e, h⟩ := lenS h
  obtain ⟨b, c, q⟩ := len2 h
  exact ⟨a, b, c, by rw [e, q]⟩
theorem len4 {vs : List Value} (h : vs.length = 4) : ∃ a b c d, vs = [a, b, c, d] := by
  obtain ⟨a, t, e, h⟩ := lenS h
  obtain ⟨b, c, d, q⟩ := len3 h
  exact ⟨a, b, c, d, by rw [e, q]⟩
theorem len5 {vs : List Value} (h : vs.length = 5) : ∃ a b c d f, vs = [a, b, c, d, f] := by
  obtain ⟨a, t, e, h⟩ := lenS h
  obtain ⟨b, c, d, f, q⟩ := len4 h
  exact ⟨a, b, c, d, f, by rw [e, q]⟩
theorem len6 {vs : List Value} (h : vs.length = 6) : ∃ a b c d f g, vs = [a, b, c, d, f, g] := by
  obtain ⟨a, t, e, h⟩ := lenS h
  obtain ⟨b, c, d, f, g, q⟩ := len5 h
  exact ⟨a, b, c, d, f, g, by rw [e, q]⟩
theorem len7 {vs : List Value} (h : vs.length = 7) : ∃ a b c d f g i, vs = [a, b, c, d, f, g, i] := by
  obtain ⟨a, t, e, h⟩ := lenS h
  obtain ⟨b, c, d, f, g, i, q⟩ := len6 h
  exact ⟨a, b, c, d, f, g, i, by rw [e, q]⟩
theorem fnAt_of {c : Cx} {f : Addr} {d : FD} {n : Nat} (B : FuncData → Prop) (h : SeenF c.K f d B) (hB : ∀ fd, B fd → ∀ vs : List Value, vs.length = n → bindArgs fd ⟨vs, []⟩ = pure (d.params.zip vs)) (p : PlainF d n) : FnAt c f d [] := by
  obtain ⟨oc, od, fd, osl, h1, h2, h3, h4, h5, h6, h7, h8⟩ := h
  obtain ⟨p0, p1, p2, p3, p4, p5, p6⟩ := p
  exact ⟨⟨oc, od, fd, osl, h1, h2, h3, h4, h5, h6, h7, fun s vs _ hl => ⟨[], by rw [List.append_nil]; exact BindsTo.of_eq (hB fd h8 vs (by simpa [p0] using hl)), fun _ _ => .nil⟩⟩, p1, p2, p3, p4, p5, p6⟩
noncomputable def B0 (d : FD) (fd : FuncData) : Prop := bindArgs fd ⟨[], []⟩ = pure (d.params.zip [])
noncomputable def B1 (d : FD) (fd : FuncData) : Prop := ∀ a, bindArgs fd ⟨[a], []⟩ = pure (d.params.zip [a])
noncomputable def B2 (d : FD) (fd : FuncData) : Prop := ∀ a b, bindArgs fd ⟨[a, b], []⟩ = pure (d.params.zip [a, b])
noncomputable def B3 (d : FD) (fd : FuncData) : Prop := ∀ a b c, bindArgs fd ⟨[a, b, c], []⟩ = pure (d.params.zip [a, b, c])
noncomputable def B4 (d : FD) (fd : FuncData) : Prop := ∀ a b c e, bindArgs fd ⟨[a, b, c, e], []⟩ = pure (d.params.zip [a, b, c, e])
noncomputable def B5 (d : FD) (fd : FuncData) : Prop := ∀ a b c e f, bindArgs fd ⟨[a, b, c, e, f], []⟩ = pure (d.params.zip [a, b, c, e, f])
theorem fnAt0 {c : Cx} {f : Addr} {d : FD} (h : SeenF c.K f d (B0 d)) (p : PlainF d 0) : FnAt c f d [] := fnAt_of _ h (fun fd hb vs hl => by
  obtain rfl := len0 hl
  exact hb) p
theorem fnAt1 {c : Cx} {f : Addr} {d : FD} (h : SeenF c.K f d (B1 d)) (p : PlainF d 1) : FnAt c f d [] := fnAt_of _ h (fun fd hb vs hl => by
  obtain ⟨a, rfl⟩ := len1 hl
  exact hb a) p
theorem fnAt2 {c : Cx} {f : Addr} {d : FD} (h : SeenF c.K f d (B2 d)) (p : PlainF d 2) : FnAt c f d [] := fnAt_of _ h (fun fd hb vs hl => by
  obtain ⟨a, b, rfl⟩ := len2 hl
  exact hb a b) p
theorem fnAt3 {c : Cx} {f : Addr} {d : FD} (h : SeenF c.K f d (B3 d)) (p : PlainF d 3) : FnAt c f d [] := fnAt_of _ h (fun fd hb vs hl => by
  obtain ⟨a, b, e, rfl⟩ := len3 hl
  exact hb a b e) p
theorem fnAt4 {c : Cx} {f : Addr} {d : FD} (h : SeenF c.K f d (B4 d)) (p : PlainF d 4) : FnAt c f d [] := fnAt_of _ h (fun fd hb vs hl => by
  obtain ⟨a, b, e, g, rfl⟩ := len4 hl
  exact hb a b e g) p
theorem fnAt5 {c : Cx} {f : Addr} {d : FD} (h : SeenF c.K f d (B5 d)) (p : PlainF d 5) : FnAt c f d [] := fnAt_of _ h (fun fd hb vs hl => by
  obtain ⟨a, b, e, g, i, rfl⟩ := len5 hl
  exact hb a b e g i) p

noncomputable def d_mask : FD := fdOf (topAt 4)
theorem seen_mask (P : Params) : SeenF (Mine.hd.heap_1 P) 68 d_mask (B1 d_mask) := ⟨_, _, _, _, rfl, by kernel_rfl, by kernel_rfl, by kernel_rfl, by kernel_rfl, by kernel_rfl, by kernel_rfl, fun a => by kernel_rfl⟩
theorem plain_mask : PlainF d_mask 1 := ⟨by kernel_rfl, by kernel_rfl, by kernel_rfl, by kernel_rfl, by decide +kernel, by decide +kernel, by decide +kernel⟩
theorem fa_mask (pr : Program) (w : World) (hb : Heap) (mg mb : Str → Option Value) (p : Addr) : FnAt (cx pr w hb mg mb p) 68 d_mask [] := fnAt1 (seen_mask _) plain_mask
noncomputable def d_wrap : FD := fdOf (topAt 5)
theorem seen_wrap (P : Params) : SeenF (Mine.hd.heap_1 P) 75 d_wrap (B2 d_wrap) := ⟨_, _, _, _, rfl, by kernel_rfl, by kernel_rfl, by kernel_rfl, by kernel_rfl, by kernel_rfl, by kernel_rfl, fun a b => by kernel_rfl⟩
theorem plain_wrap : PlainF d_wrap 2 := ⟨by kernel_rfl, by kernel_rfl, by kernel_rfl, by kernel_rfl, by decide +kernel, by decide +kernel, by decide +kernel⟩
theorem fa_wrap (pr : Program) (w : World) (hb : Heap) (mg mb : Str → Option Value) (p : Addr) : FnAt (cx pr w hb mg mb p) 75 d_wrap [] := fnAt2 (seen_wrap _) plain_wrap
noncomputable def d_signed : FD := fdOf (topAt 6)
theorem seen_signed (P : Params) : SeenF (Mine.hd.heap_1 P) 82 d_signed (B2 d_signed) := ⟨_, _, _, _, rfl, by kernel_rfl, by kernel_rfl, by kernel_rfl, by kernel_rfl, by kernel_rfl, by kernel_rfl, fun a b => by kernel_rfl⟩
theorem plain_signed : PlainF d_signed 2 := ⟨by kernel_rfl, by kernel_rfl, by kernel_rfl, by kernel_rfl, by decide +kernel, by decide +kernel, by decide +kernel⟩
theorem fa_signed (pr : Program) (w : World) (hb : Heap) (mg mb : Str → Option Value) (p : Addr) : FnAt (cx pr w hb mg mb p) 82 d_signed [] := fnAt2 (seen_signed _) plain_signed
noncomputable def d_fits_signed : FD := fdOf (topAt 7)
theorem seen_fits_signed (P : Params) : SeenF (Mine.hd.heap_1 P) 89 d_fits_signed (B2 d_fits_signed) := ⟨_, _, _, _, rfl, by kernel_rfl, by kernel_rfl, by kernel_rfl, by kernel_rfl, by kernel_rfl, by kernel_rfl, fun a b => by kernel_rfl⟩
theorem plain_fits_signed : PlainF d_fits_signed 2 := ⟨by kernel_rfl, by kernel_rfl, by kernel_rfl, by kernel_rfl, by decide +kernel, by decide +kernel, by decide +kernel⟩
theorem fa_fits_signed (pr : Program) (w : World) (hb : Heap) (mg mb : Str → Option Value) (p : Addr) : FnAt (cx pr w hb mg mb p) 89 d_fits_signed [] := fnAt2 (seen_fits_signed _) plain_fits_signed
noncomputable def d_fits_unsigned : FD := fdOf (topAt 8)
theorem seen_fits_unsigned (P : Params) : SeenF (Mine.hd.heap_1 P) 96 d_fits_unsigned (B2 d_fits_unsigned) := ⟨_, _, _, _, rfl, by kernel_rfl, by kernel_rfl, by kernel_rfl, by kernel_rfl, by kernel_rfl, by kernel_rfl, fun a b => by kernel_rfl⟩
theorem plain_fits_unsigned : PlainF d_fits_unsigned 2 := ⟨by kernel_rfl, by kernel_rfl, by kernel_rfl, by kernel_rfl, by decide +kernel, by decide +kernel, by decide +kernel⟩
theorem fa_fits_unsigned (pr : Program) (w : World) (hb : Heap) (mg mb : Str → Option Value) (p : Addr) : FnAt (cx pr w hb mg mb p) 96 d_fits_unsigned [] := fnAt2 (seen_fits_unsigned _) plain_fits_unsigned
noncomputable def d_fits_either : FD := fdOf (topAt 9)
theorem seen_fits_either (P : Params) : SeenF (Mine.hd.heap_1 P) 103 d_fits_either (B2 d_fits_either) := ⟨_, _, _, _, rfl, by kernel_rfl, by kernel_rfl, by kernel_rfl, by kernel_rfl, by kernel_rfl, by kernel_rfl, fun a b => by kernel_rfl⟩
theorem plain_fits_either : PlainF d_fits_either 2 := ⟨by kernel_rfl, by kernel_rfl, by kernel_rfl, by kernel_rfl, by decide +kernel, by decide +kernel, by decide +kernel⟩
theorem fa_fits_either (pr : Program) (w : World) (hb : Heap) (mg mb : Str → Option Value) (p : Addr) : FnAt (cx pr w hb mg mb p) 103 d_fits_either [] := fnAt2 (seen_fits_either _) plain_fits_either
noncomputable def d_condition_names : FD := fdOf (topAt 15)
theorem seen_condition_names (P : Params) : SeenF (Mine.hd.heap_1 P) 110 d_condition_names (B0 d_condition_names) := ⟨_, _, _, _, rfl, by kernel_rfl, by kernel_rfl, by kernel_rfl, by kernel_rfl, by kernel_rfl, by kernel_rfl, (by unfold B0; kernel_rfl)⟩
theorem plain_condition_names : PlainF d_condition_names 0 := ⟨by kernel_rfl, by kernel_rfl, by kernel_rfl, by kernel_rfl, by decide +kernel, by decide +kernel, by decide +kernel⟩
theorem fa_condition_names (pr : Program) (w : World) (hb : Heap) (mg mb : Str → Option Value) (p : Addr) : FnAt (cx pr w hb mg mb p) 110 d_condition_names [] := fnAt0 (seen_condition_names _) plain_condition_names
noncomputable def d_is_fixed : FD := fdOf (topAt 16)
theorem seen_is_fixed (P : Params) : SeenF (Mine.hd.heap_1 P) 117 d_is_fixed (B1 d_is_fixed) := ⟨_, _, _, _, rfl, by kernel_rfl, by kernel_rfl, by kernel_rfl, by kernel_rfl, by kernel_rfl, by kernel_rfl, fun a => by kernel_rfl⟩
theorem plain_is_fixed : PlainF d_is_fixed 1 := ⟨by kernel_rfl, by kernel_rfl, by kernel_rfl, by kernel_rfl, by decide +kernel, by decide +kernel, by decide +kernel⟩
theorem fa_is_fixed (pr : Program) (w : World) (hb : Heap) (mg mb : Str → Option Value) (p : Addr) : FnAt (cx pr w hb mg mb p) 117 d_is_fixed [] := fnAt1 (seen_is_fixed _) plain_is_fixed
noncomputable def d_is_immediate : FD := fdOf (topAt 17)
theorem seen_is_immediate (P : Params) : SeenF (Mine.hd.heap_1 P) 124 d_is_immediate (B1 d_is_immediate) := ⟨_, _, _, _, rfl, by kernel_rfl, by kernel_rfl, by kernel_rfl, by kernel_rfl, by kernel_rfl, by kernel_rfl, fun a => by kernel_rfl⟩
theorem plain_is_immediate : PlainF d_is_immediate 1 := ⟨by kernel_rfl, by kernel_rfl, by kernel_rfl, by kernel_rfl, by decide +kernel, by decide +kernel, by decide +kernel⟩
theorem fa_is_immediate (pr : Program) (w : World) (hb : Heap) (mg mb : Str → Option Value) (p : Addr) : FnAt (cx pr w hb mg mb p) 124 d_is_immediate [] := fnAt1 (seen_is_immediate _) plain_is_immediate
noncomputable def d_is_relative : FD := fdOf (topAt 18)
theorem seen_is_relative (P : Params) : SeenF (Mine.hd.heap_1 P) 131 d_is_relative (B1 d_is_relative) := ⟨_, _, _, _, rfl, by kernel_rfl, by kernel_rfl, by kernel_rfl, by kernel_rfl, by kernel_rfl, by kernel_rfl, fun a => by kernel_rfl⟩
theorem plain_is_relative : PlainF d_is_relative 1 := ⟨by kernel_rfl, by kernel_rfl, by kernel_rfl, by kernel_rfl, by decide +kernel, by decide +kernel, by decide +kernel⟩
theorem fa_is_relative (pr : Program) (w : World) (hb : Heap) (mg mb : Str → Option Value) (p : Addr) : FnAt (cx pr w hb mg mb p) 131 d_is_relative [] := fnAt1 (seen_is_relative _) plain_is_relative
noncomputable def d_takes_memory : FD := fdOf (topAt 19)
theorem seen_takes_memory (P : Params) : SeenF (Mine.hd.heap_1 P) 138 d_takes_memory (B1 d_takes_memory) := ⟨_, _, _, _, rfl, by kernel_rfl, by kernel_rfl, by kernel_rfl, by kernel_rfl, by kernel_rfl, by kernel_rfl, fun a => by kernel_rfl⟩
theorem plain_takes_memory : PlainF d_takes_memory 1 := ⟨by kernel_rfl, by kernel_rfl, by kernel_rfl, by kernel_rfl, by decide +kernel, by decide +kernel, by decide +kernel⟩
theorem fa_takes_memory (pr : Program) (w : World) (hb : Heap) (mg mb : Str → Option Value) (p : Addr) : FnAt (cx pr w hb mg mb p) 138 d_takes_memory [] := fnAt1 (seen_takes_memory _) plain_takes_memory
noncomputable def d_kind_size : FD := fdOf (topAt 20)
theorem seen_kind_size (P : Params) : SeenF (Mine.hd.heap_1 P) 145 d_kind_size (B1 d_kind_size) := ⟨_, _, _, _, rfl, by kernel_rfl, by kernel_rfl, by kernel_rfl, by kernel_rfl, by kernel_rfl, by kernel_rfl, fun a => by kernel_rfl⟩
theorem plain_kind_size : PlainF d_kind_size 1 := ⟨by kernel_rfl, by kernel_rfl, by kernel_rfl, by kernel_rfl, by decide +kernel, by decide +kernel, by decide +kernel⟩
theorem fa_kind_size (pr : Program) (w : World) (hb : Heap) (mg mb : Str → Option Value) (p : Addr) : FnAt (cx pr w hb mg mb p) 145 d_kind_size [] := fnAt1 (seen_kind_size _) plain_kind_size
noncomputable def d_kind_width : FD := fdOf (topAt 21)
theorem seen_kind_width (P : Params) : SeenF (Mine.hd.heap_1 P) 152 d_kind_width (B1 d_kind_width) := ⟨_, _, _, _, rfl, by kernel_rfl, by kernel_rfl, by kernel_rfl, by kernel_rfl, by kernel_rfl, by kernel_rfl, fun a => by kernel_rfl⟩
theorem plain_kind_width : PlainF d_kind_width 1 := ⟨by kernel_rfl, by kernel_rfl, by kernel_rfl, by kernel_rfl, by decide +kernel, by decide +kernel, by decide +kernel⟩
theorem fa_kind_width (pr : Program) (w : World) (hb : Heap) (mg mb : Str → Option Value) (p : Addr) : FnAt (cx pr w hb mg mb p) 152 d_kind_width [] := fnAt1 (seen_kind_width _) plain_kind_width
noncomputable def d_slot_of : FD := fdOf (topAt 22)
theorem seen_slot_of (P : Params) : SeenF (Mine.hd.heap_1 P) 159 d_slot_of (B1 d_slot_of) := ⟨_, _, _, _, rfl, by kernel_rfl, by kernel_rfl, by kernel_rfl, by kernel_rfl, by kernel_rfl, by kernel_rfl, fun a => by kernel_rfl⟩
theorem plain_slot_of : PlainF d_slot_of 1 := ⟨by kernel_rfl, by kernel_rfl, by kernel_rfl, by kernel_rfl, by decide +kernel, by decide +kernel, by decide +kernel⟩
theorem fa_slot_of (pr : Program) (w : World) (hb : Heap) (mg mb : Str → Option Value) (p : Addr) : FnAt (cx pr w hb mg mb p) 159 d_slot_of [] := fnAt1 (seen_slot_of _) plain_slot_of
noncomputable def d_takes_register : FD := fdOf (topAt 23)
theorem seen_takes_register (P : Params) : SeenF (Mine.hd.heap_1 P) 166 d_takes_register (B2 d_takes_register) := ⟨_, _, _, _, rfl, by kernel_rfl, by kernel_rfl, by kernel_rfl, by kernel_rfl, by kernel_rfl, by kernel_rfl, fun a b => by kernel_rfl⟩
theorem plain_takes_register : PlainF d_takes_register 2 := ⟨by kernel_rfl, by kernel_rfl, by kernel_rfl, by kernel_rfl, by decide +kernel, by decide +kernel, by decide +kernel⟩
theorem fa_takes_register (pr : Program) (w : World) (hb : Heap) (mg mb : Str → Option Value) (p : Addr) : FnAt (cx pr w hb mg mb p) 166 d_takes_register [] := fnAt2 (seen_takes_register _) plain_takes_register
noncomputable def d_takes_worth : FD := fdOf (topAt 24)
theorem seen_takes_worth (P : Params) : SeenF (Mine.hd.heap_1 P) 173 d_takes_worth (B3 d_takes_worth) := ⟨_, _, _, _, rfl, by kernel_rfl, by kernel_rfl, by kernel_rfl, by kernel_rfl, by kernel_rfl, by kernel_rfl, fun a b c => by kernel_rfl⟩
theorem plain_takes_worth : PlainF d_takes_worth 3 := ⟨by kernel_rfl, by kernel_rfl, by kernel_rfl, by kernel_rfl, by decide +kernel, by decide +kernel, by decide +kernel⟩
theorem fa_takes_worth (pr : Program) (w : World) (hb : Heap) (mg mb : Str → Option Value) (p : Addr) : FnAt (cx pr w hb mg mb p) 173 d_takes_worth [] := fnAt3 (seen_takes_worth _) plain_takes_worth
noncomputable def d_takes_distance : FD := fdOf (topAt 25)
theorem seen_takes_distance (P : Params) : SeenF (Mine.hd.heap_1 P) 180 d_takes_distance (B2 d_takes_distance) := ⟨_, _, _, _, rfl, by kernel_rfl, by kernel_rfl, by kernel_rfl, by kernel_rfl, by kernel_rfl, by kernel_rfl, fun a b => by kernel_rfl⟩
theorem plain_takes_distance : PlainF d_takes_distance 2 := ⟨by kernel_rfl, by kernel_rfl, by kernel_rfl, by kernel_rfl, by decide +kernel, by decide +kernel, by decide +kernel⟩
theorem fa_takes_distance (pr : Program) (w : World) (hb : Heap) (mg mb : Str → Option Value) (p : Addr) : FnAt (cx pr w hb mg mb p) 180 d_takes_distance [] := fnAt2 (seen_takes_distance _) plain_takes_distance
noncomputable def d_takes : FD := fdOf (topAt 26)
theorem seen_takes (P : Params) : SeenF (Mine.hd.heap_1 P) 187 d_takes (B3 d_takes) := ⟨_, _, _, _, rfl, by kernel_rfl, by kernel_rfl, by kernel_rfl, by kernel_rfl, by kernel_rfl, by kernel_rfl, fun a b c => by kernel_rfl⟩
theorem plain_takes : PlainF d_takes 3 := ⟨by kernel_rfl, by kernel_rfl, by kernel_rfl, by kernel_rfl, by decide +kernel, by decide +kernel, by decide +kernel⟩
theorem fa_takes (pr : Program) (w : World) (hb : Heap) (mg mb : Str → Option Value) (p : Addr) : FnAt (cx pr w hb mg mb p) 187 d_takes [] := fnAt3 (seen_takes _) plain_takes
noncomputable def d_matches : FD := fdOf (topAt 28)
theorem seen_matches (P : Params) : SeenF (Mine.hd.heap_1 P) 254 d_matches (B2 d_matches) := ⟨_, _, _, _, rfl, by kernel_rfl, by kernel_rfl, by kernel_rfl, by kernel_rfl, by kernel_rfl, by kernel_rfl, fun a b => by kernel_rfl⟩
theorem plain_matches : PlainF d_matches 2 := ⟨by kernel_rfl, by kernel_rfl, by kernel_rfl, by kernel_rfl, by decide +kernel, by decide +kernel, by decide +kernel⟩
theorem fa_matches (pr : Program) (w : World) (hb : Heap) (mg mb : Str → Option Value) (p : Addr) : FnAt (cx pr w hb mg mb p) 254 d_matches [] := fnAt2 (seen_matches _) plain_matches
noncomputable def d_can_lock : FD := fdOf (topAt 29)
theorem seen_can_lock (P : Params) : SeenF (Mine.hd.heap_1 P) 261 d_can_lock (B1 d_can_lock) := ⟨_, _, _, _, rfl, by kernel_rfl, by kernel_rfl, by kernel_rfl, by kernel_rfl, by kernel_rfl, by kernel_rfl, fun a => by kernel_rfl⟩
theorem plain_can_lock : PlainF d_can_lock 1 := ⟨by kernel_rfl, by kernel_rfl, by kernel_rfl, by kernel_rfl, by decide +kernel, by decide +kernel, by decide +kernel⟩
theorem fa_can_lock (pr : Program) (w : World) (hb : Heap) (mg mb : Str → Option Value) (p : Addr) : FnAt (cx pr w hb mg mb p) 261 d_can_lock [] := fnAt1 (seen_can_lock _) plain_can_lock
noncomputable def d_repeats : FD := fdOf (topAt 30)
theorem seen_repeats (P : Params) : SeenF (Mine.hd.heap_1 P) 268 d_repeats (B1 d_repeats) := ⟨_, _, _, _, rfl, by kernel_rfl, by kernel_rfl, by kernel_rfl, by kernel_rfl, by kernel_rfl, by kernel_rfl, fun a => by kernel_rfl⟩
theorem plain_repeats : PlainF d_repeats 1 := ⟨by kernel_rfl, by kernel_rfl, by kernel_rfl, by kernel_rfl, by decide +kernel, by decide +kernel, by decide +kernel⟩
theorem fa_repeats (pr : Program) (w : World) (hb : Heap) (mg mb : Str → Option Value) (p : Addr) : FnAt (cx pr w hb mg mb p) 268 d_repeats [] := fnAt1 (seen_repeats _) plain_repeats
noncomputable def d_early_names : FD := fdOf (topAt 46)
theorem seen_early_names (P : Params) : SeenF (Mine.hd.heap_1 P) 589 d_early_names (B1 d_early_names) := ⟨_, _, _, _, rfl, by kernel_rfl, by kernel_rfl, by kernel_rfl, by kernel_rfl, by kernel_rfl, by kernel_rfl, fun a => by kernel_rfl⟩
theorem plain_early_names : PlainF d_early_names 1 := ⟨by kernel_rfl, by kernel_rfl, by kernel_rfl, by kernel_rfl, by decide +kernel, by decide +kernel, by decide +kernel⟩
theorem fa_early_names (pr : Program) (w : World) (hb : Heap) (mg mb : Str → Option Value) (p : Addr) : FnAt (cx pr w hb mg mb p) 589 d_early_names [] := fnAt1 (seen_early_names _) plain_early_names
noncomputable def d_late_ending : FD := fdOf (topAt 47)
theorem seen_late_ending (P : Params) : SeenF (Mine.hd.heap_1 P) 596 d_late_ending (B1 d_late_ending) := ⟨_, _, _, _, rfl, by kernel_rfl, by kernel_rfl, by kernel_rfl, by kernel_rfl, by kernel_rfl, by kernel_rfl, fun a => by kernel_rfl⟩
theorem plain_late_ending : PlainF d_late_ending 1 := ⟨by kernel_rfl, by kernel_rfl, by kernel_rfl, by kernel_rfl, by decide +kernel, by decide +kernel, by decide +kernel⟩
theorem fa_late_ending (pr : Program) (w : World) (hb : Heap) (mg mb : Str → Option Value) (p : Addr) : FnAt (cx pr w hb mg mb p) 596 d_late_ending [] := fnAt1 (seen_late_ending _) plain_late_ending
noncomputable def d_gpr : FD := fdOf (topAt 48)
theorem seen_gpr (P : Params) : SeenF (Mine.hd.heap_1 P) 603 d_gpr (B2 d_gpr) := ⟨_, _, _, _, rfl, by kernel_rfl, by kernel_rfl, by kernel_rfl, by kernel_rfl, by kernel_rfl, by kernel_rfl, fun a b => by kernel_rfl⟩
theorem plain_gpr : PlainF d_gpr 2 := ⟨by kernel_rfl, by kernel_rfl, by kernel_rfl, by kernel_rfl, by decide +kernel, by decide +kernel, by decide +kernel⟩
theorem fa_gpr (pr : Program) (w : World) (hb : Heap) (mg mb : Str → Option Value) (p : Addr) : FnAt (cx pr w hb mg mb p) 603 d_gpr [] := fnAt2 (seen_gpr _) plain_gpr
noncomputable def d_high : FD := fdOf (topAt 49)
theorem seen_high (P : Params) : SeenF (Mine.hd.heap_1 P) 610 d_high (B1 d_high) := ⟨_, _, _, _, rfl, by kernel_rfl, by kernel_rfl, by kernel_rfl, by kernel_rfl, by kernel_rfl, by kernel_rfl, fun a => by kernel_rfl⟩
theorem plain_high : PlainF d_high 1 := ⟨by kernel_rfl, by kernel_rfl, by kernel_rfl, by kernel_rfl, by decide +kernel, by decide +kernel, by decide +kernel⟩
theorem fa_high (pr : Program) (w : World) (hb : Heap) (mg mb : Str → Option Value) (p : Addr) : FnAt (cx pr w hb mg mb p) 610 d_high [] := fnAt1 (seen_high _) plain_high
noncomputable def d_xmm : FD := fdOf (topAt 50)
theorem seen_xmm (P : Params) : SeenF (Mine.hd.heap_1 P) 617 d_xmm (B1 d_xmm) := ⟨_, _, _, _, rfl, by kernel_rfl, by kernel_rfl, by kernel_rfl, by kernel_rfl, by kernel_rfl, by kernel_rfl, fun a => by kernel_rfl⟩
theorem plain_xmm : PlainF d_xmm 1 := ⟨by kernel_rfl, by kernel_rfl, by kernel_rfl, by kernel_rfl, by decide +kernel, by decide +kernel, by decide +kernel⟩
theorem fa_xmm (pr : Program) (w : World) (hb : Heap) (mg mb : Str → Option Value) (p : Addr) : FnAt (cx pr w hb mg mb p) 617 d_xmm [] := fnAt1 (seen_xmm _) plain_xmm
noncomputable def d_rip : FD := fdOf (topAt 51)
theorem seen_rip (P : Params) : SeenF (Mine.hd.heap_1 P) 624 d_rip (B0 d_rip) := ⟨_, _, _, _, rfl, by kernel_rfl, by kernel_rfl, by kernel_rfl, by kernel_rfl, by kernel_rfl, by kernel_rfl, (by unfold B0; kernel_rfl)⟩
theorem plain_rip : PlainF d_rip 0 := ⟨by kernel_rfl, by kernel_rfl, by kernel_rfl, by kernel_rfl, by decide +kernel, by decide +kernel, by decide +kernel⟩
theorem fa_rip (pr : Program) (w : World) (hb : Heap) (mg mb : Str → Option Value) (p : Addr) : FnAt (cx pr w hb mg mb p) 624 d_rip [] := fnAt0 (seen_rip _) plain_rip
noncomputable def d_segment : FD := fdOf (topAt 52)
theorem seen_segment (P : Params) : SeenF (Mine.hd.heap_1 P) 631 d_segment (B1 d_segment) := ⟨_, _, _, _, rfl, by kernel_rfl, by kernel_rfl, by kernel_rfl, by kernel_rfl, by kernel_rfl, by kernel_rfl, fun a => by kernel_rfl⟩
theorem plain_segment : PlainF d_segment 1 := ⟨by kernel_rfl, by kernel_rfl, by kernel_rfl, by kernel_rfl, by decide +kernel, by decide +kernel, by decide +kernel⟩
theorem fa_segment (pr : Program) (w : World) (hb : Heap) (mg mb : Str → Option Value) (p : Addr) : FnAt (cx pr w hb mg mb p) 631 d_segment [] := fnAt1 (seen_segment _) plain_segment
noncomputable def d_law_next : FD := fdOf (topAt 55)
theorem seen_law_next (P : Params) : SeenF (Mine.hd.heap_1 P) 638 d_law_next (B2 d_law_next) := ⟨_, _, _, _, rfl, by kernel_rfl, by kernel_rfl, by kernel_rfl, by kernel_rfl, by kernel_rfl, by kernel_rfl, fun a b => by kernel_rfl⟩
theorem plain_law_next : PlainF d_law_next 2 := ⟨by kernel_rfl, by kernel_rfl, by kernel_rfl, by kernel_rfl, by decide +kernel, by decide +kernel, by decide +kernel⟩
theorem fa_law_next (pr : Program) (w : World) (hb : Heap) (mg mb : Str → Option Value) (p : Addr) : FnAt (cx pr w hb mg mb p) 638 d_law_next [] := fnAt2 (seen_law_next _) plain_law_next
noncomputable def d_law_row : FD := fdOf (topAt 56)
theorem seen_law_row (P : Params) : SeenF (Mine.hd.heap_1 P) 643 d_law_row (B1 d_law_row) := ⟨_, _, _, _, rfl, by kernel_rfl, by kernel_rfl, by kernel_rfl, by kernel_rfl, by kernel_rfl, by kernel_rfl, fun a => by kernel_rfl⟩
theorem plain_law_row : PlainF d_law_row 1 := ⟨by kernel_rfl, by kernel_rfl, by kernel_rfl, by kernel_rfl, by decide +kernel, by decide +kernel, by decide +kernel⟩
theorem fa_law_row (pr : Program) (w : World) (hb : Heap) (mg mb : Str → Option Value) (p : Addr) : FnAt (cx pr w hb mg mb p) 643 d_law_row [] := fnAt1 (seen_law_row _) plain_law_row
noncomputable def d_law_number : FD := fdOf (topAt 57)
theorem seen_law_number (P : Params) : SeenF (Mine.hd.heap_1 P) 650 d_law_number (B1 d_law_number) := ⟨_, _, _, _, rfl, by kernel_rfl, by kernel_rfl, by kernel_rfl, by kernel_rfl, by kernel_rfl, by kernel_rfl, fun a => by kernel_rfl⟩
theorem plain_law_number : PlainF d_law_number 1 := ⟨by kernel_rfl, by kernel_rfl, by kernel_rfl, by kernel_rfl, by decide +kernel, by decide +kernel, by decide +kernel⟩
theorem fa_law_number (pr : Program) (w : World) (hb : Heap) (mg mb : Str → Option Value) (p : Addr) : FnAt (cx pr w hb mg mb p) 650 d_law_number [] := fnAt1 (seen_law_number _) plain_law_number
noncomputable def d_law_operand : FD := fdOf (topAt 58)
theorem seen_law_operand (P : Params) : SeenF (Mine.hd.heap_1 P) 657 d_law_operand (B1 d_law_operand) := ⟨_, _, _, _, rfl, by kernel_rfl, by kernel_rfl, by kernel_rfl, by kernel_rfl, by kernel_rfl, by kernel_rfl, fun a => by kernel_rfl⟩
theorem plain_law_operand : PlainF d_law_operand 1 := ⟨by kernel_rfl, by kernel_rfl, by kernel_rfl, by kernel_rfl, by decide +kernel, by decide +kernel, by decide +kernel⟩
theorem fa_law_operand (pr : Program) (w : World) (hb : Heap) (mg mb : Str → Option Value) (p : Addr) : FnAt (cx pr w hb mg mb p) 657 d_law_operand [] := fnAt1 (seen_law_operand _) plain_law_operand
noncomputable def d_law_lets_number : FD := fdOf (topAt 59)
theorem seen_law_lets_number (P : Params) : SeenF (Mine.hd.heap_1 P) 664 d_law_lets_number (B4 d_law_lets_number) := ⟨_, _, _, _, rfl, by kernel_rfl, by kernel_rfl, by kernel_rfl, by kernel_rfl, by kernel_rfl, by kernel_rfl, fun a b c e => by kernel_rfl⟩
theorem plain_law_lets_number : PlainF d_law_lets_number 4 := ⟨by kernel_rfl, by kernel_rfl, by kernel_rfl, by kernel_rfl, by decide +kernel, by decide +kernel, by decide +kernel⟩
theorem fa_law_lets_number (pr : Program) (w : World) (hb : Heap) (mg mb : Str → Option Value) (p : Addr) : FnAt (cx pr w hb mg mb p) 664 d_law_lets_number [] := fnAt4 (seen_law_lets_number _) plain_law_lets_number
noncomputable def d_law_form_right : FD := fdOf (topAt 61)
theorem seen_law_form_right (P : Params) : SeenF (Mine.hd.heap_1 P) 674 d_law_form_right (B4 d_law_form_right) := ⟨_, _, _, _, rfl, by kernel_rfl, by kernel_rfl, by kernel_rfl, by kernel_rfl, by kernel_rfl, by kernel_rfl, fun a b c e => by kernel_rfl⟩
theorem plain_law_form_right : PlainF d_law_form_right 4 := ⟨by kernel_rfl, by kernel_rfl, by kernel_rfl, by kernel_rfl, by decide +kernel, by decide +kernel, by decide +kernel⟩
theorem fa_law_form_right (pr : Program) (w : World) (hb : Heap) (mg mb : Str → Option Value) (p : Addr) : FnAt (cx pr w hb mg mb p) 674 d_law_form_right [] := fnAt4 (seen_law_form_right _) plain_law_form_right
noncomputable def d_law_name_right : FD := fdOf (topAt 62)
theorem seen_law_name_right (P : Params) : SeenF (Mine.hd.heap_1 P) 681 d_law_name_right (B2 d_law_name_right) := ⟨_, _, _, _, rfl, by kernel_rfl, by kernel_rfl, by kernel_rfl, by kernel_rfl, by kernel_rfl, by kernel_rfl, fun a b => by kernel_rfl⟩
theorem plain_law_name_right : PlainF d_law_name_right 2 := ⟨by kernel_rfl, by kernel_rfl, by kernel_rfl, by kernel_rfl, by decide +kernel, by decide +kernel, by decide +kernel⟩
theorem fa_law_name_right (pr : Program) (w : World) (hb : Heap) (mg mb : Str → Option Value) (p : Addr) : FnAt (cx pr w hb mg mb p) 681 d_law_name_right [] := fnAt2 (seen_law_name_right _) plain_law_name_right
noncomputable def d_form_told : FD := fdOf (methAt 27 1)
theorem seen_form_told (P : Params) : SeenF (Mine.hd.heap_1 P) 207 d_form_told (B1 d_form_told) := ⟨_, _, _, _, rfl, by kernel_rfl, by kernel_rfl, by kernel_rfl, by kernel_rfl, by kernel_rfl, by kernel_rfl, fun a => by kernel_rfl⟩
theorem plain_form_told : PlainF d_form_told 1 := ⟨by kernel_rfl, by kernel_rfl, by kernel_rfl, by kernel_rfl, by decide +kernel, by decide +kernel, by decide +kernel⟩
theorem fa_form_told (pr : Program) (w : World) (hb : Heap) (mg mb : Str → Option Value) (p : Addr) : FnAt (cx pr w hb mg mb p) 207 d_form_told [] := fnAt1 (seen_form_told _) plain_form_told
noncomputable def d_form_slots : FD := fdOf (methAt 27 2)
theorem seen_form_slots (P : Params) : SeenF (Mine.hd.heap_1 P) 214 d_form_slots (B1 d_form_slots) := ⟨_, _, _, _, rfl, by kernel_rfl, by kernel_rfl, by kernel_rfl, by kernel_rfl, by kernel_rfl, by kernel_rfl, fun a => by kernel_rfl⟩
theorem plain_form_slots : PlainF d_form_slots 1 := ⟨by kernel_rfl, by kernel_rfl, by kernel_rfl, by kernel_rfl, by decide +kernel, by decide +kernel, by decide +kernel⟩
theorem fa_form_slots (pr : Program) (w : World) (hb : Heap) (mg mb : Str → Option Value) (p : Addr) : FnAt (cx pr w hb mg mb p) 214 d_form_slots [] := fnAt1 (seen_form_slots _) plain_form_slots
noncomputable def d_form_has_modrm : FD := fdOf (methAt 27 3)
theorem seen_form_has_modrm (P : Params) : SeenF (Mine.hd.heap_1 P) 221 d_form_has_modrm (B1 d_form_has_modrm) := ⟨_, _, _, _, rfl, by kernel_rfl, by kernel_rfl, by kernel_rfl, by kernel_rfl, by kernel_rfl, by kernel_rfl, fun a => by kernel_rfl⟩
theorem plain_form_has_modrm : PlainF d_form_has_modrm 1 := ⟨by kernel_rfl, by kernel_rfl, by kernel_rfl, by kernel_rfl, by decide +kernel, by decide +kernel, by decide +kernel⟩
theorem fa_form_has_modrm (pr : Program) (w : World) (hb : Heap) (mg mb : Str → Option Value) (p : Addr) : FnAt (cx pr w hb mg mb p) 221 d_form_has_modrm [] := fnAt1 (seen_form_has_modrm _) plain_form_has_modrm
noncomputable def d_form_has_plus : FD := fdOf (methAt 27 4)
theorem seen_form_has_plus (P : Params) : SeenF (Mine.hd.heap_1 P) 228 d_form_has_plus (B1 d_form_has_plus) := ⟨_, _, _, _, rfl, by kernel_rfl, by kernel_rfl, by kernel_rfl, by kernel_rfl, by kernel_rfl, by kernel_rfl, fun a => by kernel_rfl⟩
theorem plain_form_has_plus : PlainF d_form_has_plus 1 := ⟨by kernel_rfl, by kernel_rfl, by kernel_rfl, by kernel_rfl, by decide +kernel, by decide +kernel, by decide +kernel⟩
theorem fa_form_has_plus (pr : Program) (w : World) (hb : Heap) (mg mb : Str → Option Value) (p : Addr) : FnAt (cx pr w hb mg mb p) 228 d_form_has_plus [] := fnAt1 (seen_form_has_plus _) plain_form_has_plus
noncomputable def d_form_memory_size : FD := fdOf (methAt 27 5)
theorem seen_form_memory_size (P : Params) : SeenF (Mine.hd.heap_1 P) 235 d_form_memory_size (B1 d_form_memory_size) := ⟨_, _, _, _, rfl, by kernel_rfl, by kernel_rfl, by kernel_rfl, by kernel_rfl, by kernel_rfl, by kernel_rfl, fun a => by kernel_rfl⟩
theorem plain_form_memory_size : PlainF d_form_memory_size 1 := ⟨by kernel_rfl, by kernel_rfl, by kernel_rfl, by kernel_rfl, by decide +kernel, by decide +kernel, by decide +kernel⟩
theorem fa_form_memory_size (pr : Program) (w : World) (hb : Heap) (mg mb : Str → Option Value) (p : Addr) : FnAt (cx pr w hb mg mb p) 235 d_form_memory_size [] := fnAt1 (seen_form_memory_size _) plain_form_memory_size
noncomputable def d_form_needs_memory : FD := fdOf (methAt 27 6)
theorem seen_form_needs_memory (P : Params) : SeenF (Mine.hd.heap_1 P) 240 d_form_needs_memory (B1 d_form_needs_memory) := ⟨_, _, _, _, rfl, by kernel_rfl, by kernel_rfl, by kernel_rfl, by kernel_rfl, by kernel_rfl, by kernel_rfl, fun a => by kernel_rfl⟩
theorem plain_form_needs_memory : PlainF d_form_needs_memory 1 := ⟨by kernel_rfl, by kernel_rfl, by kernel_rfl, by kernel_rfl, by decide +kernel, by decide +kernel, by decide +kernel⟩
theorem fa_form_needs_memory (pr : Program) (w : World) (hb : Heap) (mg mb : Str → Option Value) (p : Addr) : FnAt (cx pr w hb mg mb p) 240 d_form_needs_memory [] := fnAt1 (seen_form_needs_memory _) plain_form_needs_memory
noncomputable def d_operand_init : FD := fdOf (methAt 32 0)
theorem seen_operand_init (P : Params) : SeenF (Mine.hd.heap_1 P) 282 d_operand_init (B2 d_operand_init) := ⟨_, _, _, _, rfl, by kernel_rfl, by kernel_rfl, by kernel_rfl, by kernel_rfl, by kernel_rfl, by kernel_rfl, fun a b => by kernel_rfl⟩
theorem plain_operand_init : PlainF d_operand_init 2 := ⟨by kernel_rfl, by kernel_rfl, by kernel_rfl, by kernel_rfl, by decide +kernel, by decide +kernel, by decide +kernel⟩
theorem fa_operand_init (pr : Program) (w : World) (hb : Heap) (mg mb : Str → Option Value) (p : Addr) : FnAt (cx pr w hb mg mb p) 282 d_operand_init [] := fnAt2 (seen_operand_init _) plain_operand_init
noncomputable def d_reg_init : FD := fdOf (methAt 33 0)
theorem seen_reg_init (P : Params) : SeenF (Mine.hd.heap_1 P) 324 d_reg_init (B2 d_reg_init) := ⟨_, _, _, _, rfl, by kernel_rfl, by kernel_rfl, by kernel_rfl, by kernel_rfl, by kernel_rfl, by kernel_rfl, fun a b => by kernel_rfl⟩
theorem plain_reg_init : PlainF d_reg_init 2 := ⟨by kernel_rfl, by kernel_rfl, by kernel_rfl, by kernel_rfl, by decide +kernel, by decide +kernel, by decide +kernel⟩
theorem fa_reg_init (pr : Program) (w : World) (hb : Heap) (mg mb : Str → Option Value) (p : Addr) : FnAt (cx pr w hb mg mb p) 324 d_reg_init [] := fnAt2 (seen_reg_init _) plain_reg_init
noncomputable def d_register_init : FD := fdOf (methAt 45 0)
theorem seen_register_init (P : Params) : SeenF (Mine.hd.heap_1 P) 540 d_register_init (B5 d_register_init) := ⟨_, _, _, _, rfl, by kernel_rfl, by kernel_rfl, by kernel_rfl, by kernel_rfl, by kernel_rfl, by kernel_rfl, fun a b c e f => by kernel_rfl⟩
theorem plain_register_init : PlainF d_register_init 5 := ⟨by kernel_rfl, by kernel_rfl, by kernel_rfl, by kernel_rfl, by decide +kernel, by decide +kernel, by decide +kernel⟩
theorem fa_register_init (pr : Program) (w : World) (hb : Heap) (mg mb : Str → Option Value) (p : Addr) : FnAt (cx pr w hb mg mb p) 540 d_register_init [] := fnAt5 (seen_register_init _) plain_register_init
noncomputable def d_register_told : FD := fdOf (methAt 45 5)
theorem seen_register_told (P : Params) : SeenF (Mine.hd.heap_1 P) 575 d_register_told (B1 d_register_told) := ⟨_, _, _, _, rfl, by kernel_rfl, by kernel_rfl, by kernel_rfl, by kernel_rfl, by kernel_rfl, by kernel_rfl, fun a => by kernel_rfl⟩
theorem plain_register_told : PlainF d_register_told 1 := ⟨by kernel_rfl, by kernel_rfl, by kernel_rfl, by kernel_rfl, by decide +kernel, by decide +kernel, by decide +kernel⟩
theorem fa_register_told (pr : Program) (w : World) (hb : Heap) (mg mb : Str → Option Value) (p : Addr) : FnAt (cx pr w hb mg mb p) 575 d_register_told [] := fnAt1 (seen_register_told _) plain_register_told
end Mine

namespace Mine

/-- a function that fills in defaults: n values given, D filled -/
noncomputable def DefF (K : Frag) (d : FD) (n : Nat) (D : List PV) (mk : List Value → List Value) (fd : FuncData) : Prop := ∃ T o items k ds, fd.defaults = .ref T ∧ K.lookup T = some o ∧ o.data = .seq items k ∧ (∀ (c : Cx) g, RelL c g ds D) ∧
  ∀ vs : List Value, vs.length = n → ∃ kk, bindArgs fd ⟨vs, []⟩ = seqItems? fd.defaults >>= kk ∧ kk (some items) = pure (d.params.zip (vs ++ ds))
noncomputable def PlainD (d : FD) (n m : Nat) : Prop := d.params.length = n + m ∧ d.sc.kind = .function ∧ d.sc.isCoroutine = false ∧ d.sc.isGenerator = false ∧ (∀ x ∈ d.params, d.sc.names.lookup x = some .local) ∧ d.params.Nodup ∧ (∀ x ∈ d.sc.names, x.2 ≠ .cell)
theorem fnAtD {c : Cx} {f : Addr} {d : FD} {n : Nat} {D : List PV} {mk : List Value → List Value} (h : SeenF c.K f d (DefF c.K d n D mk)) (p : PlainD d n D.length) : FnAt c f d D := by
  obtain ⟨oc, od, fd, osl, h1, h2, h3, h4, h5, h6, h7, T, o, items, k, ds, b1, b2, b3, b4, b5⟩ := h
  obtain ⟨p0, p1, p2, p3, p4, p5, p6⟩ := p
  refine ⟨⟨oc, od, fd, osl, h1, h2, h3, h4, h5, h6, h7, fun s vs X hl => ⟨ds, ?_, fun g _ => b4 c g⟩⟩, p1, p2, p3, p4, p5, p6⟩
  obtain ⟨kk, q1, q2⟩ := b5 vs (by omega)
  exact BindsTo.of_defaults b1 (X _ _ b2) b3 q1 q2

noncomputable def d_form_init : FD := fdOf (methAt 27 0)
noncomputable def d_imm_init : FD := fdOf (methAt 34 0)
noncomputable def d_rel_init : FD := fdOf (methAt 35 0)
noncomputable def d_mem_init : FD := fdOf (methAt 36 0)
noncomputable def d_instruction_init : FD := fdOf (methAt 37 0)
theorem seen_imm_init (P : Params) : SeenF (Mine.hd.heap_1 P) 358 d_imm_init (DefF (Mine.hd.heap_1 P) d_imm_init 3 [] id) :=
  ⟨_, _, _, _, rfl, by kernel_rfl, by kernel_rfl, by kernel_rfl, by kernel_rfl, by kernel_rfl, by kernel_rfl, _, _, _, _, [], rfl, rfl, rfl, fun _ _ => .nil, fun vs hl => by
    obtain ⟨a, b, e, rfl⟩ := len3 hl
    exact ⟨_, rfl, by kernel_rfl⟩⟩
theorem seen_rel_init (P : Params) : SeenF (Mine.hd.heap_1 P) 392 d_rel_init (DefF (Mine.hd.heap_1 P) d_rel_init 3 [] id) :=
  ⟨_, _, _, _, rfl, by kernel_rfl, by kernel_rfl, by kernel_rfl, by kernel_rfl, by kernel_rfl, by kernel_rfl, _, _, _, _, [], rfl, rfl, rfl, fun _ _ => .nil, fun vs hl => by
    obtain ⟨a, b, e, rfl⟩ := len3 hl
    exact ⟨_, rfl, by kernel_rfl⟩⟩
noncomputable def S (s : String) : Str := Str.ofString s
theorem seen_form_init7 (P : Params) : SeenF (Mine.hd.heap_1 P) 200 d_form_init (DefF (Mine.hd.heap_1 P) d_form_init 7 [.int 0, .bool false] id) :=
  ⟨_, _, _, _, rfl, by kernel_rfl, by kernel_rfl, by kernel_rfl, by kernel_rfl, by kernel_rfl, by kernel_rfl, _, _, _, _, [.int 0 415, .bool false], rfl, rfl, rfl, fun _ _ => .cons (.int 0 _) (.cons (.bool false) .nil), fun vs hl => by
    obtain ⟨a, b, e, f, g, h, i, rfl⟩ := len7 hl
    exact ⟨_, rfl, by kernel_rfl⟩⟩
theorem seen_form_init4 (P : Params) : SeenF (Mine.hd.heap_1 P) 200 d_form_init (DefF (Mine.hd.heap_1 P) d_form_init 4 [.int 0, .int (-1), .int 0, .int 0, .bool false] id) :=
  ⟨_, _, _, _, rfl, by kernel_rfl, by kernel_rfl, by kernel_rfl, by kernel_rfl, by kernel_rfl, by kernel_rfl, _, _, _, _, [.int 0 411, .int (-1) 413, .int 0 414, .int 0 415, .bool false], rfl, rfl, rfl, fun _ _ => .cons (.int 0 _) (.cons (.int (-1) _) (.cons (.int 0 _) (.cons (.int 0 _) (.cons (.bool false) .nil)))), fun vs hl => by
    obtain ⟨a, b, e, f, rfl⟩ := len4 hl
    exact ⟨_, rfl, by kernel_rfl⟩⟩
theorem seen_mem_init (P : Params) : SeenF (Mine.hd.heap_1 P) 433 d_mem_init (DefF (Mine.hd.heap_1 P) d_mem_init 6 [.str (S ""), .str (S "")] id) :=
  ⟨_, _, _, _, rfl, by kernel_rfl, by kernel_rfl, by kernel_rfl, by kernel_rfl, by kernel_rfl, by kernel_rfl, _, _, _, _, [.str (S "") 702, .str (S "") 703], rfl, rfl, rfl, fun _ _ => .cons (.str _ _) (.cons (.str _ _) .nil), fun vs hl => by
    obtain ⟨a, b, e, f, g, h, rfl⟩ := len6 hl
    exact ⟨_, rfl, by kernel_rfl⟩⟩
theorem seen_instruction_init (P : Params) : SeenF (Mine.hd.heap_1 P) 486 d_instruction_init (DefF (Mine.hd.heap_1 P) d_instruction_init 3 [.str (S "")] id) :=
  ⟨_, _, _, _, rfl, by kernel_rfl, by kernel_rfl, by kernel_rfl, by kernel_rfl, by kernel_rfl, by kernel_rfl, _, _, _, _, [.str (S "") 777], rfl, rfl, rfl, fun _ _ => .cons (.str _ _) .nil, fun vs hl => by
    obtain ⟨a, b, e, rfl⟩ := len3 hl
    exact ⟨_, rfl, by kernel_rfl⟩⟩
section
variable (pr : Program) (w : World) (hb : Heap) (mg mb : Str → Option Value) (p : Addr)
theorem fa_imm_init : FnAt (cx pr w hb mg mb p) 358 d_imm_init [] := fnAtD (seen_imm_init _) ⟨by kernel_rfl, by kernel_rfl, by kernel_rfl, by kernel_rfl, by decide +kernel, by decide +kernel, by decide +kernel⟩
theorem fa_rel_init : FnAt (cx pr w hb mg mb p) 392 d_rel_init [] := fnAtD (seen_rel_init _) ⟨by kernel_rfl, by kernel_rfl, by kernel_rfl, by kernel_rfl, by decide +kernel, by decide +kernel, by decide +kernel⟩
theorem fa_form_init7 : FnAt (cx pr w hb mg mb p) 200 d_form_init [.int 0, .bool false] := fnAtD (seen_form_init7 _) ⟨by kernel_rfl, by kernel_rfl, by kernel_rfl, by kernel_rfl, by decide +kernel, by decide +kernel, by decide +kernel⟩
theorem fa_form_init4 : FnAt (cx pr w hb mg mb p) 200 d_form_init [.int 0, .int (-1), .int 0, .int 0, .bool false] := fnAtD (seen_form_init4 _) ⟨by kernel_rfl, by kernel_rfl, by kernel_rfl, by kernel_rfl, by decide +kernel, by decide +kernel, by decide +kernel⟩
theorem fa_mem_init : FnAt (cx pr w hb mg mb p) 433 d_mem_init [.str (S ""), .str (S "")] := fnAtD (seen_mem_init _) ⟨by kernel_rfl, by kernel_rfl, by kernel_rfl, by kernel_rfl, by decide +kernel, by decide +kernel, by decide +kernel⟩
theorem fa_instruction_init : FnAt (cx pr w hb mg mb p) 486 d_instruction_init [.str (S "")] := fnAtD (seen_instruction_init _) ⟨by kernel_rfl, by kernel_rfl, by kernel_rfl, by kernel_rfl, by decide +kernel, by decide +kernel, by decide +kernel⟩
end
/-! functions with cells -/
noncomputable def d_law_lets : FD := fdOf (topAt 60)
noncomputable def d_law : FD := fdOf (topAt 63)
noncomputable def PlainC (d : FD) (n : Nat) : Prop := d.params.length = n ∧ d.sc.kind = .function ∧ d.sc.isCoroutine = false ∧ d.sc.isGenerator = false ∧ (∀ x ∈ d.params, d.sc.names.lookup x = some .local ∨ d.sc.names.lookup x = some .cell) ∧ d.params.Nodup
theorem fnCell_of {c : Cx} {f : Addr} {d : FD} {n : Nat} (B : FuncData → Prop) (h : SeenF c.K f d B) (hB : ∀ fd, B fd → ∀ vs : List Value, vs.length = n → bindArgs fd ⟨vs, []⟩ = pure (d.params.zip vs)) (p : PlainC d n) : FnCell c f d := by
  obtain ⟨oc, od, fd, osl, h1, h2, h3, h4, h5, h6, h7, h8⟩ := h
  obtain ⟨p0, p1, p2, p3, p4, p5⟩ := p
  exact ⟨⟨oc, od, fd, osl, h1, h2, h3, h4, h5, h6, h7, fun vs hl => hB fd h8 vs (by omega)⟩, p1, p2, p3, p4, p5⟩
theorem seen_law_lets (P : Params) : SeenF (Mine.hd.heap_1 P) 669 d_law_lets (B3 d_law_lets) := ⟨_, _, _, _, rfl, by kernel_rfl, by kernel_rfl, by kernel_rfl, by kernel_rfl, by kernel_rfl, by kernel_rfl, fun a b c => by kernel_rfl⟩
theorem seen_law (P : Params) : SeenF (Mine.hd.heap_1 P) 686 d_law (B1 d_law) := ⟨_, _, _, _, rfl, by kernel_rfl, by kernel_rfl, by kernel_rfl, by kernel_rfl, by kernel_rfl, by kernel_rfl, fun a => by kernel_rfl⟩
theorem fc_law_lets (pr : Program) (w : World) (hb : Heap) (mg mb : Str → Option Value) (p : Addr) : FnCell (cx pr w hb mg mb p) 669 d_law_lets := fnCell_of (n := 3) _ (seen_law_lets _) (fun fd hb vs hl => by
  obtain ⟨a, b, e, rfl⟩ := len3 hl
  exact hb a b e) ⟨by kernel_rfl, by kernel_rfl, by kernel_rfl, by kernel_rfl, by decide +kernel, by decide +kernel⟩
theorem fc_law (pr : Program) (w : World) (hb : Heap) (mg mb : Str → Option Value) (p : Addr) : FnCell (cx pr w hb mg mb p) 686 d_law := fnCell_of (n := 1) _ (seen_law _) (fun fd hb vs hl => by
  obtain ⟨a, rfl⟩ := len1 hl
  exact hb a) ⟨by kernel_rfl, by kernel_rfl, by kernel_rfl, by kernel_rfl, by decide +kernel, by decide +kernel⟩
end Mine

namespace Mine

noncomputable def attL : List (Addr × Str × Unit) :=
  [(243, S "name", ()), (243, S "kinds", ()), (243, S "opcode", ()), (243, S "escape", ()), (243, S "digit", ()), (243, S "size", ()), (243, S "must", ()), (243, S "is_wide", ()), (243, S "number", ()), (243, S "places", ()),
   (341, S "kind", ()), (341, S "register", ()), (375, S "kind", ()), (375, S "worth", ()), (375, S "name", ()), (416, S "kind", ()), (416, S "worth", ()), (416, S "name", ()),
   (469, S "kind", ()), (469, S "base", ()), (469, S "index", ()), (469, S "scale", ()), (469, S "worth", ()), (469, S "size", ()), (469, S "segment", ()), (469, S "name", ()),
   (522, S "name", ()), (522, S "operands", ()), (522, S "prefix", ()), (578, S "name", ()), (578, S "kind", ()), (578, S "number", ()), (578, S "size", ())]
noncomputable def attOk (K : Frag) (C : Addr) (x : Str) : Bool := plainGet K C x && hasDictIn K C && (match findIn K (.ref C) x with | some attr => noGet K attr | none => false) && takerIn K C x == some none && plainOver K C && findIn K (.ref C) "__setattr__" == some (some (.builtin "object.__setattr__"))
theorem att_all (P : Params) : (attL.all fun p => attOk (Mine.hd.heap_1 P) p.1 p.2.1) = true := by kernel_rfl
theorem lookM_mem {α : Type} {a : Addr} {x : Str} {v : α} : ∀ {l : List (Addr × Str × α)}, lookM a x l = some v → (a, x, v) ∈ l
  | [], e => by cases e
  | (b, y, w) :: r, e => by
    unfold lookM at e
    split at e
    · rename_i hb
      have hb := Nat.eq_of_beq_eq_true hb
      split at e
      · rename_i hy
        have hy := strEq_iff.mp hy
        cases e
        subst hb hy
        exact List.mem_cons_self ..
      · exact List.mem_cons_of_mem _ (lookM_mem e)
    · exact List.mem_cons_of_mem _ (lookM_mem e)
theorem lookN_mem {α : Type} {a : Addr} {v : α} : ∀ {l : List (Addr × α)}, lookN a l = some v → (a, v) ∈ l
  | [], e => by cases e
  | (b, w) :: r, e => by
    unfold lookN at e
    split at e
    · rename_i hb
      have hb := Nat.eq_of_beq_eq_true hb
      cases e
      subst hb
      exact List.mem_cons_self ..
    · exact List.mem_cons_of_mem _ (lookN_mem e)

/-- a name of the program's globals -/
noncomputable def globOk (K : Frag) (x : Str) (v : PV) : Bool := match v with
  | .raw u => (nsIn K mainGlobals x == some (some u)) || (nsIn K mainGlobals x == some none && bootBuiltins x == some u && !strEq x "__name__")
  | .str s => (match nsIn K mainGlobals x with
    | some (some (.str s' _)) => strEq s' s
    | _ => false)
  | _ => false
noncomputable def globsOk (K : Frag) (l : List (Str × PV)) : Bool := l.all fun p => globOk K p.1 p.2
theorem glob_of {c : Cx} (C : c.Ok) {l : List (Str × PV)} (h : globsOk c.K l = true) (x : Str) (v : PV) (e : look x l = some v) : ∃ u, (c.mg x = some u ∨ (c.mg x = none ∧ c.mb x = some u)) ∧ Rel c c.hb.get? u v := by
  have h := List.all_eq_true.mp h _ (look_mem e)
  unfold globOk at h
  split at h
  · rename_i u hv
    dsimp only at hv h
    subst hv
    rw [Bool.or_eq_true] at h
    rcases h with h | h
    · exact ⟨u, .inl (mg_of C.K C.g (beq_iff_eq.mp h)), .raw u⟩
    · simp only [Bool.and_eq_true] at h
      obtain ⟨⟨h1, h2⟩, h3⟩ := h
      have hn : x ≠ "__name__" := fun q => by rw [strEq_iff.mpr q] at h3; cases h3
      exact ⟨u, .inr ⟨mg_none_of C.K C.g (beq_iff_eq.mp h1), (C.boot x hn).trans (beq_iff_eq.mp h2)⟩, .raw u⟩
  · rename_i s hv
    dsimp only at hv h
    subst hv
    split at h
    · rename_i s' t hs
      have := strEq_iff.mp h
      subst this
      exact ⟨_, .inl (mg_of C.K C.g hs), .str _ _⟩
    · cases h
  · cases h

section
variable {c : Cx} {P : PenS → Prop} {n m : Nat}
noncomputable def FnIn (c : Cx) (P : PenS → Prop) (n : Nat) (p : Addr × (List PV → T PV)) : Prop := keepIn c.K (.ref p.1) = true ∧ FnOk c P n (.ref p.1) p.2
noncomputable def ClsIn (c : Cx) (P : PenS → Prop) (n : Nat) (p : Addr × (List PV → T (List (Str × PV)))) : Prop := keepIn c.K (.ref p.1) = true ∧ FnOk c P n (.ref p.1) fun l => (p.2 l).bind fun fs => .ret (.obj p.1 fs)
noncomputable def MethIn (c : Cx) (P : PenS → Prop) (n : Nat) (p : Addr × Str × (List PV → T PV)) : Prop := ∃ f, keepIn c.K (.ref f) = true ∧ isFn c.K (.ref f) = true ∧ plainGet c.K p.1 p.2.1 = true ∧ findIn c.K (.ref p.1) p.2.1 = some (some (.ref f)) ∧ FnOk c P n (.ref f) p.2.2
noncomputable def IniIn (c : Cx) (P : PenS → Prop) (n : Nat) (p : Addr × (Addr → List PV → List (Str × PV) → T (List (Str × PV)))) : Prop :=
  ∃ f mc, keepIn c.K (.ref f) = true ∧ specialIn c.K (.ref p.1) "__getattribute__" = some (some (.builtin "type.__getattribute__")) ∧ readsIn c.K p.1 mc = true ∧ findCls c.K (.ref p.1) mc "__init__" = some (.val (.ref f)) ∧ handedIn (.ref f) = true ∧
    ∀ (sf : Slf) (A : Around) (σ : Sg) (fs : List (Str × PV)) (g : Frz) (b : Nat) (s : Shared) (vs : List Value) (l : List PV), Room A n → P σ.pen → σ.slf = some fs → Inv c sf g σ b s.heap → RelL c g vs l →
      ∀ (Q : Value → Shared → Prop) (E : Value → Shared → Prop) (post : Nat → List (Str × PV) → Prop), Sat b (p.2 σ.cl l fs) post →
        (∀ fs' b' g' h' tk, post b' fs' → Ext (fun a => Wp σ.pen c.p a ∨ a = sf.dx) g s.heap g' h' → Inv c sf g' { σ with slf := some fs' } b' h' → Q .none { s with heap := h', toks := tk }) →
        wpAny (model c.prog c.w) A (call (.ref f) (.ref sf.x :: vs)) Q E s
theorem FnOk.up {P' : PenS → Prop} {f : Value} {F : List PV → T PV} (h : FnOk c P n f F) (hm : n ≤ m) (hp : ∀ p, P' p → P p) : FnOk c P' m f F := fun sf A σ g b s vs l R pm I hl => h sf A σ g b s vs l (R.le hm) (hp _ pm) I hl
/-- a simpler function in its stead -/
theorem FnOk.ref {f : Value} {F F' : List PV → T PV} (h : FnOk c P n f F) (hr : ∀ l b post, Sat b (F' l) post → Sat b (F l) post) : FnOk c P n f F' := fun sf A σ g b s vs l R pm I hl Q E post hs hq => h sf A σ g b s vs l R pm I hl Q E post (hr _ _ _ hs) hq
theorem tab_ok {glob : List (Str × PV)} {fn : List (Addr × (List PV → T PV))} {cls : List (Addr × (List PV → T (List (Str × PV))))} {ini : List (Addr × (Addr → List PV → List (Str × PV) → T (List (Str × PV))))} {meth : List (Addr × Str × (List PV → T PV))} {att : List (Addr × Str × Unit)}
    (C : c.Ok) (h1 : globsOk c.K glob = true) (h2 : ∀ p ∈ fn, FnIn c P n p) (h3 : ∀ p ∈ cls, ClsIn c P n p) (h4 : ∀ p ∈ ini, IniIn c P n p) (h5 : ∀ p ∈ meth, MethIn c P n p) (h6 : (att.all fun p => attOk c.K p.1 p.2.1) = true)
    (h7 : keepIn c.K (.ref 638) = true) (h8 : ∀ (sf : Slf) (A : Around) (σ : Sg) (g : Frz) (b : Nat) (s : Shared) (m : Int) (t : Tok), Room A n → P σ.pen → σ.pen = .any → Inv c sf g σ b s.heap →
      At c sf A σ (Rel c) (call (.ref 638) [.ref c.p, .int m t]) (ok1 (decide (0 < m)) (ok1 (decide (m ≤ 1000)) (.next m fun i => .ret (.int i)))) g b s) :
    TabOk c P n ⟨glob, fn, cls, ini, meth, att, 638⟩ where
  glob := glob_of C h1
  fn := fun a F e => h2 _ (lookN_mem e)
  cls := fun a F e => h3 _ (lookN_mem e)
  meth := fun C x F e => h5 _ (lookM_mem e)
  ini := fun a F e => h4 _ (lookN_mem e)
  att := fun C x e => by
    cases q : lookM C x att with
    | none => rw [q] at e; cases e
    | some u =>
      have h := List.all_eq_true.mp h6 _ (lookM_mem q)
      unfold attOk at h
      simp only [Bool.and_eq_true] at h
      obtain ⟨⟨⟨⟨⟨a1, a2⟩, a3⟩, a4⟩, a5⟩, a6⟩ := h
      refine ⟨a1, a2, ?_, beq_iff_eq.mp a4, a5, beq_iff_eq.mp a6⟩
      split at a3
      · exact ⟨_, by assumption, a3⟩
      · cases a3
  nxt := ⟨h7, h8⟩
/-- a table for functions that have nothing to do with the pen -/
theorem tab_off {glob : List (Str × PV)} {fn : List (Addr × (List PV → T PV))} {cls : List (Addr × (List PV → T (List (Str × PV))))} {ini : List (Addr × (Addr → List PV → List (Str × PV) → T (List (Str × PV))))} {meth : List (Addr × Str × (List PV → T PV))} {att : List (Addr × Str × Unit)}
    (C : c.Ok) (h1 : globsOk c.K glob = true) (h2 : ∀ p ∈ fn, FnIn c (fun _ => True) n p) (h3 : ∀ p ∈ cls, ClsIn c (fun _ => True) n p) (h4 : ∀ p ∈ ini, IniIn c (· = .off) n p) (h5 : ∀ p ∈ meth, MethIn c (fun _ => True) n p) (h6 : (att.all fun p => attOk c.K p.1 p.2.1) = true)
    (h7 : keepIn c.K (.ref 638) = true) : TabOk c (· = .off) n ⟨glob, fn, cls, ini, meth, att, 638⟩ :=
  tab_ok C h1 (fun p hp => ⟨(h2 p hp).1, (h2 p hp).2.up (Nat.le_refl _) fun _ _ => trivial⟩) (fun p hp => ⟨(h3 p hp).1, (h3 p hp).2.up (Nat.le_refl _) fun _ _ => trivial⟩) h4
    (fun p hp => by obtain ⟨f, a1, a2, a3, a4, a5⟩ := h5 p hp; exact ⟨f, a1, a2, a3, a4, a5.up (Nat.le_refl _) fun _ _ => trivial⟩) h6 h7 (fun sf A σ g b s m t R e1 e2 I => by rw [e1] at e2; cases e2)
end
end Mine

namespace Mine

/-- a tree with no draws, run -/
noncomputable def runT {α : Type} (t : T α) : Option α := T.rec (motive := fun _ => Option α) (fun a => some a) none (fun _ _ _ => none) (fun b _ _ x y => match b with | true => x | false => y) (fun o _ k => match o with | some v => k v | none => none) t
theorem no_mem {α : Type} {p : α → Prop} : ∀ q ∈ ([] : List α), p q := fun q h => by cases h
theorem runT_sat {α : Type} {t : T α} : ∀ {a : α} {b : Nat} {post : Nat → α → Prop}, runT t = some a → post b a → Sat b t post := by
  induction t with
  | ret a => intro a' b post e h; cases e; exact sat_ret.mpr h
  | fail => intro a' b post e h; cases e
  | next m k ih => intro a' b post e h; cases e
  | br c x y ix iy =>
    intro a' b post e h
    refine sat_br.mpr ⟨fun hc => ?_, fun hc => ?_⟩
    · subst hc; exact ix e h
    · subst hc; exact iy e h
  | need o k ih =>
    intro a' b post e h
    cases o with
    | none => cases e
    | some v => exact sat_need.mpr ⟨v, rfl, ih v e h⟩
noncomputable def tabF (tbl : List (Str × PV)) (l : List PV) : T PV := match l with
  | [x] => match x with
    | .str k => .need (look k tbl) .ret
    | _ => .fail
  | _ => .fail
theorem ref_tab {tbl : List (Str × PV)} {F : List PV → T PV} (h : tbl.map (fun p => runT (F [.str p.1])) = tbl.map fun p => some p.2) (l : List PV) (b : Nat) (post : Nat → PV → Prop) (hs : Sat b (tabF tbl l) post) : Sat b (F l) post := by
  unfold tabF at hs
  split at hs
  · split at hs
    · obtain ⟨v, e, hs⟩ := sat_need.mp hs
      have hm := look_mem e
      obtain ⟨i, hi, he⟩ := List.getElem_of_mem hm
      have q : (tbl.map fun p => runT (F [.str p.1]))[i]? = (tbl.map fun p => some p.2)[i]? := by rw [h]
      rw [List.getElem?_map, List.getElem?_map, List.getElem?_eq_getElem hi, he] at q
      exact runT_sat (Option.some.inj q) (sat_ret.mp hs)
    · exact (sat_fail.mp hs).elim
  · exact (sat_fail.mp hs).elim
noncomputable def fnv (a : Addr) : PV := .raw (.ref a)
noncomputable def tyv (t : String) : PV := .raw (.type t)
noncomputable def biv (t : String) : PV := .raw (.builtin t)

noncomputable def kindsL : List Str := [S "al", S "ax", S "eax", S "rax", S "cl", S "dx", S "one", S "r8", S "r16", S "r32", S "r64", S "rm8", S "rm16", S "rm32", S "rm64", S "o8", S "o16", S "o32", S "o64", S "m", S "m8", S "m64", S "m128", S "x", S "xm32", S "xm64", S "xm128", S "imm8", S "imm16", S "imm32", S "imm64", S "uimm8", S "uimm16", S "simm8", S "simm32", S "rel8", S "rel32"]
noncomputable def t_is_fixed : List (Str × PV) := [(S "al", .bool true), (S "ax", .bool true), (S "eax", .bool true), (S "rax", .bool true), (S "cl", .bool true), (S "dx", .bool true), (S "one", .bool false), (S "r8", .bool false), (S "r16", .bool false), (S "r32", .bool false), (S "r64", .bool false), (S "rm8", .bool false), (S "rm16", .bool false), (S "rm32", .bool false), (S "rm64", .bool false), (S "o8", .bool false), (S "o16", .bool false), (S "o32", .bool false), (S "o64", .bool false), (S "m", .bool false), (S "m8", .bool false), (S "m64", .bool false), (S "m128", .bool false), (S "x", .bool false), (S "xm32", .bool false), (S "xm64", .bool false), (S "xm128", .bool false), (S "imm8", .bool false), (S "imm16", .bool false), (S "imm32", .bool false), (S "imm64", .bool false), (S "uimm8", .bool false), (S "uimm16", .bool false), (S "simm8", .bool false), (S "simm32", .bool false), (S "rel8", .bool false), (S "rel32", .bool false)]
noncomputable def g_is_fixed : Tab := ⟨[], [], [], [], [], [], 638⟩
theorem k_is_fixed : t_is_fixed.map (fun p => runT (runF g_is_fixed 60 .off d_is_fixed [] [.str p.1])) = t_is_fixed.map fun p => some p.2 := by kernel_rfl
noncomputable def t_is_immediate : List (Str × PV) := [(S "al", .bool false), (S "ax", .bool false), (S "eax", .bool false), (S "rax", .bool false), (S "cl", .bool false), (S "dx", .bool false), (S "one", .bool false), (S "r8", .bool false), (S "r16", .bool false), (S "r32", .bool false), (S "r64", .bool false), (S "rm8", .bool false), (S "rm16", .bool false), (S "rm32", .bool false), (S "rm64", .bool false), (S "o8", .bool false), (S "o16", .bool false), (S "o32", .bool false), (S "o64", .bool false), (S "m", .bool false), (S "m8", .bool false), (S "m64", .bool false), (S "m128", .bool false), (S "x", .bool false), (S "xm32", .bool false), (S "xm64", .bool false), (S "xm128", .bool false), (S "imm8", .bool true), (S "imm16", .bool true), (S "imm32", .bool true), (S "imm64", .bool true), (S "uimm8", .bool true), (S "uimm16", .bool true), (S "simm8", .bool true), (S "simm32", .bool true), (S "rel8", .bool false), (S "rel32", .bool false)]
noncomputable def g_is_immediate : Tab := ⟨[], [], [], [], [], [], 638⟩
theorem k_is_immediate : t_is_immediate.map (fun p => runT (runF g_is_immediate 60 .off d_is_immediate [] [.str p.1])) = t_is_immediate.map fun p => some p.2 := by kernel_rfl
noncomputable def t_is_relative : List (Str × PV) := [(S "al", .bool false), (S "ax", .bool false), (S "eax", .bool false), (S "rax", .bool false), (S "cl", .bool false), (S "dx", .bool false), (S "one", .bool false), (S "r8", .bool false), (S "r16", .bool false), (S "r32", .bool false), (S "r64", .bool false), (S "rm8", .bool false), (S "rm16", .bool false), (S "rm32", .bool false), (S "rm64", .bool false), (S "o8", .bool false), (S "o16", .bool false), (S "o32", .bool false), (S "o64", .bool false), (S "m", .bool false), (S "m8", .bool false), (S "m64", .bool false), (S "m128", .bool false), (S "x", .bool false), (S "xm32", .bool false), (S "xm64", .bool false), (S "xm128", .bool false), (S "imm8", .bool false), (S "imm16", .bool false), (S "imm32", .bool false), (S "imm64", .bool false), (S "uimm8", .bool false), (S "uimm16", .bool false), (S "simm8", .bool false), (S "simm32", .bool false), (S "rel8", .bool true), (S "rel32", .bool true)]
noncomputable def g_is_relative : Tab := ⟨[], [], [], [], [], [], 638⟩
theorem k_is_relative : t_is_relative.map (fun p => runT (runF g_is_relative 60 .off d_is_relative [] [.str p.1])) = t_is_relative.map fun p => some p.2 := by kernel_rfl
noncomputable def t_takes_memory : List (Str × PV) := [(S "al", .bool false), (S "ax", .bool false), (S "eax", .bool false), (S "rax", .bool false), (S "cl", .bool false), (S "dx", .bool false), (S "one", .bool false), (S "r8", .bool false), (S "r16", .bool false), (S "r32", .bool false), (S "r64", .bool false), (S "rm8", .bool true), (S "rm16", .bool true), (S "rm32", .bool true), (S "rm64", .bool true), (S "o8", .bool false), (S "o16", .bool false), (S "o32", .bool false), (S "o64", .bool false), (S "m", .bool true), (S "m8", .bool true), (S "m64", .bool true), (S "m128", .bool true), (S "x", .bool false), (S "xm32", .bool true), (S "xm64", .bool true), (S "xm128", .bool true), (S "imm8", .bool false), (S "imm16", .bool false), (S "imm32", .bool false), (S "imm64", .bool false), (S "uimm8", .bool false), (S "uimm16", .bool false), (S "simm8", .bool false), (S "simm32", .bool false), (S "rel8", .bool false), (S "rel32", .bool false)]
noncomputable def g_takes_memory : Tab := ⟨[], [], [], [], [], [], 638⟩
theorem k_takes_memory : t_takes_memory.map (fun p => runT (runF g_takes_memory 60 .off d_takes_memory [] [.str p.1])) = t_takes_memory.map fun p => some p.2 := by kernel_rfl
noncomputable def t_kind_size : List (Str × PV) := [(S "al", .int 8), (S "ax", .int 16), (S "eax", .int 32), (S "rax", .int 64), (S "cl", .int 8), (S "dx", .int 16), (S "one", .int 0), (S "r8", .int 8), (S "r16", .int 16), (S "r32", .int 32), (S "r64", .int 64), (S "rm8", .int 8), (S "rm16", .int 16), (S "rm32", .int 32), (S "rm64", .int 64), (S "o8", .int 8), (S "o16", .int 16), (S "o32", .int 32), (S "o64", .int 64), (S "m", .int 0), (S "m8", .int 8), (S "m64", .int 64), (S "m128", .int 128), (S "x", .int 128), (S "xm32", .int 32), (S "xm64", .int 64), (S "xm128", .int 128), (S "imm8", .int 0), (S "imm16", .int 0), (S "imm32", .int 0), (S "imm64", .int 0), (S "uimm8", .int 0), (S "uimm16", .int 0), (S "simm8", .int 0), (S "simm32", .int 0), (S "rel8", .int 0), (S "rel32", .int 0)]
noncomputable def g_kind_size : Tab := ⟨[(S "is_immediate", fnv 124), (S "is_relative", fnv 131), (S "is_fixed", fnv 117), (S "int", tyv "int")], [(117, tabF t_is_fixed), (124, tabF t_is_immediate), (131, tabF t_is_relative)], [], [], [], [], 638⟩
theorem k_kind_size : t_kind_size.map (fun p => runT (runF g_kind_size 60 .off d_kind_size [] [.str p.1])) = t_kind_size.map fun p => some p.2 := by kernel_rfl
noncomputable def t_kind_width : List (Str × PV) := [(S "al", .int 0), (S "ax", .int 0), (S "eax", .int 0), (S "rax", .int 0), (S "cl", .int 0), (S "dx", .int 0), (S "one", .int 0), (S "r8", .int 0), (S "r16", .int 0), (S "r32", .int 0), (S "r64", .int 0), (S "rm8", .int 0), (S "rm16", .int 0), (S "rm32", .int 0), (S "rm64", .int 0), (S "o8", .int 0), (S "o16", .int 0), (S "o32", .int 0), (S "o64", .int 0), (S "m", .int 0), (S "m8", .int 0), (S "m64", .int 0), (S "m128", .int 0), (S "x", .int 0), (S "xm32", .int 0), (S "xm64", .int 0), (S "xm128", .int 0), (S "imm8", .int 1), (S "imm16", .int 2), (S "imm32", .int 4), (S "imm64", .int 8), (S "uimm8", .int 1), (S "uimm16", .int 2), (S "simm8", .int 1), (S "simm32", .int 4), (S "rel8", .int 1), (S "rel32", .int 4)]
noncomputable def g_kind_width : Tab := ⟨[(S "is_immediate", fnv 124), (S "is_relative", fnv 131), (S "int", tyv "int")], [(124, tabF t_is_immediate), (131, tabF t_is_relative)], [], [], [], [], 638⟩
theorem k_kind_width : t_kind_width.map (fun p => runT (runF g_kind_width 60 .off d_kind_width [] [.str p.1])) = t_kind_width.map fun p => some p.2 := by kernel_rfl
noncomputable def t_slot_of : List (Str × PV) := [(S "al", .str (S "fixed")), (S "ax", .str (S "fixed")), (S "eax", .str (S "fixed")), (S "rax", .str (S "fixed")), (S "cl", .str (S "fixed")), (S "dx", .str (S "fixed")), (S "one", .str (S "fixed")), (S "r8", .str (S "reg")), (S "r16", .str (S "reg")), (S "r32", .str (S "reg")), (S "r64", .str (S "reg")), (S "rm8", .str (S "rm")), (S "rm16", .str (S "rm")), (S "rm32", .str (S "rm")), (S "rm64", .str (S "rm")), (S "o8", .str (S "plus")), (S "o16", .str (S "plus")), (S "o32", .str (S "plus")), (S "o64", .str (S "plus")), (S "m", .str (S "rm")), (S "m8", .str (S "rm")), (S "m64", .str (S "rm")), (S "m128", .str (S "rm")), (S "x", .str (S "reg")), (S "xm32", .str (S "rm")), (S "xm64", .str (S "rm")), (S "xm128", .str (S "rm")), (S "imm8", .str (S "imm")), (S "imm16", .str (S "imm")), (S "imm32", .str (S "imm")), (S "imm64", .str (S "imm")), (S "uimm8", .str (S "imm")), (S "uimm16", .str (S "imm")), (S "simm8", .str (S "imm")), (S "simm32", .str (S "imm")), (S "rel8", .str (S "rel")), (S "rel32", .str (S "rel"))]
noncomputable def g_slot_of : Tab := ⟨[(S "is_immediate", fnv 124), (S "is_relative", fnv 131), (S "is_fixed", fnv 117), (S "takes_memory", fnv 138)], [(117, tabF t_is_fixed), (124, tabF t_is_immediate), (131, tabF t_is_relative), (138, tabF t_takes_memory)], [], [], [], [], 638⟩
theorem k_slot_of : t_slot_of.map (fun p => runT (runF g_slot_of 60 .off d_slot_of [] [.str p.1])) = t_slot_of.map fun p => some p.2 := by kernel_rfl
noncomputable def t_law_row : List (Str × PV) := [(S "al", .tup [.str (S "fixed"), .int 0, .int 8, .lst [.tup [.str (S "gpr"), .int 8, .int 0]], .bool false]), (S "ax", .tup [.str (S "fixed"), .int 0, .int 16, .lst [.tup [.str (S "gpr"), .int 16, .int 0]], .bool false]), (S "eax", .tup [.str (S "fixed"), .int 0, .int 32, .lst [.tup [.str (S "gpr"), .int 32, .int 0]], .bool false]), (S "rax", .tup [.str (S "fixed"), .int 0, .int 64, .lst [.tup [.str (S "gpr"), .int 64, .int 0]], .bool false]), (S "cl", .tup [.str (S "fixed"), .int 0, .int 8, .lst [.tup [.str (S "gpr"), .int 8, .int 1]], .bool false]), (S "dx", .tup [.str (S "fixed"), .int 0, .int 16, .lst [.tup [.str (S "gpr"), .int 16, .int 2]], .bool false]), (S "one", .tup [.str (S "fixed"), .int 0, .int 0, .lst [], .bool false]), (S "r8", .tup [.str (S "reg"), .int 0, .int 8, .lst [.tup [.str (S "gpr"), .int 8, .int (-1)], .tup [.str (S "high"), .int 8, .int (-1)]], .bool false]), (S "r16", .tup [.str (S "reg"), .int 0, .int 16, .lst [.tup [.str (S "gpr"), .int 16, .int (-1)]], .bool false]), (S "r32", .tup [.str (S "reg"), .int 0, .int 32, .lst [.tup [.str (S "gpr"), .int 32, .int (-1)]], .bool false]), (S "r64", .tup [.str (S "reg"), .int 0, .int 64, .lst [.tup [.str (S "gpr"), .int 64, .int (-1)]], .bool false]), (S "rm8", .tup [.str (S "rm"), .int 0, .int 8, .lst [.tup [.str (S "gpr"), .int 8, .int (-1)], .tup [.str (S "high"), .int 8, .int (-1)]], .bool true]), (S "rm16", .tup [.str (S "rm"), .int 0, .int 16, .lst [.tup [.str (S "gpr"), .int 16, .int (-1)]], .bool true]), (S "rm32", .tup [.str (S "rm"), .int 0, .int 32, .lst [.tup [.str (S "gpr"), .int 32, .int (-1)]], .bool true]), (S "rm64", .tup [.str (S "rm"), .int 0, .int 64, .lst [.tup [.str (S "gpr"), .int 64, .int (-1)]], .bool true]), (S "o8", .tup [.str (S "plus"), .int 0, .int 8, .lst [.tup [.str (S "gpr"), .int 8, .int (-1)], .tup [.str (S "high"), .int 8, .int (-1)]], .bool false]), (S "o16", .tup [.str (S "plus"), .int 0, .int 16, .lst [.tup [.str (S "gpr"), .int 16, .int (-1)]], .bool false]), (S "o32", .tup [.str (S "plus"), .int 0, .int 32, .lst [.tup [.str (S "gpr"), .int 32, .int (-1)]], .bool false]), (S "o64", .tup [.str (S "plus"), .int 0, .int 64, .lst [.tup [.str (S "gpr"), .int 64, .int (-1)]], .bool false]), (S "m", .tup [.str (S "rm"), .int 0, .int 0, .lst [], .bool true]), (S "m8", .tup [.str (S "rm"), .int 0, .int 8, .lst [], .bool true]), (S "m64", .tup [.str (S "rm"), .int 0, .int 64, .lst [], .bool true]), (S "m128", .tup [.str (S "rm"), .int 0, .int 128, .lst [], .bool true]), (S "x", .tup [.str (S "reg"), .int 0, .int 128, .lst [.tup [.str (S "xmm"), .int 128, .int (-1)]], .bool false]), (S "xm32", .tup [.str (S "rm"), .int 0, .int 32, .lst [.tup [.str (S "xmm"), .int 128, .int (-1)]], .bool true]), (S "xm64", .tup [.str (S "rm"), .int 0, .int 64, .lst [.tup [.str (S "xmm"), .int 128, .int (-1)]], .bool true]), (S "xm128", .tup [.str (S "rm"), .int 0, .int 128, .lst [.tup [.str (S "xmm"), .int 128, .int (-1)]], .bool true]), (S "imm8", .tup [.str (S "imm"), .int 1, .int 0, .lst [], .bool false]), (S "imm16", .tup [.str (S "imm"), .int 2, .int 0, .lst [], .bool false]), (S "imm32", .tup [.str (S "imm"), .int 4, .int 0, .lst [], .bool false]), (S "imm64", .tup [.str (S "imm"), .int 8, .int 0, .lst [], .bool false]), (S "uimm8", .tup [.str (S "imm"), .int 1, .int 0, .lst [], .bool false]), (S "uimm16", .tup [.str (S "imm"), .int 2, .int 0, .lst [], .bool false]), (S "simm8", .tup [.str (S "imm"), .int 1, .int 0, .lst [], .bool false]), (S "simm32", .tup [.str (S "imm"), .int 4, .int 0, .lst [], .bool false]), (S "rel8", .tup [.str (S "rel"), .int 1, .int 0, .lst [], .bool false]), (S "rel32", .tup [.str (S "rel"), .int 4, .int 0, .lst [], .bool false])]
noncomputable def g_law_row : Tab := ⟨[(S "int", tyv "int")], [], [], [], [], [], 638⟩
theorem k_law_row : t_law_row.map (fun p => runT (runF g_law_row 60 .off d_law_row [] [.str p.1])) = t_law_row.map fun p => some p.2 := by kernel_rfl

section
variable (pr : Program) (w : World) (hb : Heap) (mg mb : Str → Option Value) (p : Addr) (C : (cx pr w hb mg mb p).Ok)
include C
theorem keep638 : keepIn (cx pr w hb mg mb p).K (.ref 638) = true := by show keepIn (Mine.hd.heap_1 w.params) _ = true; kernel_rfl

theorem f_is_fixed : FnIn (cx pr w hb mg mb p) (fun _ => True) 1 (117, tabF t_is_fixed) := ⟨by show keepIn (Mine.hd.heap_1 w.params) _ = true; kernel_rfl, (fn_pure C (fa_is_fixed pr w hb mg mb p) (tab_off (n := 0) C (by show globsOk (Mine.hd.heap_1 w.params) _ = true; kernel_rfl) no_mem no_mem no_mem no_mem rfl (keep638 pr w hb mg mb p C))).ref (ref_tab k_is_fixed)⟩
theorem f_is_immediate : FnIn (cx pr w hb mg mb p) (fun _ => True) 1 (124, tabF t_is_immediate) := ⟨by show keepIn (Mine.hd.heap_1 w.params) _ = true; kernel_rfl, (fn_pure C (fa_is_immediate pr w hb mg mb p) (tab_off (n := 0) C (by show globsOk (Mine.hd.heap_1 w.params) _ = true; kernel_rfl) no_mem no_mem no_mem no_mem rfl (keep638 pr w hb mg mb p C))).ref (ref_tab k_is_immediate)⟩
theorem f_is_relative : FnIn (cx pr w hb mg mb p) (fun _ => True) 1 (131, tabF t_is_relative) := ⟨by show keepIn (Mine.hd.heap_1 w.params) _ = true; kernel_rfl, (fn_pure C (fa_is_relative pr w hb mg mb p) (tab_off (n := 0) C (by show globsOk (Mine.hd.heap_1 w.params) _ = true; kernel_rfl) no_mem no_mem no_mem no_mem rfl (keep638 pr w hb mg mb p C))).ref (ref_tab k_is_relative)⟩
theorem f_takes_memory : FnIn (cx pr w hb mg mb p) (fun _ => True) 1 (138, tabF t_takes_memory) := ⟨by show keepIn (Mine.hd.heap_1 w.params) _ = true; kernel_rfl, (fn_pure C (fa_takes_memory pr w hb mg mb p) (tab_off (n := 0) C (by show globsOk (Mine.hd.heap_1 w.params) _ = true; kernel_rfl) no_mem no_mem no_mem no_mem rfl (keep638 pr w hb mg mb p C))).ref (ref_tab k_takes_memory)⟩
theorem f_kind_size : FnIn (cx pr w hb mg mb p) (fun _ => True) 2 (145, tabF t_kind_size) := ⟨by show keepIn (Mine.hd.heap_1 w.params) _ = true; kernel_rfl, (fn_pure C (fa_kind_size pr w hb mg mb p) (tab_off (n := 1) C (by show globsOk (Mine.hd.heap_1 w.params) _ = true; kernel_rfl) (List.forall_mem_cons.mpr ⟨f_is_fixed pr w hb mg mb p C, (List.forall_mem_cons.mpr ⟨f_is_immediate pr w hb mg mb p C, (List.forall_mem_cons.mpr ⟨f_is_relative pr w hb mg mb p C, no_mem⟩)⟩)⟩) no_mem no_mem no_mem rfl (keep638 pr w hb mg mb p C))).ref (ref_tab k_kind_size)⟩
theorem f_kind_width : FnIn (cx pr w hb mg mb p) (fun _ => True) 2 (152, tabF t_kind_width) := ⟨by show keepIn (Mine.hd.heap_1 w.params) _ = true; kernel_rfl, (fn_pure C (fa_kind_width pr w hb mg mb p) (tab_off (n := 1) C (by show globsOk (Mine.hd.heap_1 w.params) _ = true; kernel_rfl) (List.forall_mem_cons.mpr ⟨f_is_immediate pr w hb mg mb p C, (List.forall_mem_cons.mpr ⟨f_is_relative pr w hb mg mb p C, no_mem⟩)⟩) no_mem no_mem no_mem rfl (keep638 pr w hb mg mb p C))).ref (ref_tab k_kind_width)⟩
theorem f_slot_of : FnIn (cx pr w hb mg mb p) (fun _ => True) 2 (159, tabF t_slot_of) := ⟨by show keepIn (Mine.hd.heap_1 w.params) _ = true; kernel_rfl, (fn_pure C (fa_slot_of pr w hb mg mb p) (tab_off (n := 1) C (by show globsOk (Mine.hd.heap_1 w.params) _ = true; kernel_rfl) (List.forall_mem_cons.mpr ⟨f_is_fixed pr w hb mg mb p C, (List.forall_mem_cons.mpr ⟨f_is_immediate pr w hb mg mb p C, (List.forall_mem_cons.mpr ⟨f_is_relative pr w hb mg mb p C, (List.forall_mem_cons.mpr ⟨f_takes_memory pr w hb mg mb p C, no_mem⟩)⟩)⟩)⟩) no_mem no_mem no_mem rfl (keep638 pr w hb mg mb p C))).ref (ref_tab k_slot_of)⟩
theorem f_law_row : FnIn (cx pr w hb mg mb p) (fun _ => True) 1 (643, tabF t_law_row) := ⟨by show keepIn (Mine.hd.heap_1 w.params) _ = true; kernel_rfl, (fn_pure C (fa_law_row pr w hb mg mb p) (tab_off (n := 0) C (by show globsOk (Mine.hd.heap_1 w.params) _ = true; kernel_rfl) no_mem no_mem no_mem no_mem rfl (keep638 pr w hb mg mb p C))).ref (ref_tab k_law_row)⟩
end
end Mine

namespace Mine

section
variable {c : Cx} {P : PenS → Prop} {n m : Nat}
theorem FnIn.up {p} (h : FnIn c P n p) (hm : n ≤ m) : FnIn c P m p := ⟨h.1, h.2.up hm fun _ q => q⟩
theorem ClsIn.up {p} (h : ClsIn c P n p) (hm : n ≤ m) : ClsIn c P m p := ⟨h.1, h.2.up hm fun _ q => q⟩
theorem MethIn.up {p} (h : MethIn c P n p) (hm : n ≤ m) : MethIn c P m p := by obtain ⟨f, a1, a2, a3, a4, a5⟩ := h; exact ⟨f, a1, a2, a3, a4, a5.up hm fun _ q => q⟩
theorem IniIn.up {p} (h : IniIn c P n p) (hm : n ≤ m) : IniIn c P m p := by
  obtain ⟨f, mc, a1, a2, a3, a4, a5, a6⟩ := h
  exact ⟨f, mc, a1, a2, a3, a4, a5, fun sf A σ fs g b s vs l R => a6 sf A σ fs g b s vs l (R.le hm)⟩
theorem clsIn_two {a : Addr} {F G : List PV → T (List (Str × PV))} {q : List PV → Bool} (h1 : ClsIn c P n (a, F)) (h2 : ClsIn c P n (a, G)) : ClsIn c P n (a, fun l => match q l with | true => F l | false => G l) := by
  refine ⟨h1.1, fun sf A σ g b s vs l R pm I hl => ?_⟩
  show At c sf A σ (Rel c) _ (((match q l with | true => F l | false => G l) : T _).bind _) g b s
  cases q l with
  | true => exact h1.2 sf A σ g b s vs l R pm I hl
  | false => exact h2.2 sf A σ g b s vs l R pm I hl
end

noncomputable def g_mask : Tab := ⟨[], [], [], [], [], [], 638⟩
noncomputable def F_mask : List PV → T PV := runF g_mask 60 .off d_mask []
theorem f_mask (pr : Program) (w : World) (hb : Heap) (mg mb : Str → Option Value) (p : Addr) (C : (cx pr w hb mg mb p).Ok) : FnIn (cx pr w hb mg mb p) (fun _ => True) 1 (68, F_mask) := ⟨by show keepIn (Mine.hd.heap_1 w.params) _ = true; kernel_rfl, fn_pure C (fa_mask pr w hb mg mb p) (tab_off (n := 0) C (by show globsOk (Mine.hd.heap_1 w.params) _ = true; kernel_rfl) no_mem no_mem no_mem no_mem (by show (List.all _ fun p => attOk (Mine.hd.heap_1 w.params) _ _) = true; kernel_rfl) (keep638 pr w hb mg mb p C))⟩
noncomputable def g_wrap : Tab := ⟨[(S "mask", fnv 68)], [(68, F_mask)], [], [], [], [], 638⟩
noncomputable def F_wrap : List PV → T PV := runF g_wrap 60 .off d_wrap []
theorem f_wrap (pr : Program) (w : World) (hb : Heap) (mg mb : Str → Option Value) (p : Addr) (C : (cx pr w hb mg mb p).Ok) : FnIn (cx pr w hb mg mb p) (fun _ => True) 2 (75, F_wrap) := ⟨by show keepIn (Mine.hd.heap_1 w.params) _ = true; kernel_rfl, fn_pure C (fa_wrap pr w hb mg mb p) (tab_off (n := 1) C (by show globsOk (Mine.hd.heap_1 w.params) _ = true; kernel_rfl) (List.forall_mem_cons.mpr ⟨(f_mask pr w hb mg mb p C).up (by decide : 1 ≤ 1), no_mem⟩) no_mem no_mem no_mem (by show (List.all _ fun p => attOk (Mine.hd.heap_1 w.params) _ _) = true; kernel_rfl) (keep638 pr w hb mg mb p C))⟩
noncomputable def g_signed : Tab := ⟨[(S "wrap", fnv 75)], [(75, F_wrap)], [], [], [], [], 638⟩
noncomputable def F_signed : List PV → T PV := runF g_signed 60 .off d_signed []
theorem f_signed (pr : Program) (w : World) (hb : Heap) (mg mb : Str → Option Value) (p : Addr) (C : (cx pr w hb mg mb p).Ok) : FnIn (cx pr w hb mg mb p) (fun _ => True) 3 (82, F_signed) := ⟨by show keepIn (Mine.hd.heap_1 w.params) _ = true; kernel_rfl, fn_pure C (fa_signed pr w hb mg mb p) (tab_off (n := 2) C (by show globsOk (Mine.hd.heap_1 w.params) _ = true; kernel_rfl) (List.forall_mem_cons.mpr ⟨(f_wrap pr w hb mg mb p C).up (by decide : 2 ≤ 2), no_mem⟩) no_mem no_mem no_mem (by show (List.all _ fun p => attOk (Mine.hd.heap_1 w.params) _ _) = true; kernel_rfl) (keep638 pr w hb mg mb p C))⟩
noncomputable def g_fits_signed : Tab := ⟨[], [], [], [], [], [], 638⟩
noncomputable def F_fits_signed : List PV → T PV := runF g_fits_signed 60 .off d_fits_signed []
theorem f_fits_signed (pr : Program) (w : World) (hb : Heap) (mg mb : Str → Option Value) (p : Addr) (C : (cx pr w hb mg mb p).Ok) : FnIn (cx pr w hb mg mb p) (fun _ => True) 1 (89, F_fits_signed) := ⟨by show keepIn (Mine.hd.heap_1 w.params) _ = true; kernel_rfl, fn_pure C (fa_fits_signed pr w hb mg mb p) (tab_off (n := 0) C (by show globsOk (Mine.hd.heap_1 w.params) _ = true; kernel_rfl) no_mem no_mem no_mem no_mem (by show (List.all _ fun p => attOk (Mine.hd.heap_1 w.params) _ _) = true; kernel_rfl) (keep638 pr w hb mg mb p C))⟩
noncomputable def g_fits_unsigned : Tab := ⟨[(S "mask", fnv 68)], [(68, F_mask)], [], [], [], [], 638⟩
noncomputable def F_fits_unsigned : List PV → T PV := runF g_fits_unsigned 60 .off d_fits_unsigned []
theorem f_fits_unsigned (pr : Program) (w : World) (hb : Heap) (mg mb : Str → Option Value) (p : Addr) (C : (cx pr w hb mg mb p).Ok) : FnIn (cx pr w hb mg mb p) (fun _ => True) 2 (96, F_fits_unsigned) := ⟨by show keepIn (Mine.hd.heap_1 w.params) _ = true; kernel_rfl, fn_pure C (fa_fits_unsigned pr w hb mg mb p) (tab_off (n := 1) C (by show globsOk (Mine.hd.heap_1 w.params) _ = true; kernel_rfl) (List.forall_mem_cons.mpr ⟨(f_mask pr w hb mg mb p C).up (by decide : 1 ≤ 1), no_mem⟩) no_mem no_mem no_mem (by show (List.all _ fun p => attOk (Mine.hd.heap_1 w.params) _ _) = true; kernel_rfl) (keep638 pr w hb mg mb p C))⟩
noncomputable def g_fits_either : Tab := ⟨[(S "mask", fnv 68)], [(68, F_mask)], [], [], [], [], 638⟩
noncomputable def F_fits_either : List PV → T PV := runF g_fits_either 60 .off d_fits_either []
theorem f_fits_either (pr : Program) (w : World) (hb : Heap) (mg mb : Str → Option Value) (p : Addr) (C : (cx pr w hb mg mb p).Ok) : FnIn (cx pr w hb mg mb p) (fun _ => True) 2 (103, F_fits_either) := ⟨by show keepIn (Mine.hd.heap_1 w.params) _ = true; kernel_rfl, fn_pure C (fa_fits_either pr w hb mg mb p) (tab_off (n := 1) C (by show globsOk (Mine.hd.heap_1 w.params) _ = true; kernel_rfl) (List.forall_mem_cons.mpr ⟨(f_mask pr w hb mg mb p C).up (by decide : 1 ≤ 1), no_mem⟩) no_mem no_mem no_mem (by show (List.all _ fun p => attOk (Mine.hd.heap_1 w.params) _ _) = true; kernel_rfl) (keep638 pr w hb mg mb p C))⟩
noncomputable def g_condition_names : Tab := ⟨[(S "CONDITIONS", .str (S "o no b ae e ne be a s ns p np l ge le g"))], [], [], [], [], [], 638⟩
noncomputable def F_condition_names : List PV → T PV := runF g_condition_names 60 .off d_condition_names []
theorem f_condition_names (pr : Program) (w : World) (hb : Heap) (mg mb : Str → Option Value) (p : Addr) (C : (cx pr w hb mg mb p).Ok) : FnIn (cx pr w hb mg mb p) (fun _ => True) 1 (110, F_condition_names) := ⟨by show keepIn (Mine.hd.heap_1 w.params) _ = true; kernel_rfl, fn_pure C (fa_condition_names pr w hb mg mb p) (tab_off (n := 0) C (by show globsOk (Mine.hd.heap_1 w.params) _ = true; kernel_rfl) no_mem no_mem no_mem no_mem (by show (List.all _ fun p => attOk (Mine.hd.heap_1 w.params) _ _) = true; kernel_rfl) (keep638 pr w hb mg mb p C))⟩
noncomputable def g_register_told : Tab := ⟨[], [], [], [], [], [(578, S "name", ())], 638⟩
noncomputable def F_register_told : List PV → T PV := runF g_register_told 60 .off d_register_told []
theorem m_register_told (pr : Program) (w : World) (hb : Heap) (mg mb : Str → Option Value) (p : Addr) (C : (cx pr w hb mg mb p).Ok) : MethIn (cx pr w hb mg mb p) (fun _ => True) 1 (578, S "told", F_register_told) := ⟨575, by show keepIn (Mine.hd.heap_1 w.params) _ = true; kernel_rfl, by show isFn (Mine.hd.heap_1 w.params) _ = true; kernel_rfl, by show plainGet (Mine.hd.heap_1 w.params) _ _ = true; kernel_rfl, by show findIn (Mine.hd.heap_1 w.params) _ _ = _; kernel_rfl, fn_pure C (fa_register_told pr w hb mg mb p) (tab_off (n := 0) C (by show globsOk (Mine.hd.heap_1 w.params) _ = true; kernel_rfl) no_mem no_mem no_mem no_mem (by show (List.all _ fun p => attOk (Mine.hd.heap_1 w.params) _ _) = true; kernel_rfl) (keep638 pr w hb mg mb p C))⟩
noncomputable def g_takes_register : Tab := ⟨[(S "is_fixed", fnv 117), (S "is_immediate", fnv 124), (S "is_relative", fnv 131), (S "kind_size", fnv 145)], [(117, tabF t_is_fixed), (124, tabF t_is_immediate), (131, tabF t_is_relative), (145, tabF t_kind_size)], [], [], [(578, S "told", F_register_told)], [(578, S "kind", ()), (578, S "size", ())], 638⟩
noncomputable def F_takes_register : List PV → T PV := runF g_takes_register 60 .off d_takes_register []
theorem f_takes_register (pr : Program) (w : World) (hb : Heap) (mg mb : Str → Option Value) (p : Addr) (C : (cx pr w hb mg mb p).Ok) : FnIn (cx pr w hb mg mb p) (fun _ => True) 3 (166, F_takes_register) := ⟨by show keepIn (Mine.hd.heap_1 w.params) _ = true; kernel_rfl, fn_pure C (fa_takes_register pr w hb mg mb p) (tab_off (n := 2) C (by show globsOk (Mine.hd.heap_1 w.params) _ = true; kernel_rfl) (List.forall_mem_cons.mpr ⟨(f_is_fixed pr w hb mg mb p C).up (by decide : 1 ≤ 2), (List.forall_mem_cons.mpr ⟨(f_is_immediate pr w hb mg mb p C).up (by decide : 1 ≤ 2), (List.forall_mem_cons.mpr ⟨(f_is_relative pr w hb mg mb p C).up (by decide : 1 ≤ 2), (List.forall_mem_cons.mpr ⟨(f_kind_size pr w hb mg mb p C).up (by decide : 2 ≤ 2), no_mem⟩)⟩)⟩)⟩) no_mem no_mem (List.forall_mem_cons.mpr ⟨(m_register_told pr w hb mg mb p C).up (by decide : 1 ≤ 2), no_mem⟩) (by show (List.all _ fun p => attOk (Mine.hd.heap_1 w.params) _ _) = true; kernel_rfl) (keep638 pr w hb mg mb p C))⟩
noncomputable def g_takes_worth : Tab := ⟨[(S "fits_unsigned", fnv 96), (S "fits_either", fnv 103), (S "wrap", fnv 75), (S "signed", fnv 82), (S "int", tyv "int")], [(96, F_fits_unsigned), (103, F_fits_either), (75, F_wrap), (82, F_signed)], [], [], [], [], 638⟩
noncomputable def F_takes_worth : List PV → T PV := runF g_takes_worth 60 .off d_takes_worth []
theorem f_takes_worth (pr : Program) (w : World) (hb : Heap) (mg mb : Str → Option Value) (p : Addr) (C : (cx pr w hb mg mb p).Ok) : FnIn (cx pr w hb mg mb p) (fun _ => True) 4 (173, F_takes_worth) := ⟨by show keepIn (Mine.hd.heap_1 w.params) _ = true; kernel_rfl, fn_pure C (fa_takes_worth pr w hb mg mb p) (tab_off (n := 3) C (by show globsOk (Mine.hd.heap_1 w.params) _ = true; kernel_rfl) (List.forall_mem_cons.mpr ⟨(f_fits_unsigned pr w hb mg mb p C).up (by decide : 2 ≤ 3), (List.forall_mem_cons.mpr ⟨(f_fits_either pr w hb mg mb p C).up (by decide : 2 ≤ 3), (List.forall_mem_cons.mpr ⟨(f_wrap pr w hb mg mb p C).up (by decide : 2 ≤ 3), (List.forall_mem_cons.mpr ⟨(f_signed pr w hb mg mb p C).up (by decide : 3 ≤ 3), no_mem⟩)⟩)⟩)⟩) no_mem no_mem no_mem (by show (List.all _ fun p => attOk (Mine.hd.heap_1 w.params) _ _) = true; kernel_rfl) (keep638 pr w hb mg mb p C))⟩
noncomputable def g_takes_distance : Tab := ⟨[(S "is_relative", fnv 131), (S "fits_signed", fnv 89), (S "int", tyv "int")], [(131, tabF t_is_relative), (89, F_fits_signed)], [], [], [], [(416, S "name", ()), (416, S "worth", ())], 638⟩
noncomputable def F_takes_distance : List PV → T PV := runF g_takes_distance 60 .off d_takes_distance []
theorem f_takes_distance (pr : Program) (w : World) (hb : Heap) (mg mb : Str → Option Value) (p : Addr) (C : (cx pr w hb mg mb p).Ok) : FnIn (cx pr w hb mg mb p) (fun _ => True) 2 (180, F_takes_distance) := ⟨by show keepIn (Mine.hd.heap_1 w.params) _ = true; kernel_rfl, fn_pure C (fa_takes_distance pr w hb mg mb p) (tab_off (n := 1) C (by show globsOk (Mine.hd.heap_1 w.params) _ = true; kernel_rfl) (List.forall_mem_cons.mpr ⟨(f_is_relative pr w hb mg mb p C).up (by decide : 1 ≤ 1), (List.forall_mem_cons.mpr ⟨(f_fits_signed pr w hb mg mb p C).up (by decide : 1 ≤ 1), no_mem⟩)⟩) no_mem no_mem no_mem (by show (List.all _ fun p => attOk (Mine.hd.heap_1 w.params) _ _) = true; kernel_rfl) (keep638 pr w hb mg mb p C))⟩
noncomputable def g_takes : Tab := ⟨[(S "takes_register", fnv 166), (S "takes_memory", fnv 138), (S "kind_size", fnv 145), (S "takes_distance", fnv 180), (S "takes_worth", fnv 173)], [(166, F_takes_register), (138, tabF t_takes_memory), (145, tabF t_kind_size), (180, F_takes_distance), (173, F_takes_worth)], [], [], [], [(341, S "kind", ()), (341, S "register", ()), (469, S "kind", ()), (469, S "size", ()), (416, S "kind", ()), (375, S "kind", ()), (375, S "name", ()), (375, S "worth", ())], 638⟩
noncomputable def F_takes : List PV → T PV := runF g_takes 60 .off d_takes []
theorem f_takes (pr : Program) (w : World) (hb : Heap) (mg mb : Str → Option Value) (p : Addr) (C : (cx pr w hb mg mb p).Ok) : FnIn (cx pr w hb mg mb p) (fun _ => True) 5 (187, F_takes) := ⟨by show keepIn (Mine.hd.heap_1 w.params) _ = true; kernel_rfl, fn_pure C (fa_takes pr w hb mg mb p) (tab_off (n := 4) C (by show globsOk (Mine.hd.heap_1 w.params) _ = true; kernel_rfl) (List.forall_mem_cons.mpr ⟨(f_takes_register pr w hb mg mb p C).up (by decide : 3 ≤ 4), (List.forall_mem_cons.mpr ⟨(f_takes_memory pr w hb mg mb p C).up (by decide : 1 ≤ 4), (List.forall_mem_cons.mpr ⟨(f_kind_size pr w hb mg mb p C).up (by decide : 2 ≤ 4), (List.forall_mem_cons.mpr ⟨(f_takes_distance pr w hb mg mb p C).up (by decide : 2 ≤ 4), (List.forall_mem_cons.mpr ⟨(f_takes_worth pr w hb mg mb p C).up (by decide : 4 ≤ 4), no_mem⟩)⟩)⟩)⟩)⟩) no_mem no_mem no_mem (by show (List.all _ fun p => attOk (Mine.hd.heap_1 w.params) _ _) = true; kernel_rfl) (keep638 pr w hb mg mb p C))⟩
noncomputable def g_law_lets_number : Tab := ⟨[(S "int", tyv "int")], [], [], [], [], [], 638⟩
noncomputable def F_law_lets_number : List PV → T PV := runF g_law_lets_number 60 .off d_law_lets_number []
theorem f_law_lets_number (pr : Program) (w : World) (hb : Heap) (mg mb : Str → Option Value) (p : Addr) (C : (cx pr w hb mg mb p).Ok) : FnIn (cx pr w hb mg mb p) (fun _ => True) 1 (664, F_law_lets_number) := ⟨by show keepIn (Mine.hd.heap_1 w.params) _ = true; kernel_rfl, fn_pure C (fa_law_lets_number pr w hb mg mb p) (tab_off (n := 0) C (by show globsOk (Mine.hd.heap_1 w.params) _ = true; kernel_rfl) no_mem no_mem no_mem no_mem (by show (List.all _ fun p => attOk (Mine.hd.heap_1 w.params) _ _) = true; kernel_rfl) (keep638 pr w hb mg mb p C))⟩
noncomputable def g_law_lets : Tab := ⟨[(S "_law_row", fnv 643), (S "_law_lets_number", fnv 664)], [(643, tabF t_law_row), (664, F_law_lets_number)], [], [], [], [], 638⟩
noncomputable def F_law_lets : List PV → T PV := runF g_law_lets 60 .off d_law_lets []
theorem f_law_lets (pr : Program) (w : World) (hb : Heap) (mg mb : Str → Option Value) (p : Addr) (C : (cx pr w hb mg mb p).Ok) : FnIn (cx pr w hb mg mb p) (fun _ => True) 2 (669, F_law_lets) := ⟨by show keepIn (Mine.hd.heap_1 w.params) _ = true; kernel_rfl, fn_cells C (fc_law_lets pr w hb mg mb p) (tab_off (n := 1) C (by show globsOk (Mine.hd.heap_1 w.params) _ = true; kernel_rfl) (List.forall_mem_cons.mpr ⟨(f_law_row pr w hb mg mb p C).up (by decide : 1 ≤ 1), (List.forall_mem_cons.mpr ⟨(f_law_lets_number pr w hb mg mb p C).up (by decide : 1 ≤ 1), no_mem⟩)⟩) no_mem no_mem no_mem (by show (List.all _ fun p => attOk (Mine.hd.heap_1 w.params) _ _) = true; kernel_rfl) (keep638 pr w hb mg mb p C))⟩
noncomputable def g_register_init : Tab := ⟨[], [], [], [], [], [(578, S "name", ()), (578, S "kind", ()), (578, S "number", ()), (578, S "size", ())], 638⟩
noncomputable def I_Register : List PV → T (List (Str × PV)) := runI g_register_init 60 578 d_register_init []
theorem c_Register (pr : Program) (w : World) (hb : Heap) (mg mb : Str → Option Value) (p : Addr) (C : (cx pr w hb mg mb p).Ok) : ClsIn (cx pr w hb mg mb p) (fun _ => True) 3 (578, I_Register) := ⟨by show keepIn (Mine.hd.heap_1 w.params) _ = true; kernel_rfl, cls_ok C (fa_register_init pr w hb mg mb p) (tab_off (n := 0) C (by show globsOk (Mine.hd.heap_1 w.params) _ = true; kernel_rfl) no_mem no_mem no_mem no_mem (by show (List.all _ fun p => attOk (Mine.hd.heap_1 w.params) _ _) = true; kernel_rfl) (keep638 pr w hb mg mb p C)) (by show makesIn (Mine.hd.heap_1 w.params) _ = true; kernel_rfl) (f := 540) (by show findIn (Mine.hd.heap_1 w.params) _ _ = _; kernel_rfl) (by show typeIn (Mine.hd.heap_1 w.params) _ = _; kernel_rfl)⟩
noncomputable def g_operand_init : Tab := ⟨[], [], [], [], [], [(341, S "kind", ()), (375, S "kind", ()), (416, S "kind", ()), (469, S "kind", ())], 638⟩
noncomputable def O_Operand : Addr → List PV → List (Str × PV) → T (List (Str × PV)) := runO g_operand_init 60 d_operand_init
theorem i_Operand (pr : Program) (w : World) (hb : Heap) (mg mb : Str → Option Value) (p : Addr) (C : (cx pr w hb mg mb p).Ok) : IniIn (cx pr w hb mg mb p) (· = .off) 1 (306, O_Operand) := ⟨282, .type "type", by show keepIn (Mine.hd.heap_1 w.params) _ = true; kernel_rfl, by show specialIn (Mine.hd.heap_1 w.params) _ _ = _; kernel_rfl, by show readsIn (Mine.hd.heap_1 w.params) _ _ = true; kernel_rfl, by show findCls (Mine.hd.heap_1 w.params) _ _ _ = _; kernel_rfl, rfl, fun sf A σ fs g b s vs l R hm hsl I hl Q E post hs hq => ini_ok (P := (· = .off)) (Γ := g_operand_init) (k := 60) C (fa_operand_init pr w hb mg mb p) (tab_off (n := 0) C (by show globsOk (Mine.hd.heap_1 w.params) _ = true; kernel_rfl) no_mem no_mem no_mem no_mem (by show (List.all _ fun p => attOk (Mine.hd.heap_1 w.params) _ _) = true; kernel_rfl) (keep638 pr w hb mg mb p C)) sf A σ fs g b s vs l R hm hsl I hl Q E post hs hq⟩
noncomputable def g_reg_init : Tab := ⟨[(S "Operand", fnv 306)], [], [], [(306, O_Operand)], [], [(341, S "register", ())], 638⟩
noncomputable def I_Reg : List PV → T (List (Str × PV)) := runI g_reg_init 60 341 d_reg_init []
theorem c_Reg (pr : Program) (w : World) (hb : Heap) (mg mb : Str → Option Value) (p : Addr) (C : (cx pr w hb mg mb p).Ok) : ClsIn (cx pr w hb mg mb p) (fun _ => True) 4 (341, I_Reg) := ⟨by show keepIn (Mine.hd.heap_1 w.params) _ = true; kernel_rfl, cls_ok C (fa_reg_init pr w hb mg mb p) (tab_off (n := 1) C (by show globsOk (Mine.hd.heap_1 w.params) _ = true; kernel_rfl) no_mem no_mem (List.forall_mem_cons.mpr ⟨(i_Operand pr w hb mg mb p C).up (by decide : 1 ≤ 1), no_mem⟩) no_mem (by show (List.all _ fun p => attOk (Mine.hd.heap_1 w.params) _ _) = true; kernel_rfl) (keep638 pr w hb mg mb p C)) (by show makesIn (Mine.hd.heap_1 w.params) _ = true; kernel_rfl) (f := 324) (by show findIn (Mine.hd.heap_1 w.params) _ _ = _; kernel_rfl) (by show typeIn (Mine.hd.heap_1 w.params) _ = _; kernel_rfl)⟩
noncomputable def g_imm_init : Tab := ⟨[(S "Operand", fnv 306)], [], [], [(306, O_Operand)], [], [(375, S "worth", ()), (375, S "name", ())], 638⟩
noncomputable def I_Imm : List PV → T (List (Str × PV)) := runI g_imm_init 60 375 d_imm_init []
theorem c_Imm (pr : Program) (w : World) (hb : Heap) (mg mb : Str → Option Value) (p : Addr) (C : (cx pr w hb mg mb p).Ok) : ClsIn (cx pr w hb mg mb p) (fun _ => True) 4 (375, I_Imm) := ⟨by show keepIn (Mine.hd.heap_1 w.params) _ = true; kernel_rfl, cls_ok C (fa_imm_init pr w hb mg mb p) (tab_off (n := 1) C (by show globsOk (Mine.hd.heap_1 w.params) _ = true; kernel_rfl) no_mem no_mem (List.forall_mem_cons.mpr ⟨(i_Operand pr w hb mg mb p C).up (by decide : 1 ≤ 1), no_mem⟩) no_mem (by show (List.all _ fun p => attOk (Mine.hd.heap_1 w.params) _ _) = true; kernel_rfl) (keep638 pr w hb mg mb p C)) (by show makesIn (Mine.hd.heap_1 w.params) _ = true; kernel_rfl) (f := 358) (by show findIn (Mine.hd.heap_1 w.params) _ _ = _; kernel_rfl) (by show typeIn (Mine.hd.heap_1 w.params) _ = _; kernel_rfl)⟩
noncomputable def g_rel_init : Tab := ⟨[(S "Operand", fnv 306)], [], [], [(306, O_Operand)], [], [(416, S "worth", ()), (416, S "name", ())], 638⟩
noncomputable def I_Rel : List PV → T (List (Str × PV)) := runI g_rel_init 60 416 d_rel_init []
theorem c_Rel (pr : Program) (w : World) (hb : Heap) (mg mb : Str → Option Value) (p : Addr) (C : (cx pr w hb mg mb p).Ok) : ClsIn (cx pr w hb mg mb p) (fun _ => True) 4 (416, I_Rel) := ⟨by show keepIn (Mine.hd.heap_1 w.params) _ = true; kernel_rfl, cls_ok C (fa_rel_init pr w hb mg mb p) (tab_off (n := 1) C (by show globsOk (Mine.hd.heap_1 w.params) _ = true; kernel_rfl) no_mem no_mem (List.forall_mem_cons.mpr ⟨(i_Operand pr w hb mg mb p C).up (by decide : 1 ≤ 1), no_mem⟩) no_mem (by show (List.all _ fun p => attOk (Mine.hd.heap_1 w.params) _ _) = true; kernel_rfl) (keep638 pr w hb mg mb p C)) (by show makesIn (Mine.hd.heap_1 w.params) _ = true; kernel_rfl) (f := 392) (by show findIn (Mine.hd.heap_1 w.params) _ _ = _; kernel_rfl) (by show typeIn (Mine.hd.heap_1 w.params) _ = _; kernel_rfl)⟩
noncomputable def g_mem_init : Tab := ⟨[(S "Operand", fnv 306)], [], [], [(306, O_Operand)], [], [(469, S "base", ()), (469, S "index", ()), (469, S "scale", ()), (469, S "worth", ()), (469, S "size", ()), (469, S "segment", ()), (469, S "name", ())], 638⟩
noncomputable def I_Mem : List PV → T (List (Str × PV)) := runI g_mem_init 60 469 d_mem_init [.str (S ""), .str (S "")]
theorem c_Mem (pr : Program) (w : World) (hb : Heap) (mg mb : Str → Option Value) (p : Addr) (C : (cx pr w hb mg mb p).Ok) : ClsIn (cx pr w hb mg mb p) (fun _ => True) 4 (469, I_Mem) := ⟨by show keepIn (Mine.hd.heap_1 w.params) _ = true; kernel_rfl, cls_ok C (fa_mem_init pr w hb mg mb p) (tab_off (n := 1) C (by show globsOk (Mine.hd.heap_1 w.params) _ = true; kernel_rfl) no_mem no_mem (List.forall_mem_cons.mpr ⟨(i_Operand pr w hb mg mb p C).up (by decide : 1 ≤ 1), no_mem⟩) no_mem (by show (List.all _ fun p => attOk (Mine.hd.heap_1 w.params) _ _) = true; kernel_rfl) (keep638 pr w hb mg mb p C)) (by show makesIn (Mine.hd.heap_1 w.params) _ = true; kernel_rfl) (f := 433) (by show findIn (Mine.hd.heap_1 w.params) _ _ = _; kernel_rfl) (by show typeIn (Mine.hd.heap_1 w.params) _ = _; kernel_rfl)⟩
noncomputable def g_instruction_init : Tab := ⟨[(S "tuple", tyv "tuple")], [], [], [], [], [(522, S "name", ()), (522, S "operands", ()), (522, S "prefix", ())], 638⟩
noncomputable def I_Instruction : List PV → T (List (Str × PV)) := runI g_instruction_init 60 522 d_instruction_init [.str (S "")]
theorem c_Instruction (pr : Program) (w : World) (hb : Heap) (mg mb : Str → Option Value) (p : Addr) (C : (cx pr w hb mg mb p).Ok) : ClsIn (cx pr w hb mg mb p) (fun _ => True) 3 (522, I_Instruction) := ⟨by show keepIn (Mine.hd.heap_1 w.params) _ = true; kernel_rfl, cls_ok C (fa_instruction_init pr w hb mg mb p) (tab_off (n := 0) C (by show globsOk (Mine.hd.heap_1 w.params) _ = true; kernel_rfl) no_mem no_mem no_mem no_mem (by show (List.all _ fun p => attOk (Mine.hd.heap_1 w.params) _ _) = true; kernel_rfl) (keep638 pr w hb mg mb p C)) (by show makesIn (Mine.hd.heap_1 w.params) _ = true; kernel_rfl) (f := 486) (by show findIn (Mine.hd.heap_1 w.params) _ _ = _; kernel_rfl) (by show typeIn (Mine.hd.heap_1 w.params) _ = _; kernel_rfl)⟩
noncomputable def g_form_init : Tab := ⟨[(S "tuple", tyv "tuple"), (S "slot_of", fnv 159)], [(159, tabF t_slot_of)], [], [], [], [(243, S "name", ()), (243, S "kinds", ()), (243, S "opcode", ()), (243, S "escape", ()), (243, S "digit", ()), (243, S "size", ()), (243, S "must", ()), (243, S "is_wide", ()), (243, S "number", ()), (243, S "places", ())], 638⟩
noncomputable def I_Form7 : List PV → T (List (Str × PV)) := runI g_form_init 60 243 d_form_init [.int 0, .bool false]
theorem c_Form7 (pr : Program) (w : World) (hb : Heap) (mg mb : Str → Option Value) (p : Addr) (C : (cx pr w hb mg mb p).Ok) : ClsIn (cx pr w hb mg mb p) (fun _ => True) 5 (243, I_Form7) := ⟨by show keepIn (Mine.hd.heap_1 w.params) _ = true; kernel_rfl, cls_ok C (fa_form_init7 pr w hb mg mb p) (tab_off (n := 2) C (by show globsOk (Mine.hd.heap_1 w.params) _ = true; kernel_rfl) (List.forall_mem_cons.mpr ⟨(f_slot_of pr w hb mg mb p C).up (by decide : 2 ≤ 2), no_mem⟩) no_mem no_mem no_mem (by show (List.all _ fun p => attOk (Mine.hd.heap_1 w.params) _ _) = true; kernel_rfl) (keep638 pr w hb mg mb p C)) (by show makesIn (Mine.hd.heap_1 w.params) _ = true; kernel_rfl) (f := 200) (by show findIn (Mine.hd.heap_1 w.params) _ _ = _; kernel_rfl) (by show typeIn (Mine.hd.heap_1 w.params) _ = _; kernel_rfl)⟩
noncomputable def I_Form4 : List PV → T (List (Str × PV)) := runI g_form_init 60 243 d_form_init [.int 0, .int (-1), .int 0, .int 0, .bool false]
theorem c_Form4 (pr : Program) (w : World) (hb : Heap) (mg mb : Str → Option Value) (p : Addr) (C : (cx pr w hb mg mb p).Ok) : ClsIn (cx pr w hb mg mb p) (fun _ => True) 5 (243, I_Form4) := ⟨by show keepIn (Mine.hd.heap_1 w.params) _ = true; kernel_rfl, cls_ok C (fa_form_init4 pr w hb mg mb p) (tab_off (n := 2) C (by show globsOk (Mine.hd.heap_1 w.params) _ = true; kernel_rfl) (List.forall_mem_cons.mpr ⟨(f_slot_of pr w hb mg mb p C).up (by decide : 2 ≤ 2), no_mem⟩) no_mem no_mem no_mem (by show (List.all _ fun p => attOk (Mine.hd.heap_1 w.params) _ _) = true; kernel_rfl) (keep638 pr w hb mg mb p C)) (by show makesIn (Mine.hd.heap_1 w.params) _ = true; kernel_rfl) (f := 200) (by show findIn (Mine.hd.heap_1 w.params) _ _ = _; kernel_rfl) (by show typeIn (Mine.hd.heap_1 w.params) _ = _; kernel_rfl)⟩
noncomputable def I_Form : List PV → T (List (Str × PV)) := fun l => match Nat.beq l.length 6 with | true => I_Form7 l | false => I_Form4 l
theorem c_Form (pr : Program) (w : World) (hb : Heap) (mg mb : Str → Option Value) (p : Addr) (C : (cx pr w hb mg mb p).Ok) : ClsIn (cx pr w hb mg mb p) (fun _ => True) 5 (243, I_Form) := clsIn_two (q := fun l => Nat.beq l.length 6) (c_Form7 pr w hb mg mb p C) (c_Form4 pr w hb mg mb p C)
noncomputable def g_form_told : Tab := ⟨[], [], [], [], [], [(243, S "name", ()), (243, S "kinds", ()), (243, S "opcode", ()), (243, S "escape", ()), (243, S "digit", ()), (243, S "size", ()), (243, S "must", ()), (243, S "is_wide", ())], 638⟩
noncomputable def F_form_told : List PV → T PV := runF g_form_told 60 .off d_form_told []
theorem m_form_told (pr : Program) (w : World) (hb : Heap) (mg mb : Str → Option Value) (p : Addr) (C : (cx pr w hb mg mb p).Ok) : MethIn (cx pr w hb mg mb p) (fun _ => True) 1 (243, S "told", F_form_told) := ⟨207, by show keepIn (Mine.hd.heap_1 w.params) _ = true; kernel_rfl, by show isFn (Mine.hd.heap_1 w.params) _ = true; kernel_rfl, by show plainGet (Mine.hd.heap_1 w.params) _ _ = true; kernel_rfl, by show findIn (Mine.hd.heap_1 w.params) _ _ = _; kernel_rfl, fn_pure C (fa_form_told pr w hb mg mb p) (tab_off (n := 0) C (by show globsOk (Mine.hd.heap_1 w.params) _ = true; kernel_rfl) no_mem no_mem no_mem no_mem (by show (List.all _ fun p => attOk (Mine.hd.heap_1 w.params) _ _) = true; kernel_rfl) (keep638 pr w hb mg mb p C))⟩
noncomputable def g_form_slots : Tab := ⟨[(S "list", tyv "list")], [], [], [], [], [(243, S "places", ())], 638⟩
noncomputable def F_form_slots : List PV → T PV := runF g_form_slots 60 .off d_form_slots []
theorem m_form_slots (pr : Program) (w : World) (hb : Heap) (mg mb : Str → Option Value) (p : Addr) (C : (cx pr w hb mg mb p).Ok) : MethIn (cx pr w hb mg mb p) (fun _ => True) 1 (243, S "slots", F_form_slots) := ⟨214, by show keepIn (Mine.hd.heap_1 w.params) _ = true; kernel_rfl, by show isFn (Mine.hd.heap_1 w.params) _ = true; kernel_rfl, by show plainGet (Mine.hd.heap_1 w.params) _ _ = true; kernel_rfl, by show findIn (Mine.hd.heap_1 w.params) _ _ = _; kernel_rfl, fn_pure C (fa_form_slots pr w hb mg mb p) (tab_off (n := 0) C (by show globsOk (Mine.hd.heap_1 w.params) _ = true; kernel_rfl) no_mem no_mem no_mem no_mem (by show (List.all _ fun p => attOk (Mine.hd.heap_1 w.params) _ _) = true; kernel_rfl) (keep638 pr w hb mg mb p C))⟩
noncomputable def g_form_has_modrm : Tab := ⟨[], [], [], [], [], [(243, S "digit", ()), (243, S "places", ())], 638⟩
noncomputable def F_form_has_modrm : List PV → T PV := runF g_form_has_modrm 60 .off d_form_has_modrm []
theorem m_form_has_modrm (pr : Program) (w : World) (hb : Heap) (mg mb : Str → Option Value) (p : Addr) (C : (cx pr w hb mg mb p).Ok) : MethIn (cx pr w hb mg mb p) (fun _ => True) 1 (243, S "has_modrm", F_form_has_modrm) := ⟨221, by show keepIn (Mine.hd.heap_1 w.params) _ = true; kernel_rfl, by show isFn (Mine.hd.heap_1 w.params) _ = true; kernel_rfl, by show plainGet (Mine.hd.heap_1 w.params) _ _ = true; kernel_rfl, by show findIn (Mine.hd.heap_1 w.params) _ _ = _; kernel_rfl, fn_pure C (fa_form_has_modrm pr w hb mg mb p) (tab_off (n := 0) C (by show globsOk (Mine.hd.heap_1 w.params) _ = true; kernel_rfl) no_mem no_mem no_mem no_mem (by show (List.all _ fun p => attOk (Mine.hd.heap_1 w.params) _ _) = true; kernel_rfl) (keep638 pr w hb mg mb p C))⟩
noncomputable def g_form_has_plus : Tab := ⟨[], [], [], [], [], [(243, S "places", ())], 638⟩
noncomputable def F_form_has_plus : List PV → T PV := runF g_form_has_plus 60 .off d_form_has_plus []
theorem m_form_has_plus (pr : Program) (w : World) (hb : Heap) (mg mb : Str → Option Value) (p : Addr) (C : (cx pr w hb mg mb p).Ok) : MethIn (cx pr w hb mg mb p) (fun _ => True) 1 (243, S "has_plus", F_form_has_plus) := ⟨228, by show keepIn (Mine.hd.heap_1 w.params) _ = true; kernel_rfl, by show isFn (Mine.hd.heap_1 w.params) _ = true; kernel_rfl, by show plainGet (Mine.hd.heap_1 w.params) _ _ = true; kernel_rfl, by show findIn (Mine.hd.heap_1 w.params) _ _ = _; kernel_rfl, fn_pure C (fa_form_has_plus pr w hb mg mb p) (tab_off (n := 0) C (by show globsOk (Mine.hd.heap_1 w.params) _ = true; kernel_rfl) no_mem no_mem no_mem no_mem (by show (List.all _ fun p => attOk (Mine.hd.heap_1 w.params) _ _) = true; kernel_rfl) (keep638 pr w hb mg mb p C))⟩
noncomputable def g_form_memory_size : Tab := ⟨[(S "takes_memory", fnv 138), (S "kind_size", fnv 145)], [(138, tabF t_takes_memory), (145, tabF t_kind_size)], [], [], [], [(243, S "kinds", ())], 638⟩
noncomputable def F_form_memory_size : List PV → T PV := runF g_form_memory_size 60 .off d_form_memory_size []
theorem m_form_memory_size (pr : Program) (w : World) (hb : Heap) (mg mb : Str → Option Value) (p : Addr) (C : (cx pr w hb mg mb p).Ok) : MethIn (cx pr w hb mg mb p) (fun _ => True) 3 (243, S "memory_size", F_form_memory_size) := ⟨235, by show keepIn (Mine.hd.heap_1 w.params) _ = true; kernel_rfl, by show isFn (Mine.hd.heap_1 w.params) _ = true; kernel_rfl, by show plainGet (Mine.hd.heap_1 w.params) _ _ = true; kernel_rfl, by show findIn (Mine.hd.heap_1 w.params) _ _ = _; kernel_rfl, fn_pure C (fa_form_memory_size pr w hb mg mb p) (tab_off (n := 2) C (by show globsOk (Mine.hd.heap_1 w.params) _ = true; kernel_rfl) (List.forall_mem_cons.mpr ⟨(f_takes_memory pr w hb mg mb p C).up (by decide : 1 ≤ 2), (List.forall_mem_cons.mpr ⟨(f_kind_size pr w hb mg mb p C).up (by decide : 2 ≤ 2), no_mem⟩)⟩) no_mem no_mem no_mem (by show (List.all _ fun p => attOk (Mine.hd.heap_1 w.params) _ _) = true; kernel_rfl) (keep638 pr w hb mg mb p C))⟩
noncomputable def g_form_needs_memory : Tab := ⟨[(S "any", biv "any")], [], [], [], [], [(243, S "kinds", ())], 638⟩
noncomputable def F_form_needs_memory : List PV → T PV := runF g_form_needs_memory 60 .off d_form_needs_memory []
theorem m_form_needs_memory (pr : Program) (w : World) (hb : Heap) (mg mb : Str → Option Value) (p : Addr) (C : (cx pr w hb mg mb p).Ok) : MethIn (cx pr w hb mg mb p) (fun _ => True) 1 (243, S "needs_memory", F_form_needs_memory) := ⟨240, by show keepIn (Mine.hd.heap_1 w.params) _ = true; kernel_rfl, by show isFn (Mine.hd.heap_1 w.params) _ = true; kernel_rfl, by show plainGet (Mine.hd.heap_1 w.params) _ _ = true; kernel_rfl, by show findIn (Mine.hd.heap_1 w.params) _ _ = _; kernel_rfl, fn_pure C (fa_form_needs_memory pr w hb mg mb p) (tab_off (n := 0) C (by show globsOk (Mine.hd.heap_1 w.params) _ = true; kernel_rfl) no_mem no_mem no_mem no_mem (by show (List.all _ fun p => attOk (Mine.hd.heap_1 w.params) _ _) = true; kernel_rfl) (keep638 pr w hb mg mb p C))⟩
noncomputable def g_matches : Tab := ⟨[(S "len", biv "len"), (S "zip", tyv "zip"), (S "takes", fnv 187)], [(187, F_takes)], [], [], [], [(243, S "name", ()), (243, S "kinds", ()), (243, S "size", ()), (522, S "name", ()), (522, S "operands", ())], 638⟩
noncomputable def F_matches : List PV → T PV := runF g_matches 60 .off d_matches []
theorem f_matches (pr : Program) (w : World) (hb : Heap) (mg mb : Str → Option Value) (p : Addr) (C : (cx pr w hb mg mb p).Ok) : FnIn (cx pr w hb mg mb p) (fun _ => True) 6 (254, F_matches) := ⟨by show keepIn (Mine.hd.heap_1 w.params) _ = true; kernel_rfl, fn_pure C (fa_matches pr w hb mg mb p) (tab_off (n := 5) C (by show globsOk (Mine.hd.heap_1 w.params) _ = true; kernel_rfl) (List.forall_mem_cons.mpr ⟨(f_takes pr w hb mg mb p C).up (by decide : 5 ≤ 5), no_mem⟩) no_mem no_mem no_mem (by show (List.all _ fun p => attOk (Mine.hd.heap_1 w.params) _ _) = true; kernel_rfl) (keep638 pr w hb mg mb p C))⟩
noncomputable def g_can_lock : Tab := ⟨[(S "LOCKED", .str (S "add adc and or sbb sub xor inc dec neg not xchg xadd cmpxchg bts btr btc")), (S "len", biv "len"), (S "takes_memory", fnv 138)], [(138, tabF t_takes_memory)], [], [], [], [(243, S "name", ()), (243, S "kinds", ())], 638⟩
noncomputable def F_can_lock : List PV → T PV := runF g_can_lock 60 .off d_can_lock []
theorem f_can_lock (pr : Program) (w : World) (hb : Heap) (mg mb : Str → Option Value) (p : Addr) (C : (cx pr w hb mg mb p).Ok) : FnIn (cx pr w hb mg mb p) (fun _ => True) 2 (261, F_can_lock) := ⟨by show keepIn (Mine.hd.heap_1 w.params) _ = true; kernel_rfl, fn_pure C (fa_can_lock pr w hb mg mb p) (tab_off (n := 1) C (by show globsOk (Mine.hd.heap_1 w.params) _ = true; kernel_rfl) (List.forall_mem_cons.mpr ⟨(f_takes_memory pr w hb mg mb p C).up (by decide : 1 ≤ 1), no_mem⟩) no_mem no_mem no_mem (by show (List.all _ fun p => attOk (Mine.hd.heap_1 w.params) _ _) = true; kernel_rfl) (keep638 pr w hb mg mb p C))⟩
noncomputable def g_repeats : Tab := ⟨[(S "MOVED", .str (S "movsb movsw movsd movsq stosb stosw stosd stosq lodsb lodsw lodsd lodsq")), (S "COMPARED", .str (S "cmpsb cmpsw cmpsd cmpsq scasb scasw scasd scasq"))], [], [], [], [], [], 638⟩
noncomputable def F_repeats : List PV → T PV := runF g_repeats 60 .off d_repeats []
theorem f_repeats (pr : Program) (w : World) (hb : Heap) (mg mb : Str → Option Value) (p : Addr) (C : (cx pr w hb mg mb p).Ok) : FnIn (cx pr w hb mg mb p) (fun _ => True) 1 (268, F_repeats) := ⟨by show keepIn (Mine.hd.heap_1 w.params) _ = true; kernel_rfl, fn_pure C (fa_repeats pr w hb mg mb p) (tab_off (n := 0) C (by show globsOk (Mine.hd.heap_1 w.params) _ = true; kernel_rfl) no_mem no_mem no_mem no_mem (by show (List.all _ fun p => attOk (Mine.hd.heap_1 w.params) _ _) = true; kernel_rfl) (keep638 pr w hb mg mb p C))⟩
noncomputable def g_early_names : Tab := ⟨[(S "NAMES_64", .str (S "rax rcx rdx rbx rsp rbp rsi rdi")), (S "NAMES_32", .str (S "eax ecx edx ebx esp ebp esi edi")), (S "NAMES_16", .str (S "ax cx dx bx sp bp si di")), (S "NAMES_8", .str (S "al cl dl bl spl bpl sil dil"))], [], [], [], [], [], 638⟩
noncomputable def F_early_names : List PV → T PV := runF g_early_names 60 .off d_early_names []
theorem f_early_names (pr : Program) (w : World) (hb : Heap) (mg mb : Str → Option Value) (p : Addr) (C : (cx pr w hb mg mb p).Ok) : FnIn (cx pr w hb mg mb p) (fun _ => True) 1 (589, F_early_names) := ⟨by show keepIn (Mine.hd.heap_1 w.params) _ = true; kernel_rfl, fn_pure C (fa_early_names pr w hb mg mb p) (tab_off (n := 0) C (by show globsOk (Mine.hd.heap_1 w.params) _ = true; kernel_rfl) no_mem no_mem no_mem no_mem (by show (List.all _ fun p => attOk (Mine.hd.heap_1 w.params) _ _) = true; kernel_rfl) (keep638 pr w hb mg mb p C))⟩
noncomputable def g_late_ending : Tab := ⟨[], [], [], [], [], [], 638⟩
noncomputable def F_late_ending : List PV → T PV := runF g_late_ending 60 .off d_late_ending []
theorem f_late_ending (pr : Program) (w : World) (hb : Heap) (mg mb : Str → Option Value) (p : Addr) (C : (cx pr w hb mg mb p).Ok) : FnIn (cx pr w hb mg mb p) (fun _ => True) 1 (596, F_late_ending) := ⟨by show keepIn (Mine.hd.heap_1 w.params) _ = true; kernel_rfl, fn_pure C (fa_late_ending pr w hb mg mb p) (tab_off (n := 0) C (by show globsOk (Mine.hd.heap_1 w.params) _ = true; kernel_rfl) no_mem no_mem no_mem no_mem (by show (List.all _ fun p => attOk (Mine.hd.heap_1 w.params) _ _) = true; kernel_rfl) (keep638 pr w hb mg mb p C))⟩
noncomputable def g_gpr : Tab := ⟨[(S "early_names", fnv 589), (S "Register", fnv 578), (S "str", tyv "str"), (S "late_ending", fnv 596)], [(589, F_early_names), (596, F_late_ending)], [(578, I_Register)], [], [], [], 638⟩
noncomputable def F_gpr : List PV → T PV := runF g_gpr 60 .off d_gpr []
theorem f_gpr (pr : Program) (w : World) (hb : Heap) (mg mb : Str → Option Value) (p : Addr) (C : (cx pr w hb mg mb p).Ok) : FnIn (cx pr w hb mg mb p) (fun _ => True) 4 (603, F_gpr) := ⟨by show keepIn (Mine.hd.heap_1 w.params) _ = true; kernel_rfl, fn_pure C (fa_gpr pr w hb mg mb p) (tab_off (n := 3) C (by show globsOk (Mine.hd.heap_1 w.params) _ = true; kernel_rfl) (List.forall_mem_cons.mpr ⟨(f_early_names pr w hb mg mb p C).up (by decide : 1 ≤ 3), (List.forall_mem_cons.mpr ⟨(f_late_ending pr w hb mg mb p C).up (by decide : 1 ≤ 3), no_mem⟩)⟩) (List.forall_mem_cons.mpr ⟨(c_Register pr w hb mg mb p C).up (by decide : 3 ≤ 3), no_mem⟩) no_mem no_mem (by show (List.all _ fun p => attOk (Mine.hd.heap_1 w.params) _ _) = true; kernel_rfl) (keep638 pr w hb mg mb p C))⟩
noncomputable def g_high : Tab := ⟨[(S "Register", fnv 578), (S "HIGH_NAMES", .str (S "ah ch dh bh"))], [], [(578, I_Register)], [], [], [], 638⟩
noncomputable def F_high : List PV → T PV := runF g_high 60 .off d_high []
theorem f_high (pr : Program) (w : World) (hb : Heap) (mg mb : Str → Option Value) (p : Addr) (C : (cx pr w hb mg mb p).Ok) : FnIn (cx pr w hb mg mb p) (fun _ => True) 4 (610, F_high) := ⟨by show keepIn (Mine.hd.heap_1 w.params) _ = true; kernel_rfl, fn_pure C (fa_high pr w hb mg mb p) (tab_off (n := 3) C (by show globsOk (Mine.hd.heap_1 w.params) _ = true; kernel_rfl) no_mem (List.forall_mem_cons.mpr ⟨(c_Register pr w hb mg mb p C).up (by decide : 3 ≤ 3), no_mem⟩) no_mem no_mem (by show (List.all _ fun p => attOk (Mine.hd.heap_1 w.params) _ _) = true; kernel_rfl) (keep638 pr w hb mg mb p C))⟩
noncomputable def g_xmm : Tab := ⟨[(S "Register", fnv 578), (S "str", tyv "str")], [], [(578, I_Register)], [], [], [], 638⟩
noncomputable def F_xmm : List PV → T PV := runF g_xmm 60 .off d_xmm []
theorem f_xmm (pr : Program) (w : World) (hb : Heap) (mg mb : Str → Option Value) (p : Addr) (C : (cx pr w hb mg mb p).Ok) : FnIn (cx pr w hb mg mb p) (fun _ => True) 4 (617, F_xmm) := ⟨by show keepIn (Mine.hd.heap_1 w.params) _ = true; kernel_rfl, fn_pure C (fa_xmm pr w hb mg mb p) (tab_off (n := 3) C (by show globsOk (Mine.hd.heap_1 w.params) _ = true; kernel_rfl) no_mem (List.forall_mem_cons.mpr ⟨(c_Register pr w hb mg mb p C).up (by decide : 3 ≤ 3), no_mem⟩) no_mem no_mem (by show (List.all _ fun p => attOk (Mine.hd.heap_1 w.params) _ _) = true; kernel_rfl) (keep638 pr w hb mg mb p C))⟩
noncomputable def g_rip : Tab := ⟨[(S "Register", fnv 578)], [], [(578, I_Register)], [], [], [], 638⟩
noncomputable def F_rip : List PV → T PV := runF g_rip 60 .off d_rip []
theorem f_rip (pr : Program) (w : World) (hb : Heap) (mg mb : Str → Option Value) (p : Addr) (C : (cx pr w hb mg mb p).Ok) : FnIn (cx pr w hb mg mb p) (fun _ => True) 4 (624, F_rip) := ⟨by show keepIn (Mine.hd.heap_1 w.params) _ = true; kernel_rfl, fn_pure C (fa_rip pr w hb mg mb p) (tab_off (n := 3) C (by show globsOk (Mine.hd.heap_1 w.params) _ = true; kernel_rfl) no_mem (List.forall_mem_cons.mpr ⟨(c_Register pr w hb mg mb p C).up (by decide : 3 ≤ 3), no_mem⟩) no_mem no_mem (by show (List.all _ fun p => attOk (Mine.hd.heap_1 w.params) _ _) = true; kernel_rfl) (keep638 pr w hb mg mb p C))⟩
noncomputable def g_segment : Tab := ⟨[(S "Register", fnv 578), (S "SEGMENT_NAMES", .str (S "es cs ss ds fs gs"))], [], [(578, I_Register)], [], [], [], 638⟩
noncomputable def F_segment : List PV → T PV := runF g_segment 60 .off d_segment []
theorem f_segment (pr : Program) (w : World) (hb : Heap) (mg mb : Str → Option Value) (p : Addr) (C : (cx pr w hb mg mb p).Ok) : FnIn (cx pr w hb mg mb p) (fun _ => True) 4 (631, F_segment) := ⟨by show keepIn (Mine.hd.heap_1 w.params) _ = true; kernel_rfl, fn_pure C (fa_segment pr w hb mg mb p) (tab_off (n := 3) C (by show globsOk (Mine.hd.heap_1 w.params) _ = true; kernel_rfl) no_mem (List.forall_mem_cons.mpr ⟨(c_Register pr w hb mg mb p C).up (by decide : 3 ≤ 3), no_mem⟩) no_mem no_mem (by show (List.all _ fun p => attOk (Mine.hd.heap_1 w.params) _ _) = true; kernel_rfl) (keep638 pr w hb mg mb p C))⟩
end Mine

namespace Mine
noncomputable def regV (nm kd : Str) (n s : Int) : PV := .obj 578 [(S "name", .str nm), (S "kind", .str kd), (S "number", .int n), (S "size", .int s)]
noncomputable def oReg (r : PV) : PV := .obj 341 [(S "kind", .str (S "reg")), (S "register", r)]
noncomputable def oImm (w : Int) (n : Str) : PV := .obj 375 [(S "kind", .str (S "imm")), (S "worth", .int w), (S "name", .str n)]
noncomputable def oRel (w : Int) (n : Str) : PV := .obj 416 [(S "kind", .str (S "rel")), (S "worth", .int w), (S "name", .str n)]
noncomputable def oMem (s : Int) : PV := .obj 469 [(S "kind", .str (S "mem")), (S "base", regV (S "rbx") (S "gpr") 3 64), (S "index", .none), (S "scale", .int 1), (S "worth", .int 5), (S "size", .int s), (S "segment", .str (S "")), (S "name", .str (S ""))]
noncomputable def wReg (kd : Str) (s n : Int) : PV := .tup [.str (S "reg"), .str kd, .int s, .int n]
noncomputable def wImm (w : Int) (n : Str) : PV := .tup [.str (S "imm"), .int w, .str n]
noncomputable def wRel (w : Int) (n : Str) : PV := .tup [.str (S "rel"), .int w, .str n]
noncomputable def wMem (s : Int) : PV := .tup [.str (S "mem"), .int s]
noncomputable def agree (k : Str) (o w : PV) (s : Int) : Bool := match runT (F_takes [.str k, o, .int s]) with
  | some (.bool x) => (match runT (F_law_lets [.str k, w, .int s]) with
    | some (.bool y) => x == y
    | _ => false)
  | _ => false

noncomputable def regsL : List (PV × PV) := [(regV (S "al") (S "gpr") 0 8, wReg (S "gpr") 8 0),
  (regV (S "ax") (S "gpr") 0 16, wReg (S "gpr") 16 0),
  (regV (S "eax") (S "gpr") 0 32, wReg (S "gpr") 32 0),
  (regV (S "rax") (S "gpr") 0 64, wReg (S "gpr") 64 0),
  (regV (S "cl") (S "gpr") 1 8, wReg (S "gpr") 8 1),
  (regV (S "cx") (S "gpr") 1 16, wReg (S "gpr") 16 1),
  (regV (S "ecx") (S "gpr") 1 32, wReg (S "gpr") 32 1),
  (regV (S "rcx") (S "gpr") 1 64, wReg (S "gpr") 64 1),
  (regV (S "dl") (S "gpr") 2 8, wReg (S "gpr") 8 2),
  (regV (S "dx") (S "gpr") 2 16, wReg (S "gpr") 16 2),
  (regV (S "edx") (S "gpr") 2 32, wReg (S "gpr") 32 2),
  (regV (S "rdx") (S "gpr") 2 64, wReg (S "gpr") 64 2),
  (regV (S "bl") (S "gpr") 3 8, wReg (S "gpr") 8 3),
  (regV (S "bx") (S "gpr") 3 16, wReg (S "gpr") 16 3),
  (regV (S "ebx") (S "gpr") 3 32, wReg (S "gpr") 32 3),
  (regV (S "rbx") (S "gpr") 3 64, wReg (S "gpr") 64 3),
  (regV (S "spl") (S "gpr") 4 8, wReg (S "gpr") 8 4),
  (regV (S "sp") (S "gpr") 4 16, wReg (S "gpr") 16 4),
  (regV (S "esp") (S "gpr") 4 32, wReg (S "gpr") 32 4),
  (regV (S "rsp") (S "gpr") 4 64, wReg (S "gpr") 64 4),
  (regV (S "bpl") (S "gpr") 5 8, wReg (S "gpr") 8 5),
  (regV (S "bp") (S "gpr") 5 16, wReg (S "gpr") 16 5),
  (regV (S "ebp") (S "gpr") 5 32, wReg (S "gpr") 32 5),
  (regV (S "rbp") (S "gpr") 5 64, wReg (S "gpr") 64 5),
  (regV (S "sil") (S "gpr") 6 8, wReg (S "gpr") 8 6),
  (regV (S "si") (S "gpr") 6 16, wReg (S "gpr") 16 6),
  (regV (S "esi") (S "gpr") 6 32, wReg (S "gpr") 32 6),
  (regV (S "rsi") (S "gpr") 6 64, wReg (S "gpr") 64 6),
  (regV (S "dil") (S "gpr") 7 8, wReg (S "gpr") 8 7),
  (regV (S "di") (S "gpr") 7 16, wReg (S "gpr") 16 7),
  (regV (S "edi") (S "gpr") 7 32, wReg (S "gpr") 32 7),
  (regV (S "rdi") (S "gpr") 7 64, wReg (S "gpr") 64 7),
  (regV (S "r8b") (S "gpr") 8 8, wReg (S "gpr") 8 8),
  (regV (S "r8w") (S "gpr") 8 16, wReg (S "gpr") 16 8),
  (regV (S "r8d") (S "gpr") 8 32, wReg (S "gpr") 32 8),
  (regV (S "r8") (S "gpr") 8 64, wReg (S "gpr") 64 8),
  (regV (S "r9b") (S "gpr") 9 8, wReg (S "gpr") 8 9),
  (regV (S "r9w") (S "gpr") 9 16, wReg (S "gpr") 16 9),
  (regV (S "r9d") (S "gpr") 9 32, wReg (S "gpr") 32 9),
  (regV (S "r9") (S "gpr") 9 64, wReg (S "gpr") 64 9),
  (regV (S "r10b") (S "gpr") 10 8, wReg (S "gpr") 8 10),
  (regV (S "r10w") (S "gpr") 10 16, wReg (S "gpr") 16 10),
  (regV (S "r10d") (S "gpr") 10 32, wReg (S "gpr") 32 10),
  (regV (S "r10") (S "gpr") 10 64, wReg (S "gpr") 64 10),
  (regV (S "r11b") (S "gpr") 11 8, wReg (S "gpr") 8 11),
  (regV (S "r11w") (S "gpr") 11 16, wReg (S "gpr") 16 11),
  (regV (S "r11d") (S "gpr") 11 32, wReg (S "gpr") 32 11),
  (regV (S "r11") (S "gpr") 11 64, wReg (S "gpr") 64 11),
  (regV (S "r12b") (S "gpr") 12 8, wReg (S "gpr") 8 12),
  (regV (S "r12w") (S "gpr") 12 16, wReg (S "gpr") 16 12),
  (regV (S "r12d") (S "gpr") 12 32, wReg (S "gpr") 32 12),
  (regV (S "r12") (S "gpr") 12 64, wReg (S "gpr") 64 12),
  (regV (S "r13b") (S "gpr") 13 8, wReg (S "gpr") 8 13),
  (regV (S "r13w") (S "gpr") 13 16, wReg (S "gpr") 16 13),
  (regV (S "r13d") (S "gpr") 13 32, wReg (S "gpr") 32 13),
  (regV (S "r13") (S "gpr") 13 64, wReg (S "gpr") 64 13),
  (regV (S "r14b") (S "gpr") 14 8, wReg (S "gpr") 8 14),
  (regV (S "r14w") (S "gpr") 14 16, wReg (S "gpr") 16 14),
  (regV (S "r14d") (S "gpr") 14 32, wReg (S "gpr") 32 14),
  (regV (S "r14") (S "gpr") 14 64, wReg (S "gpr") 64 14),
  (regV (S "r15b") (S "gpr") 15 8, wReg (S "gpr") 8 15),
  (regV (S "r15w") (S "gpr") 15 16, wReg (S "gpr") 16 15),
  (regV (S "r15d") (S "gpr") 15 32, wReg (S "gpr") 32 15),
  (regV (S "r15") (S "gpr") 15 64, wReg (S "gpr") 64 15),
  (regV (S "ah") (S "high") 4 8, wReg (S "high") 8 4),
  (regV (S "ch") (S "high") 5 8, wReg (S "high") 8 5),
  (regV (S "dh") (S "high") 6 8, wReg (S "high") 8 6),
  (regV (S "bh") (S "high") 7 8, wReg (S "high") 8 7),
  (regV (S "fs") (S "segment") 4 16, wReg (S "segment") 16 4),
  (regV (S "xmm0") (S "xmm") 0 128, wReg (S "xmm") 128 0),
  (regV (S "xmm1") (S "xmm") 1 128, wReg (S "xmm") 128 1),
  (regV (S "xmm2") (S "xmm") 2 128, wReg (S "xmm") 128 2),
  (regV (S "xmm3") (S "xmm") 3 128, wReg (S "xmm") 128 3),
  (regV (S "xmm4") (S "xmm") 4 128, wReg (S "xmm") 128 4),
  (regV (S "xmm5") (S "xmm") 5 128, wReg (S "xmm") 128 5),
  (regV (S "xmm6") (S "xmm") 6 128, wReg (S "xmm") 128 6),
  (regV (S "xmm7") (S "xmm") 7 128, wReg (S "xmm") 128 7),
  (regV (S "xmm8") (S "xmm") 8 128, wReg (S "xmm") 128 8),
  (regV (S "xmm9") (S "xmm") 9 128, wReg (S "xmm") 128 9),
  (regV (S "xmm10") (S "xmm") 10 128, wReg (S "xmm") 128 10),
  (regV (S "xmm11") (S "xmm") 11 128, wReg (S "xmm") 128 11),
  (regV (S "xmm12") (S "xmm") 12 128, wReg (S "xmm") 128 12),
  (regV (S "xmm13") (S "xmm") 13 128, wReg (S "xmm") 128 13),
  (regV (S "xmm14") (S "xmm") 14 128, wReg (S "xmm") 128 14),
  (regV (S "xmm15") (S "xmm") 15 128, wReg (S "xmm") 128 15),
  (regV (S "rip") (S "rip") 0 64, wReg (S "rip") 64 0)]
noncomputable def numsL : List Int := [-2, -1, 0, 1, 126, 127, 128, 129, 254, 255, 256, 257, -130, -129, -128, -127, 18446744073709551486, 18446744073709551487, 18446744073709551488, 18446744073709551489, 4294967166, 4294967167, 4294967168, 4294967169, 32766, 32767, 32768, 32769, 65534, 65535, 65536, 65537, -32770, -32769, -32768, -32767, 18446744073709518846, 18446744073709518847, 18446744073709518848, 18446744073709518849, 2147483646, 2147483647, 2147483648, 2147483649, 4294967294, 4294967295, 4294967296, 4294967297, -2147483650, -2147483649, -2147483648, -2147483647, 18446744071562067966, 18446744071562067967, 18446744071562067968, 18446744071562067969, 9223372036854775806, 9223372036854775807, 9223372036854775808, 9223372036854775809, 18446744073709551614, 18446744073709551615, 18446744073709551616, 18446744073709551617, -9223372036854775810, -9223372036854775809, -9223372036854775808, -9223372036854775807]
noncomputable def memsL : List Int := [0, 8, 16, 32, 64, 128]
noncomputable def fixedL : List Str := [S "al", S "ax", S "eax", S "rax", S "cl", S "dx"]
noncomputable def freeL : List Str := [S "one", S "r8", S "r16", S "r32", S "r64", S "rm8", S "rm16", S "rm32", S "rm64", S "o8", S "o16", S "o32", S "o64", S "m", S "m8", S "m64", S "m128", S "x", S "xm32", S "xm64", S "xm128", S "imm8", S "imm16", S "imm32", S "imm64", S "uimm8", S "uimm16", S "simm8", S "simm32", S "rel8", S "rel32"]
theorem agree_fix0 (s : Int) : (regsL.all fun r => agree (S "al") (oReg r.1) r.2 s) = true := by kernel_rfl
theorem agree_fix1 (s : Int) : (regsL.all fun r => agree (S "ax") (oReg r.1) r.2 s) = true := by kernel_rfl
theorem agree_fix2 (s : Int) : (regsL.all fun r => agree (S "eax") (oReg r.1) r.2 s) = true := by kernel_rfl
theorem agree_fix3 (s : Int) : (regsL.all fun r => agree (S "rax") (oReg r.1) r.2 s) = true := by kernel_rfl
theorem agree_fix4 (s : Int) : (regsL.all fun r => agree (S "cl") (oReg r.1) r.2 s) = true := by kernel_rfl
theorem agree_fix5 (s : Int) : (regsL.all fun r => agree (S "dx") (oReg r.1) r.2 s) = true := by kernel_rfl
theorem agree_free0 (nm : Str) (n s : Int) : (freeL.all fun k => agree k (oReg (regV nm (S "gpr") n 8)) (wReg (S "gpr") 8 n) s) = true := by kernel_rfl
theorem agree_free1 (nm : Str) (n s : Int) : (freeL.all fun k => agree k (oReg (regV nm (S "gpr") n 16)) (wReg (S "gpr") 16 n) s) = true := by kernel_rfl
theorem agree_free2 (nm : Str) (n s : Int) : (freeL.all fun k => agree k (oReg (regV nm (S "gpr") n 32)) (wReg (S "gpr") 32 n) s) = true := by kernel_rfl
theorem agree_free3 (nm : Str) (n s : Int) : (freeL.all fun k => agree k (oReg (regV nm (S "gpr") n 64)) (wReg (S "gpr") 64 n) s) = true := by kernel_rfl
theorem agree_free4 (nm : Str) (n s : Int) : (freeL.all fun k => agree k (oReg (regV nm (S "high") n 8)) (wReg (S "high") 8 n) s) = true := by kernel_rfl
theorem agree_free5 (nm : Str) (n s : Int) : (freeL.all fun k => agree k (oReg (regV nm (S "xmm") n 128)) (wReg (S "xmm") 128 n) s) = true := by kernel_rfl
theorem agree_free6 (nm : Str) (n s : Int) : (freeL.all fun k => agree k (oReg (regV nm (S "segment") n 16)) (wReg (S "segment") 16 n) s) = true := by kernel_rfl
theorem agree_free7 (nm : Str) (n s : Int) : (freeL.all fun k => agree k (oReg (regV nm (S "rip") n 64)) (wReg (S "rip") 64 n) s) = true := by kernel_rfl
theorem agree_mem (s : Int) : (kindsL.all fun k => memsL.all fun m => agree k (oMem m) (wMem m) s) = true := by kernel_rfl
noncomputable def norelL : List Str := [S "al", S "ax", S "eax", S "rax", S "cl", S "dx", S "one", S "r8", S "r16", S "r32", S "r64", S "rm8", S "rm16", S "rm32", S "rm64", S "o8", S "o16", S "o32", S "o64", S "m", S "m8", S "m64", S "m128", S "x", S "xm32", S "xm64", S "xm128", S "imm8", S "imm16", S "imm32", S "imm64", S "uimm8", S "uimm16", S "simm8", S "simm32"]
theorem agree_rel0 (w s : Int) : (norelL.all fun k => agree k (oRel w (S "")) (wRel w (S "")) s) = true := by kernel_rfl
theorem agree_rel8 (s : Int) : (numsL.all fun m => agree (S "rel8") (oRel m (S "")) (wRel m (S "")) s) = true := by kernel_rfl
theorem agree_rel32 (s : Int) : (numsL.all fun m => agree (S "rel32") (oRel m (S "")) (wRel m (S "")) s) = true := by kernel_rfl
theorem agree_relN (s w : Int) : (kindsL.all fun k => agree k (oRel w (S "there")) (wRel w (S "there")) s) = true := by kernel_rfl
theorem agree_immN (s w : Int) : (kindsL.all fun k => agree k (oImm w (S "there")) (wImm w (S "there")) s) = true := by kernel_rfl
noncomputable def noimmL : List Str := [S "al", S "ax", S "eax", S "rax", S "cl", S "dx", S "r8", S "r16", S "r32", S "r64", S "rm8", S "rm16", S "rm32", S "rm64", S "o8", S "o16", S "o32", S "o64", S "m", S "m8", S "m64", S "m128", S "x", S "xm32", S "xm64", S "xm128", S "rel8", S "rel32"]
theorem agree_imm0 (w s : Int) : (noimmL.all fun k => agree k (oImm w (S "")) (wImm w (S "")) s) = true := by kernel_rfl
theorem agree_one (s : Int) : (numsL.all fun m => agree (S "one") (oImm m (S "")) (wImm m (S "")) s) = true := by kernel_rfl
theorem agree_imm8 (s : Int) : (numsL.all fun m => agree (S "imm8") (oImm m (S "")) (wImm m (S "")) s) = true := by kernel_rfl
theorem agree_imm16 (s : Int) : (numsL.all fun m => agree (S "imm16") (oImm m (S "")) (wImm m (S "")) s) = true := by kernel_rfl
theorem agree_imm32 (s : Int) : (numsL.all fun m => agree (S "imm32") (oImm m (S "")) (wImm m (S "")) s) = true := by kernel_rfl
theorem agree_imm64 (s : Int) : (numsL.all fun m => agree (S "imm64") (oImm m (S "")) (wImm m (S "")) s) = true := by kernel_rfl
theorem agree_uimm8 (s : Int) : (numsL.all fun m => agree (S "uimm8") (oImm m (S "")) (wImm m (S "")) s) = true := by kernel_rfl
theorem agree_uimm16 (s : Int) : (numsL.all fun m => agree (S "uimm16") (oImm m (S "")) (wImm m (S "")) s) = true := by kernel_rfl
theorem agree_simm8_16 : (numsL.all fun m => agree (S "simm8") (oImm m (S "")) (wImm m (S "")) 16) = true := by kernel_rfl
theorem agree_simm8_32 : (numsL.all fun m => agree (S "simm8") (oImm m (S "")) (wImm m (S "")) 32) = true := by kernel_rfl
theorem agree_simm8_64 : (numsL.all fun m => agree (S "simm8") (oImm m (S "")) (wImm m (S "")) 64) = true := by kernel_rfl
theorem agree_simm32_64 : (numsL.all fun m => agree (S "simm32") (oImm m (S "")) (wImm m (S "")) 64) = true := by kernel_rfl
end Mine

namespace Mine

theorem sat_conv {α : Type} {t t' : T α} {b : Nat} {post : Nat → α → Prop} (e : t = t') (h : Sat b t' post) : Sat b t post := e ▸ h
noncomputable def fnv' (a : Addr) : PV := .raw (.ref a)
noncomputable def g_law_next : Tab := ⟨[(S "len", .raw (.builtin "len")), (S "abs", .raw (.builtin "abs"))], [], [], [], [], [], 638⟩
/-- the frame of _law_next -/
noncomputable abbrev ρ0 (m : Int) : PEnv := [(S "pen", .pen), (S "many", .int m)]
noncomputable abbrev σ0 (P : List Int × Int × Int) : Sg := { pen := .at P }
noncomputable def stm (i : Nat) : Stmt := match d_law_next.body[i]? with
  | some s => s
  | none => .Pass default
theorem exs_cons' {Γ : Tab} {k : Nat} {sc : Scope} {ρ : PEnv} {σ : Sg} {st : Stmt} {ss : List Stmt} {b : Nat} {post : Nat → PF × PEnv × Sg → Prop} (h : Sat b ((Rn Γ k).ex sc ρ σ st) fun b' q => (q.1 = .nxt ∧ Sat b' ((Rn Γ k).exs sc q.2.1 q.2.2 ss) post) ∨ (∃ v, q.1 = .ret v ∧ post b' q)) :
    Sat b ((Rn Γ (k + 1)).exs sc ρ σ (st :: ss)) post := by
  show Sat b (((Rn Γ k).ex sc ρ σ st).bind _) post
  rw [sat_bind]
  refine sat_mono (fun b' q hq => ?_) h
  obtain ⟨f, ρ', σ'⟩ := q
  rcases hq with ⟨e, hq⟩ | ⟨v, e, hq⟩
  · cases e; exact hq
  · cases e; exact sat_ret.mpr hq
theorem next_body : d_law_next.body = [stm 0, stm 1, stm 2, stm 3, stm 4, stm 5, stm 6] := by kernel_rfl
theorem next_s0 (cells : List Int) (spot kk m : Int) : (Rn g_law_next 50).ex d_law_next.sc (ρ0 m) (σ0 (cells, spot, kk)) (stm 0) =
    .br (decide (kk > 0)) (ok1 true (ok1 (decide (m ≠ 0)) (ok1 true (ok1 true (ok1 true (ok1 (decide (m ≠ 0)) (ok1 (decide (m.natAbs < 1073741824)) (.ret (.ret (.int (Int.fmod kk m)), [(S "pen", .pen), (S "many", .int m), (S "found", .int (Int.fmod kk m))], σ0 (cells, spot, Int.fdiv kk m))))))))))
      (.ret (.nxt, ρ0 m, σ0 (cells, spot, kk))) := by kernel_rfl
noncomputable abbrev ρ1 (m spot : Int) : PEnv := [(S "pen", .pen), (S "many", .int m), (S "spot", .int spot)]
theorem next_s1 (cells : List Int) (spot kk m : Int) : (Rn g_law_next 49).ex d_law_next.sc (ρ0 m) (σ0 (cells, spot, kk)) (stm 1) = ok1 true (.ret (.nxt, ρ1 m spot, σ0 (cells, spot, kk))) := by kernel_rfl
theorem next_s2 (cells : List Int) (spot kk m : Int) : (Rn g_law_next 48).ex d_law_next.sc (ρ1 m spot) (σ0 (cells, spot, kk)) (stm 2) = ok1 true (ok1 true (ok1 true (.ret (.nxt, ρ1 m spot, σ0 (cells, spot + 1, kk))))) := by kernel_rfl
theorem next_s3 (cells : List Int) (spot kk m : Int) : (Rn g_law_next 47).ex d_law_next.sc (ρ1 m spot) (σ0 (cells, spot + 1, kk)) (stm 3) =
    ok1 true (((ok1 true (cmp .NotEq (.lst (cells.map .int)) (.lst []))).bind fun c => .br c
      (ok1 (Nat.ble (cells.map PV.int).length 1000) (ok1 (decide ((((cells.map PV.int).length : Nat) : Int) ≠ 0)) (itemAt (cells.map .int) (Int.fmod spot ((cells.map PV.int).length : Nat)))))
      (ok1 (fitsI 4099) (ok1 (fitsI spot) (.ret (.int (4099 * spot + 17)))))).bind fun v => .ret (.nxt, setE (S "cell") v (ρ1 m spot), σ0 (cells, spot + 1, kk))) := by kernel_rfl
noncomputable abbrev ρ2 (m spot cell : Int) : PEnv := [(S "pen", .pen), (S "many", .int m), (S "spot", .int spot), (S "cell", .int cell)]
noncomputable abbrev absI (i : Int) : Int := if i < 0 then -i else i
theorem next_s4 (cells : List Int) (spot kk m cell : Int) : (Rn g_law_next 46).ex d_law_next.sc (ρ2 m spot cell) (σ0 (cells, spot + 1, kk)) (stm 4) =
    (ok1 (Nat.ble (cells.map PV.int).length 1000) (.ret (decide (spot < ((cells.map PV.int).length : Nat))))).bind fun c1 => (T.br c1
      ((ok1 true (ok1 true (ok1 (fitsI 10) (.ret (decide (absI cell ≥ 10 ^ 18)))))).bind fun c2 => .br c2 (.ret true) (.ret false)) (.ret false)).bind fun c => .br c
      (ok1 true (ok1 true (ok1 true (ok1 (fitsI 10) (ok1 true (ok1 true (ok1 true (ok1 (decide (m ≠ 0)) (ok1 (decide (m.natAbs < 1073741824)) (ok1 (decide (m ≠ 0)) (.ret (.ret (.int (Int.fmod (absI cell - 10 ^ 18) m)), ρ2 m spot cell ++ [(S "found", .int (absI cell - 10 ^ 18))], σ0 (cells, spot + 1, Int.fdiv (absI cell - 10 ^ 18) m)))))))))))))
      (.ret (.nxt, ρ2 m spot cell, σ0 (cells, spot + 1, kk))) := by kernel_rfl
noncomputable abbrev baseI (spot cell : Int) : Int := Int.fmod cell 1000000007 + 7001 * spot + 311
noncomputable abbrev ρ3 (m spot cell st : Int) : PEnv := [(S "pen", .pen), (S "many", .int m), (S "spot", .int spot), (S "cell", .int cell), (S "stirred", .int st)]
theorem next_s5 (cells : List Int) (spot kk m cell : Int) : (Rn g_law_next 45).ex d_law_next.sc (ρ2 m spot cell) (σ0 (cells, spot + 1, kk)) (stm 5) =
    ok1 true (ok1 true (ok1 true (ok1 (fitsI spot) (ok1 true (ok1 true (ok1 (fitsI (baseI spot cell)) (ok1 true (.ret (.nxt, ρ3 m spot cell (Int.fmod (baseI spot cell ^ 3) 2147483629), σ0 (cells, spot + 1, kk)))))))))) := by kernel_rfl
theorem next_s6 (cells : List Int) (spot kk m cell st : Int) : (Rn g_law_next 44).ex d_law_next.sc (ρ3 m spot cell st) (σ0 (cells, spot + 1, kk)) (stm 6) =
    ok1 (fitsI st) (ok1 (fitsI (spot + 877)) (ok1 true (ok1 (fitsI spot) (ok1 true (ok1 true (ok1 true (ok1 (decide (m ≠ 0)) (.ret (.ret (.int (Int.fmod (Int.fdiv (Int.fmod (st * (spot + 877) + 5407 * spot) 2147483587) 16) m)), ρ3 m spot cell st, σ0 (cells, spot + 1, kk)))))))))) := by kernel_rfl

theorem sat_ok {α : Type} {z : Bool} {t : T α} {b : Nat} {post : Nat → α → Prop} (h1 : z = true) (h : Sat b t post) : Sat b (ok1 z t) post := sat_br.mpr ⟨fun _ => h, fun e => by rw [h1] at e; cases e⟩
theorem toPyL_ints : ∀ l : List Int, toPyL (l.map .int) = some (l.map .int)
  | [] => rfl
  | x :: l => by
    show toPyL (.int x :: l.map .int) = _
    rw [toPyL, toPy, toPyL_ints l]; rfl
theorem pyOkL_ints : ∀ (n : Nat) (l : List Int), pyOkL n (l.map .int) = true
  | n, [] => by cases n <;> rfl
  | n, x :: l => by
    show pyOkL n (.int x :: l.map .int) = true
    rw [pyOkL, pyOkL_ints n l]
    cases n <;> rfl
theorem eq_ints (l : List Int) : eqOp (.lst (l.map .int)) (.lst []) = some l.isEmpty := by
  unfold eqOp
  rw [toPy, toPyL_ints]
  show (match pyOk 8 (.list (l.map .int)) with | true => _ | false => none) = _
  rw [pyOk, pyOkL_ints]
  cases l <;> rfl
theorem fits_of {x : Int} (h1 : -18446744073709551616 < x) (h2 : x < 18446744073709551616) : fitsI x = true := by
  unfold fitsI
  apply decide_eq_true
  omega
/-- the pen, once more drawn from -/
theorem next_sat (b : Nat) (P : List Int × Int × Int) (m : Int) (hP : PenOk (b + 1) P) (h0 : 0 < m) (h1 : m ≤ 1000) :
    Sat 0 ((Rn g_law_next 51).exs d_law_next.sc (d_law_next.params.zip [.pen, .int m]) { pen := .at P } d_law_next.body) fun _ q => ∃ i P', q.1 = .ret (.int i) ∧ q.2.2.pen = .at P' ∧ 0 ≤ i ∧ i < m ∧ PenOk b P' := by
  obtain ⟨cells, spot, kk⟩ := P
  obtain ⟨p1, p2, p3, p4⟩ := hP
  dsimp only at p1 p2 p3 p4
  have ep : d_law_next.params.zip [.pen, .int m] = ρ0 m := by kernel_rfl
  rw [ep, next_body]
  have hm : m ≠ 0 := Int.ne_of_gt h0
  have fs : fitsI spot = true := fits_of (by omega) (by omega)
  refine exs_cons' (sat_conv (next_s0 cells spot kk m) (sat_br.mpr ⟨fun hk => ?_, fun hk => ?_⟩))
  · have hk := of_decide_eq_true hk
    refine sat_ok rfl (sat_ok (decide_eq_true hm) (sat_ok rfl (sat_ok rfl (sat_ok rfl (sat_ok (decide_eq_true hm) (sat_ok (decide_eq_true (by omega)) (sat_ret.mpr (.inr ⟨_, rfl, _, (cells, spot, Int.fdiv kk m), rfl, rfl, Int.fmod_nonneg_of_pos _ h0, Int.fmod_lt_of_pos _ h0, ?_⟩))))))))
    refine ⟨p1, p2, by dsimp only; omega, ?_⟩
    show 0 ≤ Int.fdiv kk m
    rw [Int.fdiv_eq_ediv_of_nonneg _ (by omega)]
    exact Int.ediv_nonneg (by omega) (by omega)
  · refine sat_ret.mpr (.inl ⟨rfl, ?_⟩)
    refine exs_cons' (sat_conv (next_s1 cells spot kk m) (sat_ok rfl (sat_ret.mpr (.inl ⟨rfl, ?_⟩))))
    refine exs_cons' (sat_conv (next_s2 cells spot kk m) (sat_ok rfl (sat_ok rfl (sat_ok rfl (sat_ret.mpr (.inl ⟨rfl, ?_⟩))))))
    have pen1 : ∀ kk' : Int, 0 ≤ kk' → PenOk b (cells, spot + 1, kk') := fun kk' h => ⟨p1, by dsimp only; omega, by dsimp only; omega, h⟩
    have len1 : Nat.ble (cells.map PV.int).length 1000 = true := by
      rw [List.length_map]
      exact Nat.ble_eq_true_of_le (by omega)
    have kk0 : kk = 0 := by
      have := of_decide_eq_false hk
      omega
    have rest : ∀ cell : Int, Sat 0 ((Rn g_law_next 47).exs d_law_next.sc (ρ2 m spot cell) (σ0 (cells, spot + 1, kk)) [stm 4, stm 5, stm 6]) fun _ q => ∃ i P', q.1 = .ret (.int i) ∧ q.2.2.pen = .at P' ∧ 0 ≤ i ∧ i < m ∧ PenOk b P' := by
      intro cell
      refine exs_cons' (sat_conv (next_s4 cells spot kk m cell) ?_)
      rw [sat_bind]
      refine sat_ok len1 (sat_ret.mpr ?_)
      rw [sat_bind]
      have tail : Sat 0 (T.ret (α := PF × PEnv × Sg) (.nxt, ρ2 m spot cell, σ0 (cells, spot + 1, kk))) fun b' q => (q.1 = .nxt ∧ Sat b' ((Rn g_law_next 46).exs d_law_next.sc q.2.1 q.2.2 [stm 5, stm 6]) fun _ q => ∃ i P', q.1 = .ret (.int i) ∧ q.2.2.pen = .at P' ∧ 0 ≤ i ∧ i < m ∧ PenOk b P') ∨ (∃ v, q.1 = .ret v ∧ ∃ i P', q.1 = .ret (.int i) ∧ q.2.2.pen = .at P' ∧ 0 ≤ i ∧ i < m ∧ PenOk b P') := by
        refine sat_ret.mpr (.inl ⟨rfl, ?_⟩)
        have e1 := Int.fmod_nonneg_of_pos cell (b := 1000000007) (by decide)
        have e2 := Int.fmod_lt_of_pos cell (b := 1000000007) (by decide)
        have fb : fitsI (baseI spot cell) = true := by
          apply fits_of
          · show _ < Int.fmod cell 1000000007 + 7001 * spot + 311
            omega
          · show Int.fmod cell 1000000007 + 7001 * spot + 311 < _
            omega
        refine exs_cons' (sat_conv (next_s5 cells spot kk m cell) (sat_ok rfl (sat_ok rfl (sat_ok rfl (sat_ok fs (sat_ok rfl (sat_ok rfl (sat_ok fb (sat_ok rfl (sat_ret.mpr (.inl ⟨rfl, ?_⟩)))))))))))
        have e3 := Int.fmod_nonneg_of_pos (baseI spot cell ^ 3) (b := 2147483629) (by decide)
        have e4 := Int.fmod_lt_of_pos (baseI spot cell ^ 3) (b := 2147483629) (by decide)
        generalize Int.fmod (baseI spot cell ^ 3) 2147483629 = st at e3 e4 ⊢
        refine exs_cons' (sat_conv (next_s6 cells spot kk m cell st) (sat_ok (fits_of (by omega) (by omega)) (sat_ok (fits_of (by omega) (by omega)) (sat_ok rfl (sat_ok fs (sat_ok rfl (sat_ok rfl (sat_ok rfl (sat_ok (decide_eq_true hm) (sat_ret.mpr (.inr ⟨_, rfl, _, (cells, spot + 1, kk), rfl, rfl, Int.fmod_nonneg_of_pos _ h0, Int.fmod_lt_of_pos _ h0, ?_⟩)))))))))))
        exact pen1 _ (by omega)
      have fm : decide (m ≠ 0) = true := decide_eq_true hm
      have fn : decide (m.natAbs < 1073741824) = true := decide_eq_true (by omega)
      refine sat_br.mpr ⟨fun _ => ?_, fun _ => sat_ret.mpr (sat_br.mpr ⟨fun h => (by cases h), fun _ => tail⟩)⟩
      rw [sat_bind]
      refine sat_ok rfl (sat_ok rfl (sat_ok rfl (sat_ret.mpr ?_)))
      refine sat_br.mpr ⟨fun hc => sat_ret.mpr (sat_br.mpr ⟨fun _ => ?_, fun h => by cases h⟩), fun _ => sat_ret.mpr (sat_br.mpr ⟨fun h => (by cases h), fun _ => tail⟩)⟩
      have hc := of_decide_eq_true hc
      refine sat_ok rfl (sat_ok rfl (sat_ok rfl (sat_ok rfl (sat_ok rfl (sat_ok rfl (sat_ok rfl (sat_ok fm (sat_ok fn (sat_ok fm (sat_ret.mpr (.inr ⟨_, rfl, _, (cells, spot + 1, _), rfl, rfl, Int.fmod_nonneg_of_pos _ h0, Int.fmod_lt_of_pos _ h0, pen1 _ ?_⟩)))))))))))
      rw [Int.fdiv_eq_ediv_of_nonneg _ (by omega)]
      exact Int.ediv_nonneg (by omega) (by omega)
    refine exs_cons' (sat_conv (next_s3 cells spot kk m) (sat_ok rfl ?_))
    rw [sat_bind, sat_bind]
    refine sat_ok rfl ?_
    have ec : cmp .NotEq (.lst (cells.map .int)) (.lst []) = ok1 true (.ret (!cells.isEmpty)) := by
      show needB (eqOp (.lst (cells.map .int)) (.lst [])) (fun c => .ret (!c)) = _
      rw [eq_ints]; rfl
    rw [ec]
    refine sat_ok rfl (sat_ret.mpr (sat_br.mpr ⟨fun hc => ?_, fun hc => ?_⟩))
    · have hl : cells ≠ [] := by
        intro e; rw [e] at hc; cases hc
      have hp : 0 < cells.length := List.length_pos_iff.mpr hl
      have hl' : (0 : Int) < ((cells.map PV.int).length : Nat) := by rw [List.length_map]; omega
      refine sat_ok len1 (sat_ok (decide_eq_true (by omega)) ?_)
      have e1 := Int.fmod_nonneg_of_pos spot hl'
      have e2 := Int.fmod_lt_of_pos spot hl'
      generalize Int.fmod spot ((cells.map PV.int).length : Nat) = ix at e1 e2
      have hlen : (cells.map PV.int).length = cells.length := List.length_map ..
      rw [hlen] at e2
      refine sat_ok (decide_eq_true e1) (sat_ok (decide_eq_true (by omega)) (sat_need.mpr ⟨.int (cells[ix.toNat]'(by omega)), ?_, sat_ret.mpr (sat_ret.mpr (.inl ⟨rfl, rest _⟩))⟩))
      rw [List.getElem?_map, List.getElem?_eq_getElem (by omega)]; rfl
    · refine sat_ok (fits_of (by omega) (by omega)) (sat_ok fs (sat_ret.mpr (sat_ret.mpr (.inl ⟨rfl, rest _⟩))))
end Mine

namespace Mine

noncomputable def AnyP (p : PenS) : Prop := p = .any
theorem kindP_any : KindP AnyP := fun p p' e h => by
  unfold AnyP at h; subst h; cases p' <;> first | rfl | (exfalso; revert e; decide) | (cases e)
section
variable (pr : Program) (w : World) (hb : Heap) (mg mb : Str → Option Value) (p : Addr) (C : (cx pr w hb mg mb p).Ok)
include C
theorem tab_next : TabOk (cx pr w hb mg mb p) (fun p => penKind p = 1) 0 g_law_next :=
  tab_ok C (by show globsOk (Mine.hd.heap_1 w.params) _ = true; kernel_rfl) no_mem no_mem no_mem no_mem rfl (keep638 pr w hb mg mb p C) (fun sf A σ g b s m t R e1 e2 I => by rw [e2] at e1; cases e1)
theorem nxt_any (n : Nat) (hn : 1 ≤ n) (sf : Slf) (A : Around) (σ : Sg) (g : Frz) (b : Nat) (s : Shared) (m : Int) (t : Tok) (R : Room A n) (hm : AnyP σ.pen) (hm' : σ.pen = .any) (I : Inv (cx pr w hb mg mb p) sf g σ b s.heap) :
    At (cx pr w hb mg mb p) sf A σ (Rel (cx pr w hb mg mb p)) (call (.ref 638) [.ref (cx pr w hb mg mb p).p, .int m t]) (ok1 (decide (0 < m)) (ok1 (decide (m ≤ 1000)) (.next m fun i => .ret (.int i)))) g b s :=
  nxt_ok C (fa_law_next pr w hb mg mb p) (tab_next pr w hb mg mb p C) (fun b P m hP h0 h1 => next_sat b P m hP h0 h1) (by kernel_rfl) sf A σ g b s m t (R.le hn) hm' I
/-- a table for functions that draw -/
theorem tab_any {n : Nat} (hn : 1 ≤ n) {glob : List (Str × PV)} {fn : List (Addr × (List PV → T PV))} {cls : List (Addr × (List PV → T (List (Str × PV))))} {meth : List (Addr × Str × (List PV → T PV))} {att : List (Addr × Str × Unit)}
    (h1 : globsOk (Mine.hd.heap_1 w.params) glob = true) (h2 : ∀ q ∈ fn, FnIn (cx pr w hb mg mb p) AnyP n q) (h3 : ∀ q ∈ cls, ClsIn (cx pr w hb mg mb p) (fun _ => True) n q) (h5 : ∀ q ∈ meth, MethIn (cx pr w hb mg mb p) (fun _ => True) n q) (h6 : (att.all fun p => attOk (Mine.hd.heap_1 w.params) p.1 p.2.1) = true) :
    TabOk (cx pr w hb mg mb p) AnyP n ⟨glob, fn, cls, [], meth, att, 638⟩ :=
  tab_ok C h1 h2 (fun p hp => ⟨(h3 p hp).1, (h3 p hp).2.up (Nat.le_refl _) fun _ _ => trivial⟩) no_mem
    (fun p hp => by obtain ⟨f, a1, a2, a3, a4, a5⟩ := h5 p hp; exact ⟨f, a1, a2, a3, a4, a5.up (Nat.le_refl _) fun _ _ => trivial⟩) h6 (keep638 pr w hb mg mb p C) (nxt_any pr w hb mg mb p C n hn)
end
theorem FnIn.any {c : Cx} {n m : Nat} {q} (h : FnIn c (fun _ => True) n q) (hm : n ≤ m) : FnIn c AnyP m q := ⟨h.1, h.2.up hm fun _ _ => trivial⟩
theorem FnIn.any' {c : Cx} {n m : Nat} {q} (h : FnIn c AnyP n q) (hm : n ≤ m) : FnIn c AnyP m q := ⟨h.1, h.2.up hm fun _ q => q⟩
end Mine

namespace Mine

/-- the answers of a tree; none: it fails, or draws more than b times -/
noncomputable def catO {α : Type} (l : List Nat) (f : Nat → Option (List α)) : Option (List α) := List.rec (motive := fun _ => Option (List α)) (some []) (fun i _ r => match f i with
  | some x => (match r with
    | some y => some (x ++ y)
    | none => none)
  | none => none) l
theorem catO_some {α : Type} {f : Nat → Option (List α)} : ∀ {l : List Nat} {r : List α}, catO l f = some r → ∀ i ∈ l, ∃ x, f i = some x ∧ ∀ a ∈ x, a ∈ r
  | [], r, e, i, h => by cases h
  | j :: l, r, e, i, h => by
    have e : (match f j with
      | some x => (match catO l f with
        | some y => some (x ++ y)
        | none => none)
      | none => none) = some r := e
    split at e
    · rename_i x hx
      split at e
      · rename_i y hy
        cases e
        rcases List.mem_cons.mp h with q | q
        · subst q; exact ⟨x, hx, fun a ha => List.mem_append_left _ ha⟩
        · obtain ⟨z, h1, h2⟩ := catO_some hy i q
          exact ⟨z, h1, fun a ha => List.mem_append_right _ (h2 a ha)⟩
      · cases e
    · cases e
noncomputable def lvs {α : Type} (t : T α) : Nat → Option (List α) := T.rec (motive := fun _ => Nat → Option (List α)) (fun a _ => some [a]) (fun _ => none) (fun m _ ih b => match b with | 0 => none | b + 1 => catO (List.range m.toNat) fun i => ih (.ofNat i) b) (fun c _ _ x y b => match c with | true => x b | false => y b) (fun o _ k b => match o with | some v => k v b | none => none) t
theorem sat_lvs {α : Type} {t : T α} : ∀ {b n : Nat} {r : List α} {post : Nat → α → Prop}, lvs t n = some r → (∀ a ∈ r, ∀ b', b ≤ b' → post b' a) → Sat (b + n) t post := by
  induction t with
  | ret a => intro b n r post e h; cases e; exact sat_ret.mpr (h a (List.mem_cons_self ..) _ (Nat.le_add_right ..))
  | fail => intro b n r post e; cases e
  | next m k ih =>
    intro b n r post e h
    cases n with
    | zero => cases e
    | succ n =>
      refine sat_next.mpr ⟨b + n, rfl, fun i h0 h1 => ?_⟩
      obtain ⟨j, rfl⟩ := Int.eq_ofNat_of_zero_le h0
      have hj : j ∈ List.range m.toNat := List.mem_range.mpr (by omega)
      obtain ⟨x, e1, e2⟩ := catO_some e j hj
      exact ih _ e1 fun a ha => h a (e2 a ha)
  | br c x y ix iy =>
    intro b n r post e h
    refine sat_br.mpr ⟨fun hc => ?_, fun hc => ?_⟩
    · subst hc; exact ix e h
    · subst hc; exact iy e h
  | need o k ih =>
    intro b n r post e h
    cases o with
    | none => cases e
    | some v => exact sat_need.mpr ⟨v, rfl, ih v e h⟩
/-- the first draw of a tree -/
noncomputable def kid {α : Type} (t : T α) (i : Int) : T α := T.rec (motive := fun _ => T α) (fun a => .fail) .fail (fun m k _ => k i) (fun b _ _ x y => match b with | true => x | false => y) (fun o _ k => match o with | some v => k v | none => .fail) t
noncomputable def manyT {α : Type} (t : T α) : Nat := T.rec (motive := fun _ => Nat) (fun a => 0) 0 (fun m _ _ => m.toNat) (fun b _ _ x y => match b with | true => x | false => y) (fun o _ k => match o with | some v => k v | none => 0) t
theorem sat_kid {α : Type} {t : T α} : ∀ {b m : Nat} {post : Nat → α → Prop}, manyT t = m → 0 < m → (∀ i, i < m → Sat b (kid t (.ofNat i)) post) → Sat (b + 1) t post := by
  induction t with
  | ret a => intro b m post e h; cases e; exact absurd h (Nat.lt_irrefl 0)
  | fail => intro b m post e h; cases e; exact absurd h (Nat.lt_irrefl 0)
  | next m k ih =>
    intro b n post e h h1
    refine sat_next.mpr ⟨b, rfl, fun i q0 q1 => ?_⟩
    obtain ⟨j, rfl⟩ := Int.eq_ofNat_of_zero_le q0
    have e : m.toNat = n := e
    exact h1 j (by omega)
  | br c x y ix iy =>
    intro b n post e h h1
    refine sat_br.mpr ⟨fun hc => ?_, fun hc => ?_⟩
    · subst hc; exact ix e h h1
    · subst hc; exact iy e h h1
  | need o k ih =>
    intro b n post e h h1
    cases o with
    | none => subst e; cases h
    | some v => exact sat_need.mpr ⟨v, rfl, ih v e h h1⟩
noncomputable def g_law_number : Tab := ⟨[(S "_law_next", fnv 638)], [], [], [], [], [], 638⟩
noncomputable def F_law_number : List PV → T PV := runF g_law_number 60 .any d_law_number []
noncomputable def endsL (a : Int) : List Int := [0, 2 ^ (a.toNat - 1), 2 ^ a.toNat, -(2 ^ (a.toNat - 1)), 2 ^ 64 - 2 ^ (a.toNat - 1), 2 ^ 32 - 2 ^ 7]
theorem lv_number : lvs (F_law_number [.pen]) 3 = some (([8, 16, 32, 64] : List Int).flatMap fun a => (endsL a).flatMap fun e => ([-2, -1, 0, 1] : List Int).map fun i => .int (e + i)) := by kernel_rfl
end Mine

namespace Mine
noncomputable def g_law_operand : Tab := ⟨[(S "_law_next", fnv 638), (S "_law_number", fnv 650), (S "Reg", fnv 341), (S "gpr", fnv 603), (S "high", fnv 610), (S "segment", fnv 631), (S "xmm", fnv 617), (S "rip", fnv 624), (S "Mem", fnv 469), (S "Imm", fnv 375), (S "Rel", fnv 416)],
  [(650, F_law_number), (603, F_gpr), (610, F_high), (631, F_segment), (617, F_xmm), (624, F_rip)], [(341, I_Reg), (469, I_Mem), (375, I_Imm), (416, I_Rel)], [], [], [], 638⟩
noncomputable def F_law_operand : List PV → T PV := runF g_law_operand 60 .any d_law_operand []
noncomputable def wayT (i : Nat) : T PV := kid (F_law_operand [.pen]) (.ofNat i)
theorem many_operand : manyT (F_law_operand [.pen]) = 9 := by kernel_rfl
theorem lv_way4 : lvs (wayT 4) 1 = some (memsL.map fun m => .tup [oMem m, wMem m]) := by kernel_rfl
theorem lv_way5 : lvs (wayT 5) 1 = some (memsL.map fun m => .tup [oMem m, wMem m]) := by kernel_rfl
theorem lv_way0 : lvs (wayT 0) 2 = some ((regsL.take 64).map fun r => .tup [oReg r.1, r.2]) := by kernel_rfl
theorem lv_way1 : lvs (wayT 1) 2 = some ((regsL.take 64).map fun r => .tup [oReg r.1, r.2]) := by kernel_rfl
theorem lv_way2 : lvs (wayT 2) 2 = some ((regsL.take 64).map fun r => .tup [oReg r.1, r.2]) := by kernel_rfl
noncomputable def someR (l : List Nat) : List (PV × PV) := l.filterMap (regsL[·]?)
theorem lv_way3 : lvs (wayT 3) 2 = some ((someR ((List.range 16).flatMap fun n => [64 + n % 4, 68, 69 + n, 85])).map fun r => .tup [oReg r.1, r.2]) := by kernel_rfl
noncomputable def numsA : List Int := ([8, 16, 32, 64] : List Int).flatMap fun a => (endsL a).flatMap fun e => ([-2, -1, 0, 1] : List Int).map fun i => e + i
theorem lv_way6 : lvs (wayT 6) 4 = some (numsA.flatMap fun m => [.tup [oImm m (S ""), wImm m (S "")], .tup [oImm m (S ""), wImm m (S "")], .tup [oImm m (S ""), wImm m (S "")], .tup [oImm m (S "there"), wImm m (S "there")]]) := by kernel_rfl
theorem lv_way7 : lvs (wayT 7) 4 = some (numsA.flatMap fun m => [.tup [oImm m (S ""), wImm m (S "")], .tup [oImm m (S ""), wImm m (S "")], .tup [oImm m (S ""), wImm m (S "")], .tup [oImm m (S "there"), wImm m (S "there")]]) := by kernel_rfl
theorem lv_way8 : lvs (wayT 8) 4 = some (numsA.flatMap fun m => [.tup [oRel m (S ""), wRel m (S "")], .tup [oRel m (S ""), wRel m (S "")], .tup [oRel m (S "there"), wRel m (S "there")]]) := by kernel_rfl
theorem numsA_in : ∀ m ∈ numsA, m ∈ numsL := by
  have h : (numsA.all fun m => numsL.any fun n => n == m) = true := by kernel_rfl
  intro m hm
  have := List.all_eq_true.mp h m hm
  obtain ⟨n, h1, h2⟩ := List.any_eq_true.mp this
  exact (beq_iff_eq.mp h2) ▸ h1
theorem someR_in {l : List Nat} {r : PV × PV} (h : r ∈ someR l) : r ∈ regsL := by
  obtain ⟨i, _, h⟩ := List.mem_filterMap.mp h
  exact List.mem_of_getElem? h
/-- the operands that are drawn, and what the law writes of them -/
inductive OpOk : PV → PV → Prop
  | reg {r w : PV} : (r, w) ∈ regsL → OpOk (oReg r) w
  | mem {m : Int} : m ∈ memsL → OpOk (oMem m) (wMem m)
  | imm {m : Int} : m ∈ numsL → OpOk (oImm m (S "")) (wImm m (S ""))
  | immN (m : Int) : OpOk (oImm m (S "there")) (wImm m (S "there"))
  | rel {m : Int} : m ∈ numsL → OpOk (oRel m (S "")) (wRel m (S ""))
  | relN (m : Int) : OpOk (oRel m (S "there")) (wRel m (S "there"))
noncomputable def PairOk (a : PV) : Prop := ∃ o w, a = .tup [o, w] ∧ OpOk o w
theorem operand_sat (b : Nat) : Sat (b + 5) (F_law_operand [.pen]) fun b' a => b ≤ b' ∧ PairOk a := by
  have regs : ∀ {l : List (PV × PV)} {i n : Nat} (hn : n ≤ 4), lvs (wayT i) n = some (l.map fun r => .tup [oReg r.1, r.2]) → (∀ r ∈ l, r ∈ regsL) → Sat (b + 4) (wayT i) fun b' a => b ≤ b' ∧ PairOk a := by
    intro l i n hn e h
    have : b + 4 = (b + 4 - n) + n := by omega
    rw [this]
    refine sat_lvs e fun a ha b' hb => ⟨by omega, ?_⟩
    obtain ⟨r, h1, rfl⟩ := List.mem_map.mp ha
    exact ⟨_, _, rfl, .reg (h r h1)⟩
  have mems : ∀ {i : Nat}, lvs (wayT i) 1 = some (memsL.map fun m => .tup [oMem m, wMem m]) → Sat (b + 4) (wayT i) fun b' a => b ≤ b' ∧ PairOk a := by
    intro i e
    refine sat_lvs (b := b + 3) e fun a ha b' hb => ⟨by omega, ?_⟩
    obtain ⟨r, h1, rfl⟩ := List.mem_map.mp ha
    exact ⟨_, _, rfl, .mem h1⟩
  have imms : ∀ {i : Nat}, lvs (wayT i) 4 = some (numsA.flatMap fun m => [.tup [oImm m (S ""), wImm m (S "")], .tup [oImm m (S ""), wImm m (S "")], .tup [oImm m (S ""), wImm m (S "")], .tup [oImm m (S "there"), wImm m (S "there")]]) → Sat (b + 4) (wayT i) fun b' a => b ≤ b' ∧ PairOk a := by
    intro i e
    refine sat_lvs (b := b) e fun a ha b' hb => ⟨by omega, ?_⟩
    obtain ⟨m, h1, h2⟩ := List.mem_flatMap.mp ha
    have h1 := numsA_in m h1
    simp only [List.mem_cons, List.not_mem_nil, or_false] at h2
    rcases h2 with rfl | rfl | rfl | rfl
    · exact ⟨_, _, rfl, .imm h1⟩
    · exact ⟨_, _, rfl, .imm h1⟩
    · exact ⟨_, _, rfl, .imm h1⟩
    · exact ⟨_, _, rfl, .immN m⟩
  refine sat_kid many_operand (by decide) fun i hi => ?_
  have hi : i = 0 ∨ i = 1 ∨ i = 2 ∨ i = 3 ∨ i = 4 ∨ i = 5 ∨ i = 6 ∨ i = 7 ∨ i = 8 := (by decide : ∀ i, i < 9 → i = 0 ∨ i = 1 ∨ i = 2 ∨ i = 3 ∨ i = 4 ∨ i = 5 ∨ i = 6 ∨ i = 7 ∨ i = 8) i hi
  show Sat (b + 4) (wayT i) _
  rcases hi with rfl | rfl | rfl | rfl | rfl | rfl | rfl | rfl | rfl
  · exact regs (by decide) lv_way0 fun r h => List.mem_of_mem_take h
  · exact regs (by decide) lv_way1 fun r h => List.mem_of_mem_take h
  · exact regs (by decide) lv_way2 fun r h => List.mem_of_mem_take h
  · exact regs (by decide) lv_way3 fun r h => someR_in h
  · exact mems lv_way4
  · exact mems lv_way5
  · exact imms lv_way6
  · exact imms lv_way7
  · refine sat_lvs (b := b) lv_way8 fun a ha b' hb => ⟨by omega, ?_⟩
    obtain ⟨m, h1, h2⟩ := List.mem_flatMap.mp ha
    have h1 := numsA_in m h1
    simp only [List.mem_cons, List.not_mem_nil, or_false] at h2
    rcases h2 with rfl | rfl | rfl
    · exact ⟨_, _, rfl, .rel h1⟩
    · exact ⟨_, _, rfl, .rel h1⟩
    · exact ⟨_, _, rfl, .relN m⟩
end Mine

namespace Mine

/-! oracles: a pure function, known by what it gives -/
noncomputable def orcO (F : List PV → T PV) (l : List PV) : Option PV := runT (F l)
noncomputable def orcV (O : List PV → Option PV) (l : List PV) : T PV := .need (O l) .ret
noncomputable def orcD (F : List PV → T PV) (l : List PV) : Bool := match runT (F l) with
  | some (.bool _) => true
  | _ => false
noncomputable def orcB (F : List PV → T PV) (l : List PV) : Bool := match runT (F l) with
  | some (.bool b) => b
  | _ => false
noncomputable def orc (D B : List PV → Bool) (l : List PV) : T PV := ok1 (D l) (.ret (.bool (B l)))
theorem orcV_ref (F : List PV → T PV) (l : List PV) (b : Nat) (post : Nat → PV → Prop) (h : Sat b (orcV (orcO F) l) post) : Sat b (F l) post := by
  obtain ⟨v, e, h⟩ := sat_need.mp h
  exact runT_sat e (sat_ret.mp h)
theorem orc_ref (F : List PV → T PV) (l : List PV) (b : Nat) (post : Nat → PV → Prop) (h : Sat b (orc (orcD F) (orcB F) l) post) : Sat b (F l) post := by
  unfold orc orcD orcB at h
  split at h
  · rename_i x e
    refine runT_sat e ?_
    exact sat_ret.mp ((sat_br.mp h).1 rfl)
  · exact (sat_fail.mp ((sat_br.mp h).2 rfl)).elim
theorem FnIn.orcV {c : Cx} {P : PenS → Prop} {n : Nat} {a : Addr} {F : List PV → T PV} (h : FnIn c P n (a, F)) : FnIn c P n (a, Mine.orcV (orcO F)) := ⟨h.1, h.2.ref (orcV_ref F)⟩
theorem FnIn.orc {c : Cx} {P : PenS → Prop} {n : Nat} {a : Addr} {F : List PV → T PV} (h : FnIn c P n (a, F)) : FnIn c P n (a, Mine.orc (orcD F) (orcB F)) := ⟨h.1, h.2.ref (orc_ref F)⟩
theorem MethIn.orcV {c : Cx} {P : PenS → Prop} {n : Nat} {a : Addr} {x : Str} {F : List PV → T PV} (h : MethIn c P n (a, x, F)) : MethIn c P n (a, x, Mine.orcV (orcO F)) := by
  obtain ⟨f, a1, a2, a3, a4, a5⟩ := h
  exact ⟨f, a1, a2, a3, a4, a5.ref (orcV_ref F)⟩
theorem MethIn.orc {c : Cx} {P : PenS → Prop} {n : Nat} {a : Addr} {x : Str} {F : List PV → T PV} (h : MethIn c P n (a, x, F)) : MethIn c P n (a, x, Mine.orc (orcD F) (orcB F)) := by
  obtain ⟨f, a1, a2, a3, a4, a5⟩ := h
  exact ⟨f, a1, a2, a3, a4, a5.ref (orc_ref F)⟩
theorem runT_ok {α : Type} {c : Bool} {t : T α} (h : c = true) : runT (ok1 c t) = runT t := by subst h; rfl
theorem runT_br {α : Type} {c : Bool} {x y : T α} : runT (.br c x y) = match c with | true => runT x | false => runT y := rfl
theorem runT_need {α : Type} {o : Option PV} {k : PV → T α} : runT (.need o k) = match o with | some v => runT (k v) | none => none := rfl

theorem pos_succ {a k : Nat} (h : a + 1 ≤ k) : ∃ k', k = k' + 1 := by
  cases k with
  | zero => cases h
  | succ k => exact ⟨k, rfl⟩
theorem ge_m0 {l m k : Nat} (h : l + 1 + m + 1 ≤ k + 1) : ∃ j, k = j + m := ⟨k - m, by omega⟩
theorem le_split {a c b : Nat} (h : a + c ≤ b) : ∃ e, b = (a + e) + c := ⟨b - (a + c), by omega⟩
/-! what is plain data equals itself -/
theorem pyOk_self : ∀ n, (∀ d, pyOk n d = true → eqD d d = true) ∧ (∀ l, pyOkL n l = true → eqDL l l = true) := by
  intro n
  induction n with
  | zero =>
    have h1 : ∀ d, pyOk 0 d = true → eqD d d = true := by
      intro d h
      cases d with
      | none => rfl
      | bool b => exact beq_self_eq_true b
      | int i => exact beq_self_eq_true i
      | str s => exact strEq_iff.mpr rfl
      | tuple l => cases h
      | list l => cases h
      | dict l => cases h
    refine ⟨h1, ?_⟩
    intro l
    induction l with
    | nil => intro _; rfl
    | cons x l ih =>
      intro h
      unfold pyOkL at h
      split at h
      · rename_i hx
        unfold eqDL
        rw [h1 x hx, ih h]; rfl
      · cases h
  | succ n ihn =>
    have h1 : ∀ d, pyOk (n + 1) d = true → eqD d d = true := by
      intro d h
      cases d with
      | none => rfl
      | bool b => exact beq_self_eq_true b
      | int i => exact beq_self_eq_true i
      | str s => exact strEq_iff.mpr rfl
      | tuple l => exact ihn.2 l h
      | list l => exact ihn.2 l h
      | dict l => cases h
    refine ⟨h1, ?_⟩
    intro l
    induction l with
    | nil => intro _; rfl
    | cons x l ih =>
      intro h
      unfold pyOkL at h
      split at h
      · rename_i hx
        unfold eqDL
        rw [h1 x hx, ih h]; rfl
      · cases h
noncomputable def okP (x : PV) : Bool := match toPy x with
  | some d => pyOk 8 d
  | none => false
noncomputable def okPL (l : List PV) : Bool := match toPyL l with
  | some d => pyOkL 7 d
  | none => false
theorem eqOp_self {x : PV} (h : okP x = true) : eqOp x x = some true := by
  unfold okP at h
  split at h
  · rename_i d e
    unfold eqOp
    rw [e]
    simp only [h]
    rw [(pyOk_self 8).1 d h]
  · cases h

/-! a tree that gives one answer -/
noncomputable def Gv {α : Type} (t : T α) (a : α) : Prop := ∀ (b : Nat) (post : Nat → α → Prop), post b a → Sat b t post
section
variable {α β : Type}
theorem gv_ret {a : α} : Gv (.ret a) a := fun b post h => sat_ret.mpr h
theorem Gv.bind {t : T α} {f : α → T β} {a : α} {c : β} (h : Gv t a) (k : Gv (f a) c) : Gv (t.bind f) c := fun b post hp => sat_bind.mpr (h b _ (k b post hp))
theorem gv_ok {c : Bool} {t : T α} {a : α} (h : c = true) (k : Gv t a) : Gv (ok1 c t) a := fun b post hp => sat_ok h (k b post hp)
theorem gv_br {c : Bool} {x y : T α} {a : α} (h1 : c = true → Gv x a) (h2 : c = false → Gv y a) : Gv (.br c x y) a := fun b post hp => sat_br.mpr ⟨fun e => h1 e b post hp, fun e => h2 e b post hp⟩
theorem gv_t {c : Bool} {x y : T α} {a : α} (h : c = true) (k : Gv x a) : Gv (.br c x y) a := gv_br (fun _ => k) fun e => by rw [h] at e; cases e
theorem gv_f {c : Bool} {x y : T α} {a : α} (h : c = false) (k : Gv y a) : Gv (.br c x y) a := gv_br (fun e => by rw [h] at e; cases e) fun _ => k
theorem gv_need {o : Option PV} {k : PV → T α} {v : PV} {a : α} (h : o = some v) (g : Gv (k v) a) : Gv (.need o k) a := fun b post hp => sat_need.mpr ⟨v, h, g b post hp⟩
theorem gv_eq {t t' : T α} {a : α} (e : t = t') (h : Gv t' a) : Gv t a := e ▸ h
theorem gv_to {t : T α} {a c : α} (e : a = c) (h : Gv t a) : Gv t c := e ▸ h
theorem gv_run {t : T α} {a : α} (e : runT t = some a) : Gv t a := fun b post h => runT_sat e h
theorem run_sat {t : T α} : ∀ {post : Nat → α → Prop}, Sat 0 t post → ∃ a, runT t = some a ∧ post 0 a := by
  induction t with
  | ret a => intro post h; exact ⟨a, rfl, sat_ret.mp h⟩
  | fail => intro post h; exact (sat_fail.mp h).elim
  | next m k ih => intro post h; obtain ⟨c, e, _⟩ := sat_next.mp h; omega
  | br c x y ix iy =>
    intro post h
    obtain ⟨h1, h2⟩ := sat_br.mp h
    cases c with
    | true => exact ix (h1 rfl)
    | false => exact iy (h2 rfl)
  | need o k ih =>
    intro post h
    obtain ⟨v, e, h'⟩ := sat_need.mp h
    subst e
    exact ih v h'
theorem Gv.run {t : T α} {a : α} (h : Gv t a) : runT t = some a := by
  obtain ⟨x, e, rfl⟩ := run_sat (h 0 (fun _ x => x = a) rfl)
  exact e
end
theorem Gv.orcD {F : List PV → T PV} {l : List PV} {x : Bool} (h : Gv (F l) (.bool x)) : orcD F l = true := by unfold Mine.orcD; rw [h.run]
theorem Gv.orcB {F : List PV → T PV} {l : List PV} {x : Bool} (h : Gv (F l) (.bool x)) : orcB F l = x := by unfold Mine.orcB; rw [h.run]
theorem Gv.orcO {F : List PV → T PV} {l : List PV} {x : PV} (h : Gv (F l) x) : orcO F l = some x := h.run

section
variable {Γ : Tab} {sc : Scope} {ρ : PEnv} {σ : Sg}
theorem exs_nil {k : Nat} : Gv ((Rn Γ (k + 1)).exs sc ρ σ []) (.nxt, ρ, σ) := fun b post h => sat_ret.mpr h
theorem exs_gv {k : Nat} {st : Stmt} {ss : List Stmt} {ρ' : PEnv} {σ' : Sg} {q : PF × PEnv × Sg} (h1 : Gv ((Rn Γ k).ex sc ρ σ st) (.nxt, ρ', σ')) (h2 : Gv ((Rn Γ k).exs sc ρ' σ' ss) q) : Gv ((Rn Γ (k + 1)).exs sc ρ σ (st :: ss)) q :=
  fun b post hp => exs_cons' (h1 b _ (.inl ⟨rfl, h2 b post hp⟩))
theorem exs_ret {k : Nat} {st : Stmt} {ss : List Stmt} {ρ' : PEnv} {σ' : Sg} {v : PV} (h1 : Gv ((Rn Γ k).ex sc ρ σ st) (.ret v, ρ', σ')) : Gv ((Rn Γ (k + 1)).exs sc ρ σ (st :: ss)) (.ret v, ρ', σ') :=
  fun b post hp => exs_cons' (h1 b _ (.inr ⟨v, rfl, hp⟩))

variable {elt tg : Expr} {ifs : List Expr} {m0 : Nat} {ρ0 : PEnv} {ρT : PV → PEnv}
/-- a comprehension that does not draw -/
theorem comp_gv {p : PV → Bool} {f : PV → PV} : ∀ {xs : List PV} {k : Nat} {ρ0 : PEnv}, (∀ x ∈ xs, bindT true sc tg x ρ0 = some (ρT x)) → (∀ x ∈ xs, ∀ y ∈ xs, bindT true sc tg x (ρT y) = some (ρT x)) →
    (∀ x ∈ xs, ∀ j, Gv (hIfs (Rn Γ (j + m0)) sc σ (ρT x) ifs) (p x) ∧ (p x = true → Gv ((Rn Γ (j + m0)).ev sc (ρT x) σ elt) (f x))) → xs.length + m0 + 1 ≤ k →
    Gv ((Rn Γ k).comp sc ρ0 σ elt tg ifs xs) ((xs.filter p).map f)
  | [], k, ρ0, _, _, _, hk => by
    obtain ⟨k, rfl⟩ : ∃ k', k = k' + 1 := pos_succ hk
    exact fun b post h => sat_ret.mpr h
  | x :: xs, k, ρ0, h0, h1, h2, hk => by
    rw [List.length_cons] at hk
    obtain ⟨k, rfl⟩ : ∃ k', k = k' + 1 := pos_succ hk
    have ih := @comp_gv p f xs k (ρT x) (fun y hy => h1 y (List.mem_cons_of_mem _ hy) x (List.mem_cons_self ..)) (fun y hy z hz => h1 y (List.mem_cons_of_mem _ hy) z (List.mem_cons_of_mem _ hz)) (fun y hy => h2 y (List.mem_cons_of_mem _ hy)) (by omega)
    show Gv (optT (bindT true sc tg x ρ0) fun ρ' => hCompT (Rn Γ k) sc σ elt tg ifs xs ρ') _
    rw [h0 x (List.mem_cons_self ..)]
    obtain ⟨j, rfl⟩ : ∃ j, k = j + m0 := ge_m0 hk
    obtain ⟨g1, g2⟩ := h2 x (List.mem_cons_self ..) j
    refine g1.bind ?_
    cases hp : p x with
    | true =>
      refine gv_t rfl ((g2 hp).bind (ih.bind ?_))
      rw [List.filter_cons_of_pos hp]
      exact gv_ret
    | false =>
      refine gv_f rfl ?_
      rw [List.filter_cons_of_neg (by rw [hp]; decide)]
      exact ih
/-- one that draws for each of its items -/
theorem comp_draw {d : Nat} {Pv : PV → Prop} : ∀ {xs : List PV} {k b : Nat} {ρ0 : PEnv}, (∀ x ∈ xs, bindT true sc tg x ρ0 = some (ρT x)) → (∀ x ∈ xs, ∀ y ∈ xs, bindT true sc tg x (ρT y) = some (ρT x)) →
    (∀ x ∈ xs, ∀ j b, Sat (b + d) ((Rn Γ (j + m0)).ev sc (ρT x) σ elt) fun b' v => b ≤ b' ∧ Pv v) → xs.length + m0 + 1 ≤ k →
    Sat (b + d * xs.length) ((Rn Γ k).comp sc ρ0 σ elt tg [] xs) fun b' l => b ≤ b' ∧ l.length = xs.length ∧ ∀ v ∈ l, Pv v
  | [], k, b, ρ0, _, _, _, hk => by
    obtain ⟨k, rfl⟩ : ∃ k', k = k' + 1 := pos_succ hk
    exact sat_ret.mpr ⟨by omega, rfl, no_mem⟩
  | x :: xs, k, b, ρ0, h0, h1, h2, hk => by
    rw [List.length_cons] at hk
    obtain ⟨k, rfl⟩ : ∃ k', k = k' + 1 := pos_succ hk
    show Sat _ (optT (bindT true sc tg x ρ0) fun ρ' => hCompT (Rn Γ k) sc σ elt tg [] xs ρ') _
    rw [h0 x (List.mem_cons_self ..)]
    obtain ⟨j, rfl⟩ : ∃ j, k = j + m0 := ge_m0 hk
    have eb : hCompT (Rn Γ (j + m0)) sc σ elt tg [] xs (ρT x) = .br true (((Rn Γ (j + m0)).ev sc (ρT x) σ elt).bind fun y => ((Rn Γ (j + m0)).comp sc (ρT x) σ elt tg [] xs).bind fun l => .ret (y :: l)) ((Rn Γ (j + m0)).comp sc (ρT x) σ elt tg [] xs) := rfl
    show Sat _ (hCompT (Rn Γ (j + m0)) sc σ elt tg [] xs (ρT x)) _
    rw [eb]
    refine sat_br.mpr ⟨fun _ => sat_bind.mpr ?_, fun e => by cases e⟩
    rw [List.length_cons, Nat.mul_add, Nat.mul_one, ← Nat.add_assoc]
    refine sat_mono (fun b' v hv => sat_bind.mpr ?_) (h2 x (List.mem_cons_self ..) j (b + d * xs.length))
    obtain ⟨hb, hv⟩ := hv
    obtain ⟨e, rfl⟩ : ∃ e, b' = (b + e) + d * xs.length := ⟨b' - b - d * xs.length, by omega⟩
    refine sat_mono (fun b'' l hl => sat_ret.mpr ⟨by omega, by simp [hl.2.1], List.forall_mem_cons.mpr ⟨hv, hl.2.2⟩⟩) (@comp_draw d Pv xs (j + m0) (b + e) (ρT x) (fun y hy => h1 y (List.mem_cons_of_mem _ hy) x (List.mem_cons_self ..)) (fun y hy z hz => h1 y (List.mem_cons_of_mem _ hy) z (List.mem_cons_of_mem _ hz)) (fun y hy => h2 y (List.mem_cons_of_mem _ hy)) (by omega))
variable {body : List Stmt}
/-- a loop that may end with an answer -/
theorem loop_sat {p : PV → Bool} {f : PV → PV} {b : Nat} {post : Nat → PF × PEnv × Sg → Prop} : ∀ {xs : List PV} {k : Nat},
    (∀ x ∈ xs, ∀ j, ∃ ρ', bindT false sc tg x ρ = some ρ' ∧ ∃ r ρ2, Gv ((Rn Γ (j + m0)).exs sc ρ' σ body) (r, ρ2, σ) ∧ ((p x = false ∧ r = .nxt ∧ ρ2.take ρ.length = ρ) ∨ (p x = true ∧ r = .ret (f x)))) → xs.length + m0 + 1 ≤ k →
    (∀ q, (∀ x, xs.find? p = some x → q.1 = .ret (f x)) → (xs.find? p = none → q = (.nxt, ρ, σ)) → post b q) →
    Sat b ((Rn Γ k).loop sc ρ σ tg body xs) post
  | [], k, _, hk, hq => by
    obtain ⟨k, rfl⟩ : ∃ k', k = k' + 1 := pos_succ hk
    exact sat_ret.mpr (hq _ (fun x e => by cases e) fun _ => rfl)
  | x :: xs, k, h, hk, hq => by
    rw [List.length_cons] at hk
    obtain ⟨k, rfl⟩ : ∃ k', k = k' + 1 := pos_succ hk
    show Sat b (optT (bindT false sc tg x ρ) fun ρ' => hLoop (Rn Γ k) sc σ ρ.length tg body xs ρ') post
    obtain ⟨j, rfl⟩ : ∃ j, k = j + m0 := ge_m0 hk
    obtain ⟨ρ', e1, r, ρ2, g, hc⟩ := h x (List.mem_cons_self ..) j
    rw [e1]
    refine sat_bind.mpr (g b _ ?_)
    rcases hc with ⟨hp, rfl, ht⟩ | ⟨hp, rfl⟩
    · dsimp only
      rw [ht]
      refine loop_sat (fun y hy => h y (List.mem_cons_of_mem _ hy)) (by omega) fun q q1 q2 => hq q (fun y e => q1 y ?_) fun e => q2 ?_
      · rw [List.find?_cons_of_neg (by rw [hp]; decide)] at e; exact e
      · rw [List.find?_cons_of_neg (by rw [hp]; decide)] at e; exact e
    · refine sat_ret.mpr (hq _ (fun y e => ?_) fun e => ?_)
      · rw [List.find?_cons_of_pos hp] at e; cases e; rfl
      · rw [List.find?_cons_of_pos hp] at e; cases e
/-- a loop that goes to its end -/
theorem loop_gv {xs : List PV} {k : Nat} (h : ∀ x ∈ xs, ∀ j, ∃ ρ', bindT false sc tg x ρ = some ρ' ∧ ∃ ρ2, Gv ((Rn Γ (j + m0)).exs sc ρ' σ body) (.nxt, ρ2, σ) ∧ ρ2.take ρ.length = ρ) (hk : xs.length + m0 + 1 ≤ k) : Gv ((Rn Γ k).loop sc ρ σ tg body xs) (.nxt, ρ, σ) :=
  fun b post hp => loop_sat (p := fun _ => false) (f := id) (fun x hx j => by
    obtain ⟨ρ', e1, ρ2, g, ht⟩ := h x hx j
    exact ⟨ρ', e1, _, ρ2, g, .inl ⟨rfl, rfl, ht⟩⟩) hk fun q _ q2 => by
      rw [q2 (by rw [List.find?_eq_none]; intro x _; decide)]; exact hp
/-- one that draws -/
theorem loop_draw {d : Nat} : ∀ {xs : List PV} {k b : Nat}, (∀ x ∈ xs, ∀ j b, ∃ ρ', bindT false sc tg x ρ = some ρ' ∧ Sat (b + d) ((Rn Γ (j + m0)).exs sc ρ' σ body) fun b' q => b ≤ b' ∧ q.1 = .nxt ∧ q.2.1.take ρ.length = ρ ∧ q.2.2 = σ) → xs.length + m0 + 1 ≤ k →
    Sat (b + d * xs.length) ((Rn Γ k).loop sc ρ σ tg body xs) fun b' q => b ≤ b' ∧ q = (.nxt, ρ, σ)
  | [], k, b, _, hk => by
    obtain ⟨k, rfl⟩ : ∃ k', k = k' + 1 := pos_succ hk
    exact sat_ret.mpr ⟨by omega, rfl⟩
  | x :: xs, k, b, h, hk => by
    rw [List.length_cons] at hk
    obtain ⟨k, rfl⟩ : ∃ k', k = k' + 1 := pos_succ hk
    show Sat _ (optT (bindT false sc tg x ρ) fun ρ' => hLoop (Rn Γ k) sc σ ρ.length tg body xs ρ') _
    obtain ⟨j, rfl⟩ : ∃ j, k = j + m0 := ge_m0 hk
    rw [List.length_cons, Nat.mul_add, Nat.mul_one, ← Nat.add_assoc]
    obtain ⟨ρ', e1, g⟩ := h x (List.mem_cons_self ..) j (b + d * xs.length)
    rw [e1]
    refine sat_bind.mpr (sat_mono (fun b' q hq => ?_) g)
    obtain ⟨f, ρ2, σ2⟩ := q
    obtain ⟨hb, hf, ht, hs⟩ := hq
    dsimp only at hb hf ht hs
    subst hf
    dsimp only
    rw [ht, hs]
    obtain ⟨e, rfl⟩ : ∃ e, b' = (b + e) + d * xs.length := ⟨b' - b - d * xs.length, by omega⟩
    have ih := @loop_draw d xs (j + m0) (b + e) (fun y hy => h y (List.mem_cons_of_mem _ hy)) (by omega)
    exact sat_mono (fun b'' q hq => ⟨by omega, hq.2⟩) ih
end
end Mine

namespace Mine

/-! statements, seen -/
structure CA where
  x : Str
  elt : Expr
  tg : Expr
  iter : Expr
  ifs : List Expr
  scope : Scope
noncomputable def isCA (st : Stmt) : Option CA := match st with
  | .Assign targets value _ => match targets with
    | [] => none
    | t :: ts => match ts with
      | _ :: _ => none
      | [] => match t with
        | .Name x _ => match value with
          | .ListComp elt gens scope _ => match gens with
            | [] => none
            | g :: gs => match gs with
              | [] => match decide (g.is_async = 0) with
                | true => some ⟨x, elt, g.target, g.iter, g.ifs, scope⟩
                | false => none
              | _ :: _ => none
          | _ => none
        | _ => none
  | _ => none
noncomputable def dExpr : Expr := .Constant .none 0 default
noncomputable def caOf (st : Stmt) : CA := match isCA st with
  | some c => c
  | none => ⟨S "", dExpr, dExpr, dExpr, [], default⟩
noncomputable def isIf (st : Stmt) : Bool := match st with
  | .If _ _ o _ => match o with
    | [] => true
    | _ :: _ => false
  | _ => false
noncomputable def ifT (st : Stmt) : Expr := match st with
  | .If t _ _ _ => t
  | _ => dExpr
noncomputable def ifB (st : Stmt) : List Stmt := match st with
  | .If _ b _ _ => b
  | _ => []
noncomputable def isFor (st : Stmt) : Bool := match st with
  | .For _ it _ o _ => match o with
    | [] => !isSetE it
    | _ :: _ => false
  | _ => false
noncomputable def forG (st : Stmt) : Expr := match st with
  | .For t _ _ _ _ => t
  | _ => dExpr
noncomputable def forI (st : Stmt) : Expr := match st with
  | .For _ i _ _ _ => i
  | _ => dExpr
noncomputable def forB (st : Stmt) : List Stmt := match st with
  | .For _ _ b _ _ => b
  | _ => []
noncomputable def retE (st : Stmt) : Expr := match st with
  | .Return (some e) _ => e
  | _ => dExpr
noncomputable def isRet (st : Stmt) : Bool := match st with
  | .Return (some _) _ => true
  | _ => false
noncomputable def at' (l : List Stmt) (i : Nat) : Stmt := match l[i]? with
  | some s => s
  | none => .Pass default
/-- the comprehension in an expression -/
noncomputable def cpOf (e : Expr) : CA := match e with
  | .ListComp elt gens scope _ => match gens with
    | [] => ⟨S "", dExpr, dExpr, dExpr, [], default⟩
    | g :: _ => ⟨S "", elt, g.target, g.iter, g.ifs, scope⟩
  | _ => ⟨S "", dExpr, dExpr, dExpr, [], default⟩
section
variable {Γ : Tab} {sc : Scope} {ρ : PEnv} {σ : Sg} {k : Nat} {st : Stmt} {b : Nat} {post : Nat → PF × PEnv × Sg → Prop}
theorem asg_sat {ca : CA} (hs : isCA st = some ca) (h1 : stOk sc ca.x = true) (h2 : compOk sc ca.scope ca.iter = true)
    (h : Sat b ((Rn Γ k).evIter sc ρ σ ca.tg ca.iter) fun b' xs => Sat b' ((Rn Γ k).comp (relab ca.scope sc) (onlyFree ca.scope ρ) σ ca.elt ca.tg ca.ifs xs) fun b'' l => post b'' (.nxt, setE ca.x (.lst l) ρ, σ)) :
    Sat b ((Rn Γ (k + 1)).ex sc ρ σ st) post := by
  unfold isCA at hs
  split at hs
  · split at hs
    · cases hs
    · split at hs
      · cases hs
      · split at hs
        · split at hs
          · split at hs
            · cases hs
            · split at hs
              · split at hs
                · rename_i hd
                  cases hs
                  show Sat b (ok1 (stOk sc _) ((hComp1 (Rn Γ k) sc ρ σ _ _ _ _ _ _).bind fun v => .ret (.nxt, setE _ v ρ, σ))) post
                  refine sat_ok h1 (sat_bind.mpr ?_)
                  unfold hComp1
                  rw [hd]
                  refine sat_ok h2 (sat_bind.mpr ?_)
                  refine sat_mono (fun b' xs hx => ?_) h
                  refine sat_bind.mpr (sat_mono (fun b'' l hl => ?_) hx)
                  exact sat_ret.mpr (sat_ret.mpr hl)
                · cases hs
              · cases hs
          · cases hs
        · cases hs
  · cases hs
theorem asg_gv {ca : CA} {xs l : List PV} (hs : isCA st = some ca) (h1 : stOk sc ca.x = true) (h2 : compOk sc ca.scope ca.iter = true) (h3 : Gv ((Rn Γ k).evIter sc ρ σ ca.tg ca.iter) xs)
    (h4 : Gv ((Rn Γ k).comp (relab ca.scope sc) (onlyFree ca.scope ρ) σ ca.elt ca.tg ca.ifs xs) l) : Gv ((Rn Γ (k + 1)).ex sc ρ σ st) (.nxt, setE ca.x (.lst l) ρ, σ) :=
  fun b post hp => asg_sat hs h1 h2 (h3 b _ (h4 b _ hp))
theorem if_no (hs : isIf st = true) (h : Gv ((Rn Γ (k + 1)).tst sc ρ σ (ifT st)) false) : Gv ((Rn Γ (k + 2)).ex sc ρ σ st) (.nxt, ρ, σ) := by
  unfold isIf at hs
  split at hs
  · split at hs
    · exact h.bind (gv_f rfl exs_nil)
    · cases hs
  · cases hs
theorem if_yes {q : PF × PEnv × Sg} (hs : isIf st = true) (h : Gv ((Rn Γ k).tst sc ρ σ (ifT st)) true) (h2 : Gv ((Rn Γ k).exs sc ρ σ (ifB st)) q) : Gv ((Rn Γ (k + 1)).ex sc ρ σ st) q := by
  unfold isIf at hs
  split at hs
  · split at hs
    · exact h.bind (gv_t rfl h2)
    · cases hs
  · cases hs
theorem for_sat {xs : List PV} (hs : isFor st = true) (h3 : Gv ((Rn Γ k).evIter sc ρ σ (forG st) (forI st)) xs) (h4 : Sat b ((Rn Γ k).loop sc ρ σ (forG st) (forB st) xs) post) : Sat b ((Rn Γ (k + 1)).ex sc ρ σ st) post := by
  unfold isFor at hs
  split at hs
  · rename_i tg it bd o p
    split at hs
    · show Sat b (hFor (Rn Γ k) sc ρ σ tg it bd []) post
      unfold hFor
      simp only [Bool.not_eq_true'] at hs
      rw [hs]
      exact sat_bind.mpr (h3 b _ h4)
    · cases hs
  · cases hs
theorem for_satD {d : Nat} (hs : isFor st = true) (h3 : Sat b ((Rn Γ k).evIter sc ρ σ (forG st) (forI st)) fun b' xs => Sat b' ((Rn Γ k).loop sc ρ σ (forG st) (forB st) xs) post) : Sat b ((Rn Γ (k + 1)).ex sc ρ σ st) post := by
  unfold isFor at hs
  split at hs
  · rename_i tg it bd o p
    split at hs
    · show Sat b (hFor (Rn Γ k) sc ρ σ tg it bd []) post
      unfold hFor
      simp only [Bool.not_eq_true'] at hs
      rw [hs]
      exact sat_bind.mpr h3
    · cases hs
  · cases hs
theorem for_gv {xs : List PV} {q : PF × PEnv × Sg} (hs : isFor st = true) (h3 : Gv ((Rn Γ k).evIter sc ρ σ (forG st) (forI st)) xs) (h4 : Gv ((Rn Γ k).loop sc ρ σ (forG st) (forB st) xs) q) : Gv ((Rn Γ (k + 1)).ex sc ρ σ st) q :=
  fun b post hp => for_sat hs h3 (h4 b post hp)
theorem ret_gv {v : PV} (hs : isRet st = true) (h : Gv ((Rn Γ k).ev sc ρ σ (retE st)) v) : Gv ((Rn Γ (k + 1)).ex sc ρ σ st) (.ret v, ρ, σ) := by
  unfold isRet at hs
  split at hs
  · exact h.bind gv_ret
  · cases hs
/-- a function's answer -/
theorem runF_gv {d : FD} {D l : List PV} {v : PV} {ρ2 : PEnv} {σ2 : Sg} {pn : PenS} {ρ1 : PEnv} (e : zipA d.params (l ++ D) = some ρ1) (h : Gv ((Rn Γ k).exs d.sc ρ1 { pen := pn } d.body) (.ret v, ρ2, σ2)) : Gv (runF Γ k pn d D l) v := by
  unfold runF
  rw [e]
  exact h.bind gv_ret
end

/-! what is known of a kind -/
noncomputable def isK (k : Str) : Bool := kindsL.any fun x => strEq x k
theorem isK_mem {k : Str} : isK k = true ↔ k ∈ kindsL := by
  unfold isK
  rw [List.any_eq_true]
  constructor
  · rintro ⟨x, hx, e⟩; exact strEq_iff.mp e ▸ hx
  · intro h; exact ⟨k, h, strEq_iff.mpr rfl⟩
noncomputable def tabG (i : Str → Bool) (f : Str → PV) (l : List PV) : T PV := match l with
  | [x] => match x with
    | .str k => ok1 (i k) (.ret (f k))
    | _ => .fail
  | _ => .fail
theorem tabG_ref {tbl : List (Str × PV)} {f : Str → PV} (h : ∀ k ∈ kindsL, look k tbl = some (f k)) (l : List PV) (b : Nat) (post : Nat → PV → Prop) (hs : Sat b (tabG isK f l) post) : Sat b (tabF tbl l) post := by
  unfold tabG at hs
  unfold tabF
  split at hs
  · split at hs
    · obtain ⟨h1, h2⟩ := sat_br.mp hs
      rename_i k
      cases hk : isK k with
      | true => exact sat_need.mpr ⟨_, h k (isK_mem.mp hk), h1 hk⟩
      | false => exact (sat_fail.mp (h2 hk)).elim
    · exact (sat_fail.mp hs).elim
  · exact (sat_fail.mp hs).elim
theorem FnIn.tabG {c : Cx} {P : PenS → Prop} {n : Nat} {a : Addr} {tbl : List (Str × PV)} {f : Str → PV} (h : FnIn c P n (a, tabF tbl)) (hf : ∀ k ∈ kindsL, look k tbl = some (f k)) : FnIn c P n (a, Mine.tabG isK f) := ⟨h.1, h.2.ref (tabG_ref hf)⟩
noncomputable def rowOf (k : Str) : PV := match look k t_law_row with
  | some v => v
  | none => .none
noncomputable def tupAt (v : PV) (i : Nat) : PV := match v with
  | .tup l => match l[i]? with
    | some x => x
    | none => .none
  | _ => .none
noncomputable def strV (v : PV) : Str := match v with
  | .str s => s
  | _ => S ""
noncomputable def intV (v : PV) : Int := match v with
  | .int s => s
  | _ => 0
noncomputable def boolV (v : PV) : Bool := match v with
  | .bool s => s
  | _ => false
noncomputable def spK (k : Str) : Str := strV (tupAt (rowOf k) 0)
noncomputable def wiK (k : Str) : Int := intV (tupAt (rowOf k) 1)
noncomputable def ziK (k : Str) : Int := intV (tupAt (rowOf k) 2)
noncomputable def reK (k : Str) : PV := tupAt (rowOf k) 3
noncomputable def meK (k : Str) : Bool := boolV (tupAt (rowOf k) 4)
noncomputable def fxK (k : Str) : Bool := strEq (spK k) (S "fixed") && !strEq k (S "one")
noncomputable def mfL : List PV := [.str (S "m"), .str (S "m8"), .str (S "m64"), .str (S "m128")]
noncomputable def mfK (k : Str) : Bool := getB (inOp (.str k) (.tup mfL))
noncomputable def rowG (sp : Str → Str) (wi zi : Str → Int) (re : Str → PV) (me : Str → Bool) (k : Str) : PV := .tup [.str (sp k), .int (wi k), .int (zi k), re k, .bool (me k)]
noncomputable abbrev rowK : Str → PV := rowG spK wiK ziK reK meK
theorem of_map {α β : Type} {f g : α → β} {l : List α} (h : l.map f = l.map g) : ∀ a ∈ l, f a = g a := List.map_inj_left.mp h
theorem look_row : ∀ k ∈ kindsL, look k t_law_row = some (rowK k) := of_map (by kernel_rfl)
theorem look_slot : ∀ k ∈ kindsL, look k t_slot_of = some (.str (spK k)) := of_map (by kernel_rfl)
theorem look_mems : ∀ k ∈ kindsL, look k t_takes_memory = some (.bool (meK k)) := of_map (by kernel_rfl)
theorem look_size : ∀ k ∈ kindsL, look k t_kind_size = some (.int (ziK k)) := of_map (by kernel_rfl)
theorem look_width : ∀ k ∈ kindsL, look k t_kind_width = some (.int (wiK k)) := of_map (by kernel_rfl)
theorem look_fixed : ∀ k ∈ kindsL, look k t_is_fixed = some (.bool (fxK k)) := of_map (by kernel_rfl)
theorem cps_kind : ∀ k ∈ kindsL, cpsOk k.cps.toList = true := of_map (g := fun _ => true) (by kernel_rfl)
theorem cps_spot : ∀ k ∈ kindsL, cpsOk (spK k).cps.toList = true := of_map (g := fun _ => true) (by kernel_rfl)
theorem len_kind : ∀ k ∈ kindsL, Nat.ble k.length 1000 = true := of_map (g := fun _ => true) (by kernel_rfl)
theorem mf_kind : ∀ k ∈ kindsL, eqOp (.str (fsl k none (some 1))) (.str (S "m")) = inOp (.str k) (.tup mfL) := of_map (by kernel_rfl)
theorem mf_some : ∀ k ∈ kindsL, isS (inOp (.str k) (.tup mfL)) = true := of_map (g := fun _ => true) (by kernel_rfl)
theorem s32_some : ∀ k ∈ kindsL, eqOp (.str k) (.str (S "simm32")) = some (strEq k (S "simm32")) := of_map (by kernel_rfl)
theorem one_some : ∀ k ∈ kindsL, eqOp (.str k) (.str (S "one")) = some (strEq k (S "one")) := of_map (by kernel_rfl)
theorem fix_some : ∀ k ∈ kindsL, eqOp (.str (spK k)) (.str (S "fixed")) = some (strEq (spK k) (S "fixed")) := of_map (by kernel_rfl)
end Mine

namespace Mine

noncomputable def getV (o : Option PV) : PV := match o with
  | some v => v
  | none => .none
/-- the tree without needs -/
noncomputable def nf {α : Type} (t : T α) : T α := T.rec (motive := fun _ => T α) (fun a => .ret a) .fail (fun m _ ih => .next m ih) (fun c _ _ ix iy => .br c ix iy) (fun o _ ih => .br (isS o) (ih (getV o)) .fail) t
theorem sat_nf {α : Type} {t : T α} : ∀ {b : Nat} {post : Nat → α → Prop}, Sat b (nf t) post → Sat b t post := by
  induction t with
  | ret a => intro b post h; exact h
  | fail => intro b post h; exact h
  | next m k ih =>
    intro b post h
    obtain ⟨c, e, h⟩ := sat_next.mp h
    exact sat_next.mpr ⟨c, e, fun i h0 h1 => ih i (h i h0 h1)⟩
  | br c x y ix iy =>
    intro b post h
    obtain ⟨h1, h2⟩ := sat_br.mp h
    exact sat_br.mpr ⟨fun e => ix (h1 e), fun e => iy (h2 e)⟩
  | need o k ih =>
    intro b post h
    obtain ⟨h1, h2⟩ := sat_br.mp h
    cases o with
    | none => exact (sat_fail.mp (h2 rfl)).elim
    | some v => exact sat_need.mpr ⟨v, rfl, ih v (h1 rfl)⟩
section
variable {α : Type}
theorem gv_nf {t t' : T α} {a : α} (e : nf t = t') (h : Gv t' a) : Gv t a := fun b post hp => sat_nf (e ▸ h b post hp)
theorem gv_o {t : T α} {a : α} (h : Gv t a) : Gv (ok1 true t) a := gv_ok rfl h
end

/-! lists of texts -/
theorem toPyL_map {f : Str → Str} : ∀ l : List Str, toPyL (l.map fun k => .str (f k)) = some (l.map fun k => .str (f k))
  | [] => rfl
  | x :: l => by
    show toPyL (.str (f x) :: l.map fun k => .str (f k)) = _
    rw [toPyL, toPy, toPyL_map l]; rfl
theorem pyOkL_map {f : Str → Str} (n : Nat) : ∀ l : List Str, (∀ k ∈ l, cpsOk (f k).cps.toList = true) → pyOkL n (l.map fun k => .str (f k)) = true
  | [], _ => by cases n <;> rfl
  | x :: l, h => by
    show pyOkL n (.str (f x) :: l.map fun k => .str (f k)) = true
    rw [pyOkL, pyOkL_map n l fun k hk => h k (List.mem_cons_of_mem _ hk)]
    have : pyOk n (.str (f x)) = true := by
      have := h x (List.mem_cons_self ..)
      cases n <;> (unfold pyOk; exact this)
    rw [this]
theorem okP_lst {f : Str → Str} {l : List Str} (h : ∀ k ∈ l, cpsOk (f k).cps.toList = true) : okP (.lst (l.map fun k => .str (f k))) = true := by
  unfold okP
  rw [toPy, toPyL_map]
  show pyOk 8 (.list _) = true
  rw [pyOk]
  exact pyOkL_map 7 l h
theorem inOp_lst {f : Str → Str} {l : List Str} {x : Str} (h : ∀ k ∈ l, cpsOk (f k).cps.toList = true) (hx : cpsOk x.cps.toList = true) :
    inOp (.str x) (.lst (l.map fun k => .str (f k))) = some (l.any fun k => strEq (f k) x) := by
  have e1 : toPy (.str x) = some (.str x) := by rw [toPy]
  have e2 : pyOk 8 (.str x) = true := by unfold pyOk; exact hx
  unfold inOp
  rw [e1]
  dsimp only
  rw [toPyL_map]
  dsimp only
  rw [e2, pyOkL_map 8 l h]
  simp only [List.any_map]
  rfl
theorem inOp_tup {x : Str} {l : List PV} : inOp (.str x) (.tup l) = inOp (.str x) (.lst l) := rfl
theorem eq_strs {f : Str → Str} {l : List Str} (h : ∀ k ∈ l, cpsOk (f k).cps.toList = true) : eqOp (.lst (l.map fun k => .str (f k))) (.lst []) = some l.isEmpty := by
  unfold eqOp
  rw [toPy, toPyL_map]
  show (match pyOk 8 (.list (l.map fun k => .str (f k))) with | true => _ | false => none) = _
  rw [pyOk, pyOkL_map _ l h]
  cases l <;> rfl

/-! the form -/
noncomputable def formV (nm : Str) (ks P : List PV) (d s : Int) : PV := .obj 243 [(S "name", .str nm), (S "kinds", .tup ks), (S "opcode", .int 66), (S "escape", .int 1), (S "digit", .int d), (S "size", .int s), (S "must", .int 0), (S "is_wide", .bool false), (S "number", .int (-1)), (S "places", .tup P)]
noncomputable def ksV (ks : List Str) : List PV := ks.map .str
noncomputable def spV (ks : List Str) : List PV := ks.map fun k => .str (spK k)
noncomputable abbrev FV (nm : Str) (ks : List Str) (d s : Int) : PV := formV nm (ksV ks) (spV ks) d s
section
variable {nm : Str} {ks : List Str} {d s : Int} (hk : ∀ k ∈ ks, k ∈ kindsL) (hn : ks.length ≤ 3)
include hk hn
theorem len_sp : Nat.ble (spV ks).length 1000 = true := by
  unfold spV
  rw [List.length_map]
  exact Nat.ble_eq_true_of_le (by omega)
theorem len_ks : Nat.ble (ksV ks).length 1000 = true := by
  unfold ksV
  rw [List.length_map]
  exact Nat.ble_eq_true_of_le (by omega)
theorem in_sp (x : Str) (hx : cpsOk x.cps.toList = true) : inOp (.str x) (.lst (spV ks)) = some (ks.any fun k => strEq (spK k) x) := inOp_lst (fun k h => cps_spot k (hk k h)) hx
theorem in_sp' (x : Str) (hx : cpsOk x.cps.toList = true) : inOp (.str x) (.tup (spV ks)) = some (ks.any fun k => strEq (spK k) x) := in_sp hk hn x hx
theorem slots_gv : Gv (F_form_slots [FV nm ks d s]) (.lst (spV ks)) := gv_nf (by kernel_rfl) (gv_o (gv_ok (len_sp hk hn) gv_ret))
noncomputable def hasSp (ks : List Str) (x : Str) : Bool := ks.any fun k => strEq (spK k) x
theorem plus_gv : Gv (F_form_has_plus [FV nm ks d s]) (.bool (hasSp ks (S "plus"))) :=
  gv_nf (by kernel_rfl) (gv_o (gv_ok (c := isS (inOp (.str (S "plus")) (.tup (spV ks)))) (by rw [in_sp' hk hn _ (by kernel_rfl)]; rfl) (gv_to (by rw [in_sp' hk hn _ (by kernel_rfl)]; rfl) (gv_ret (a := .bool (getB (inOp (.str (S "plus")) (.tup (spV ks)))))))))
theorem modrm_gv : Gv (F_form_has_modrm [FV nm ks d s]) (.bool (decide (d ≥ 0) || (hasSp ks (S "rm") || hasSp ks (S "reg")))) := by
  refine gv_nf (t' := ok1 true (.br (decide (d ≥ 0)) (.ret (.bool (decide (d ≥ 0)))) (ok1 true (ok1 (isS (inOp (.str (S "rm")) (.tup (spV ks)))) (.br (getB (inOp (.str (S "rm")) (.tup (spV ks)))) (.ret (.bool (getB (inOp (.str (S "rm")) (.tup (spV ks))))))
    (ok1 true (ok1 (isS (inOp (.str (S "reg")) (.tup (spV ks)))) (.ret (.bool (getB (inOp (.str (S "reg")) (.tup (spV ks)))))))))))))  (by kernel_rfl) ?_
  rw [in_sp' hk hn _ (by kernel_rfl), in_sp' hk hn _ (by kernel_rfl)]
  refine gv_o (gv_br (fun h => gv_to (by rw [h]; rfl) gv_ret) fun h => gv_o (gv_o (gv_br (fun h2 => gv_to ?_ gv_ret) fun h2 => gv_o (gv_o (gv_to ?_ gv_ret)))))
  · rw [h]
    have h2 : hasSp ks (S "rm") = true := h2
    show PV.bool (hasSp ks (S "rm")) = _
    rw [h2]; rfl
  · rw [h]
    have h2 : hasSp ks (S "rm") = false := h2
    show PV.bool (hasSp ks (S "reg")) = _
    rw [h2]; rfl
theorem told_gv : Gv (F_form_told [FV nm ks d s]) (.tup [.str nm, .tup (ksV ks), .int 66, .int 1, .int d, .int s, .int 0, .bool false]) :=
  gv_nf (by kernel_rfl) (gv_o (gv_o (gv_o (gv_o (gv_o (gv_o (gv_o (gv_o (gv_o gv_ret)))))))))
end
end Mine

namespace Mine

theorem runF_sat {Γ : Tab} {k : Nat} {pn : PenS} {d : FD} {D l : List PV} {ρ1 : PEnv} {b : Nat} {post : Nat → PV → Prop} (e : zipA d.params (l ++ D) = some ρ1)
    (h : Sat b ((Rn Γ k).exs d.sc ρ1 { pen := pn } d.body) fun b' q => ∃ v, q.1 = .ret v ∧ post b' v) : Sat b (runF Γ k pn d D l) post := by
  unfold runF
  rw [e]
  refine sat_bind.mpr (sat_mono (fun b' q hq => ?_) h)
  obtain ⟨f, ρ2, σ2⟩ := q
  obtain ⟨v, e, hq⟩ := hq
  dsimp only at e
  subst e
  exact sat_ret.mpr hq
theorem look_isS {tbl : List (Str × PV)} {k : Str} {v : PV} (h : look k tbl = some v) : isS (look k tbl) = true := by rw [h]; rfl
noncomputable def msK (ks : List Str) : Int := match ks.find? meK with
  | some k => ziK k
  | none => -1
theorem find_map {α β : Type} {f : α → β} {p : β → Bool} : ∀ l : List α, (l.map f).find? p = (l.find? fun x => p (f x)).map f
  | [] => rfl
  | x :: l => by
    rw [List.map_cons]
    unfold List.find?
    cases h : p (f x) with
    | true => rfl
    | false => exact find_map l
theorem gv_look {α : Type} {o : Option PV} {f : PV → T α} {v : PV} {a : α} (h : o = some v) (g : Gv (f v) a) : Gv (ok1 (isS o) (f (getV o))) a := by subst h; exact gv_ok rfl g
section
variable {nm : Str} {ks : List Str} {d s : Int} (hk : ∀ k ∈ ks, k ∈ kindsL) (hn : ks.length ≤ 3)
include hk hn
theorem ms_gv : Gv (F_form_memory_size [FV nm ks d s]) (.int (msK ks)) := by
  intro b post hp
  have eb : d_form_memory_size.body = [at' d_form_memory_size.body 0, at' d_form_memory_size.body 1] := by kernel_rfl
  refine runF_sat (ρ1 := [(S "self", FV nm ks d s)]) (by kernel_rfl) ?_
  rw [eb]
  refine exs_cons' (k := 59) (for_sat (k := 58) (xs := ksV ks) (by kernel_rfl) (gv_nf (by kernel_rfl) (gv_o (gv_ok (len_ks hk hn) gv_ret))) ?_)
  refine loop_sat (m0 := 20) (p := fun v => meK (strV v)) (f := fun v => .int (ziK (strV v))) (fun x hx j => ?_) (by unfold ksV; rw [List.length_map]; omega) (fun q h1 h2 => ?_)
  · obtain ⟨k, hks, rfl⟩ := List.mem_map.mp hx
    have hk := hk k hks
    refine ⟨[(S "self", FV nm ks d s), (S "kind", .str k)], by kernel_rfl, ?_⟩
    have el : forB (at' d_form_memory_size.body 0) = [at' (forB (at' d_form_memory_size.body 0)) 0] := by kernel_rfl
    rw [el]
    cases hm : meK k with
    | true =>
      refine ⟨_, _, exs_ret (k := j + 19) (if_yes (k := j + 18) (by kernel_rfl) (gv_nf (by kernel_rfl) (gv_look (f := fun v => nf (truth v)) (look_mems k hk) (gv_to hm (gv_ret (a := meK k)))))
        (exs_ret (k := j + 17) (ret_gv (v := .int (ziK k)) (k := j + 16) (by kernel_rfl) (gv_nf (by kernel_rfl) (gv_look (f := fun v => .ret v) (look_size k hk) gv_ret))))), .inr ⟨hm, rfl⟩⟩
    | false =>
      refine ⟨_, _, exs_gv (k := j + 19) (if_no (k := j + 17) (by kernel_rfl) (gv_nf (by kernel_rfl) (gv_look (f := fun v => nf (truth v)) (look_mems k hk) (gv_to hm (gv_ret (a := meK k)))))) exs_nil, .inl ⟨hm, rfl, rfl⟩⟩
  · unfold ksV at h1 h2
    rw [find_map] at h1 h2
    have e : ((ks.find? fun x => meK (strV (.str x))) : Option Str) = ks.find? meK := rfl
    rw [e] at h1 h2
    cases hf : ks.find? meK with
    | some k =>
      rw [hf] at h1
      refine .inr ⟨_, h1 _ rfl, _, h1 _ rfl, ?_⟩
      have : msK ks = ziK k := by unfold msK; rw [hf]
      rw [this] at hp
      exact hp
    | none =>
      rw [hf] at h2
      have hq := h2 rfl
      subst hq
      refine .inl ⟨rfl, ?_⟩
      refine exs_ret (k := 58) (ret_gv (k := 57) (v := .int (-1)) (by kernel_rfl) (gv_nf (by kernel_rfl) gv_ret)) _ _ ?_
      refine ⟨_, rfl, ?_⟩
      have : msK ks = -1 := by unfold msK; rw [hf]
      rw [this] at hp
      exact hp
end
end Mine

namespace Mine

/-! expressions that hold comprehensions, taken apart -/
noncomputable def isCp (e : Expr) : Bool := match e with
  | .ListComp elt gens scope _ => match gens with
    | [] => false
    | g :: gs => match gs with
      | [] => decide (g.is_async = 0)
      | _ :: _ => false
  | _ => false
noncomputable def isCmp (e : Expr) : Bool := match e with
  | .Compare _ ops rs _ => match ops with
    | [] => false
    | _ :: ops => match ops with
      | [] => match rs with
        | [] => false
        | r :: rs => match rs with
          | [] => !isSetE r
          | _ :: _ => false
      | _ :: _ => false
  | _ => false
noncomputable def cmL (e : Expr) : Expr := match e with
  | .Compare l _ _ _ => l
  | _ => dExpr
noncomputable def cmO (e : Expr) : CmpOp := match e with
  | .Compare _ ops _ _ => match ops with
    | op :: _ => op
    | [] => .Eq
  | _ => .Eq
noncomputable def cmR (e : Expr) : Expr := match e with
  | .Compare _ _ rs _ => match rs with
    | r :: _ => r
    | [] => dExpr
  | _ => dExpr
noncomputable def isCallN (e : Expr) : Bool := match e with
  | .Call f args kws _ => match kws with
    | [] => match f with
      | .Name x _ => match strEq x "__debug__" with
        | true => false
        | false => noStars args && !args.isEmpty
      | _ => false
    | _ :: _ => false
  | _ => false
noncomputable def clF (e : Expr) : Str := match e with
  | .Call f _ _ _ => match f with
    | .Name x _ => x
    | _ => S ""
  | _ => S ""
noncomputable def clA (e : Expr) : List Expr := match e with
  | .Call _ args _ _ => args
  | _ => []
section
variable {Γ : Tab} {sc : Scope} {ρ : PEnv} {σ : Sg} {k : Nat} {e : Expr}
theorem cp_gv {xs l : List PV} (hs : isCp e = true) (h2 : compOk sc (cpOf e).scope (cpOf e).iter = true) (h3 : Gv ((Rn Γ k).evIter sc ρ σ (cpOf e).tg (cpOf e).iter) xs)
    (h4 : Gv ((Rn Γ k).comp (relab (cpOf e).scope sc) (onlyFree (cpOf e).scope ρ) σ (cpOf e).elt (cpOf e).tg (cpOf e).ifs xs) l) : Gv ((Rn Γ (k + 1)).ev sc ρ σ e) (.lst l) := by
  unfold isCp at hs
  split at hs
  · split at hs
    · cases hs
    · split at hs
      · show Gv (hComp1 (Rn Γ k) sc ρ σ _ _ _ _ _ _) _
        unfold hComp1
        rw [hs]
        exact gv_ok h2 (h3.bind (h4.bind gv_ret))
      · cases hs
  · cases hs
theorem cmpE_gv {a b : PV} {c : Bool} (hs : isCmp e = true) (h1 : Gv ((Rn Γ (k + 1)).ev sc ρ σ (cmL e)) a) (h2 : Gv ((Rn Γ k).ev sc ρ σ (cmR e)) b) (h3 : Gv (cmp (cmO e) a b) c) : Gv ((Rn Γ (k + 2)).ev sc ρ σ e) (.bool c) := by
  unfold isCmp at hs
  split at hs
  · split at hs
    · cases hs
    · split at hs
      · split at hs
        · cases hs
        · split at hs
          · rename_i hz _ _
            simp only [Bool.not_eq_true'] at hs
            refine h1.bind (Gv.bind (a := c) ?_ gv_ret)
            show Gv (stepC (Rn Γ k) sc ρ σ a [_] [_]) c
            unfold stepC
            dsimp only
            rw [hs]
            exact h2.bind h3
          · cases hs
      · cases hs
  · cases hs
theorem cmpT_gv {a b : PV} {c : Bool} (hs : isCmp e = true) (h1 : Gv ((Rn Γ (k + 1)).ev sc ρ σ (cmL e)) a) (h2 : Gv ((Rn Γ k).ev sc ρ σ (cmR e)) b) (h3 : Gv (cmp (cmO e) a b) c) : Gv ((Rn Γ (k + 2)).tst sc ρ σ e) c := by
  unfold isCmp at hs
  split at hs
  · split at hs
    · cases hs
    · split at hs
      · split at hs
        · cases hs
        · split at hs
          · simp only [Bool.not_eq_true'] at hs
            refine h1.bind ?_
            show Gv (stepC (Rn Γ k) sc ρ σ a [_] [_]) c
            unfold stepC
            dsimp only
            rw [hs]
            exact h2.bind h3
          · cases hs
      · cases hs
  · cases hs
theorem callN_gv {fv v : PV} {as : List PV} (hs : isCallN e = true) (hf : globV Γ sc (clF e) = some fv) (h1 : Gv ((Rn Γ k).evL sc ρ σ (clA e)) as) (h2 : Gv (callV Γ σ.pen fv as) v) : Gv ((Rn Γ (k + 1)).ev sc ρ σ e) v := by
  unfold isCallN at hs
  split at hs
  · rename_i f args kws p
    split at hs
    · split at hs
      · split at hs
        · cases hs
        · rename_i x q z hx
          rw [Bool.and_eq_true] at hs
          show Gv (hCallN Γ (Rn Γ k) sc ρ σ _ args) v
          unfold hCallN
          rw [hx, hs.1]
          dsimp only
          have hf : globV Γ sc x = some fv := hf
          rw [hf]
          cases args with
          | nil => cases hs.2
          | cons a as' => exact h1.bind h2
      · cases hs
    · cases hs
  · cases hs
theorem evL_nil : Gv ((Rn Γ (k + 1)).evL sc ρ σ []) [] := gv_ret
theorem evL_cons {es : List Expr} {v : PV} {vs : List PV} (hs : isStar e = false) (h1 : Gv ((Rn Γ k).ev sc ρ σ e) v) (h2 : Gv ((Rn Γ k).evL sc ρ σ es) vs) : Gv ((Rn Γ (k + 1)).evL sc ρ σ (e :: es)) (v :: vs) := by
  show Gv (stepL (Rn Γ k) sc ρ σ (e :: es)) _
  unfold stepL
  dsimp only
  rw [hs]
  exact h1.bind (h2.bind gv_ret)
end
theorem ks_str {ks : List Str} {x : PV} (h : x ∈ ksV ks) : ∃ k, k ∈ ks ∧ x = .str k := by
  obtain ⟨k, h1, rfl⟩ := List.mem_map.mp h
  exact ⟨k, h1, rfl⟩
theorem anyB_map {ks : List Str} (f : Str → Bool) : anyB (ks.map fun k => .bool (f k)) = some (ks.any f) := by
  induction ks with
  | nil => rfl
  | cons k ks ih =>
    show (match anyB (ks.map fun k => .bool (f k)) with | some c => some (f k || c) | none => none) = _
    rw [ih]; rfl
theorem filter_true {α : Type} {l : List α} : l.filter (fun _ => true) = l := List.filter_eq_self.mpr fun _ _ => rfl
section
variable {nm : Str} {ks : List Str} {d s : Int} (hk : ∀ k ∈ ks, k ∈ kindsL) (hn : ks.length ≤ 3)
include hk hn
theorem nm_gv : Gv (F_form_needs_memory [FV nm ks d s]) (.bool (ks.any mfK)) := by
  have eb : d_form_needs_memory.body = [at' d_form_needs_memory.body 0] := by kernel_rfl
  refine runF_gv (ρ1 := [(S "self", FV nm ks d s)]) (ρ2 := [(S "self", FV nm ks d s)]) (σ2 := { pen := .off }) (by kernel_rfl) ?_
  rw [eb]
  refine exs_ret (k := 59) (ret_gv (k := 58) (by kernel_rfl) ?_)
  have ea : clA (retE (at' d_form_needs_memory.body 0)) = [(clA (retE (at' d_form_needs_memory.body 0))).headD dExpr] := by kernel_rfl
  refine callN_gv (k := 57) (fv := biv "any") (as := [.lst (ks.map fun k => .bool (mfK k))]) (by kernel_rfl) (by kernel_rfl) ?_ ?_
  · rw [ea]
    refine evL_cons (k := 56) (by kernel_rfl) (cp_gv (k := 55) (xs := ksV ks) (by kernel_rfl) (by kernel_rfl) (gv_nf (by kernel_rfl) (gv_o (gv_ok (len_ks hk hn) gv_ret))) ?_) evL_nil
    refine gv_to ?_ (comp_gv (m0 := 20) (ρT := fun x => [(S "kind", x)]) (p := fun _ => true) (f := fun v => .bool (mfK (strV v))) (xs := ksV ks) (fun x hx => by kernel_rfl) (fun x hx y hy => by kernel_rfl) (fun x hx j => ?_) (by unfold ksV; rw [List.length_map]; omega))
    · rw [filter_true]; unfold ksV; rw [List.map_map]; rfl
    · obtain ⟨k, hks, rfl⟩ := ks_str hx
      have hk := hk k hks
      refine ⟨gv_nf (by kernel_rfl) gv_ret, fun _ => ?_⟩
      refine gv_nf (by kernel_rfl) (gv_ok (c := Nat.ble k.length 1000) (len_kind k hk) (gv_ok (c := isS (eqOp (.str (fsl k none (some 1))) (.str (S "m")))) (by rw [mf_kind k hk]; exact mf_some k hk) (gv_to ?_ (gv_ret (a := .bool (getB (eqOp (.str (fsl k none (some 1))) (.str (S "m")))))))))
      rw [mf_kind k hk]; rfl
  · show Gv (needB (anyB (ks.map fun k => .bool (mfK k))) fun b => .ret (PV.bool b)) _
    rw [anyB_map]
    exact gv_o gv_ret
end
end Mine

namespace Mine

noncomputable def g_fr : Tab := ⟨[(S "_law_row", fnv 643), (S "kind_width", fnv 152), (S "kind_size", fnv 145), (S "is_fixed", fnv 117), (S "tuple", tyv "tuple"), (S "zip", tyv "zip")],
  [(643, tabG isK rowK), (152, tabG isK fun k => .int (wiK k)), (145, tabG isK fun k => .int (ziK k)), (117, tabG isK fun k => .bool (fxK k))], [], [],
  [(243, S "slots", orcV (orcO F_form_slots)), (243, S "has_plus", orc (orcD F_form_has_plus) (orcB F_form_has_plus)), (243, S "has_modrm", orc (orcD F_form_has_modrm) (orcB F_form_has_modrm)), (243, S "memory_size", orcV (orcO F_form_memory_size)), (243, S "needs_memory", orc (orcD F_form_needs_memory) (orcB F_form_needs_memory)), (243, S "told", orcV (orcO F_form_told))], [(243, S "name", ()), (243, S "number", ())], 638⟩
noncomputable def F_law_form_right : List PV → T PV := runF g_fr 60 .off d_law_form_right []
theorem f_law_form_right (pr : Program) (w : World) (hb : Heap) (mg mb : Str → Option Value) (p : Addr) (C : (cx pr w hb mg mb p).Ok) : FnIn (cx pr w hb mg mb p) (fun _ => True) 4 (674, F_law_form_right) :=
  ⟨by show keepIn (Mine.hd.heap_1 w.params) _ = true; kernel_rfl, fn_pure C (fa_law_form_right pr w hb mg mb p) (tab_off (n := 3) C (by show globsOk (Mine.hd.heap_1 w.params) _ = true; kernel_rfl)
    (List.forall_mem_cons.mpr ⟨((f_law_row pr w hb mg mb p C).tabG look_row).up (by decide), List.forall_mem_cons.mpr ⟨((f_kind_width pr w hb mg mb p C).tabG look_width).up (by decide), List.forall_mem_cons.mpr ⟨((f_kind_size pr w hb mg mb p C).tabG look_size).up (by decide), List.forall_mem_cons.mpr ⟨((f_is_fixed pr w hb mg mb p C).tabG look_fixed).up (by decide), no_mem⟩⟩⟩⟩)
    no_mem no_mem
    (List.forall_mem_cons.mpr ⟨(m_form_slots pr w hb mg mb p C).orcV.up (by decide), List.forall_mem_cons.mpr ⟨(m_form_has_plus pr w hb mg mb p C).orc.up (by decide), List.forall_mem_cons.mpr ⟨(m_form_has_modrm pr w hb mg mb p C).orc.up (by decide), List.forall_mem_cons.mpr ⟨(m_form_memory_size pr w hb mg mb p C).orcV.up (by decide), List.forall_mem_cons.mpr ⟨(m_form_needs_memory pr w hb mg mb p C).orc.up (by decide), List.forall_mem_cons.mpr ⟨(m_form_told pr w hb mg mb p C).orcV.up (by decide), no_mem⟩⟩⟩⟩⟩⟩)
    (by show (List.all _ fun p => attOk (Mine.hd.heap_1 w.params) _ _) = true; kernel_rfl) (keep638 pr w hb mg mb p C))⟩

noncomputable def frs (i : Nat) : Stmt := at' d_law_form_right.body i
noncomputable def szV (ks : List Str) : List Int := (ks.filter meK).map ziK
section
variable {nm : Str} {ks : List Str} {d s : Int} (hk : ∀ k ∈ ks, k ∈ kindsL) (hn : ks.length ≤ 3) (hnm : cpsOk nm.cps.toList = true)
noncomputable abbrev ρf0 (nm : Str) (ks : List Str) (d s : Int) : PEnv := [(S "form", FV nm ks d s), (S "kinds", .lst (ksV ks)), (S "digit", .int d), (S "size", .int s)]
noncomputable abbrev ρf1 (nm : Str) (ks : List Str) (d s : Int) : PEnv := ρf0 nm ks d s ++ [(S "rows", .lst (ks.map rowK))]
noncomputable abbrev ρf2 (nm : Str) (ks : List Str) (d s : Int) : PEnv := ρf1 nm ks d s ++ [(S "spots", .lst (spV ks))]
noncomputable abbrev ρf3 (nm : Str) (ks : List Str) (d s : Int) : PEnv := ρf2 nm ks d s ++ [(S "sizes", .lst ((szV ks).map .int))]
noncomputable abbrev scF : Scope := d_law_form_right.sc
include hk hn
theorem len_rows : Nat.ble (ks.map rowK).length 1000 = true := by
  rw [List.length_map]
  exact Nat.ble_eq_true_of_le (by omega)
theorem fr_s0 : Gv ((Rn g_fr 59).ex scF (ρf0 nm ks d s) {} (frs 0)) (.nxt, ρf1 nm ks d s, {}) := by
  refine asg_gv (k := 58) (ca := caOf (frs 0)) (xs := ksV ks) (l := ks.map rowK) (by kernel_rfl) (by kernel_rfl) (by kernel_rfl) (gv_nf (by kernel_rfl) (gv_ok (len_ks hk hn) gv_ret)) ?_
  refine gv_to ?_ (comp_gv (m0 := 20) (ρT := fun x => [(S "kind", x)]) (p := fun _ => true) (f := fun v => rowK (strV v)) (xs := ksV ks) (fun x hx => by kernel_rfl) (fun x hx y hy => by kernel_rfl) (fun x hx j => ?_) (by unfold ksV; rw [List.length_map]; omega))
  · rw [filter_true]; unfold ksV; rw [List.map_map]; rfl
  · obtain ⟨k, hks, rfl⟩ := ks_str hx
    exact ⟨gv_nf (by kernel_rfl) gv_ret, fun _ => gv_nf (by kernel_rfl) (gv_ok (c := isK k) (isK_mem.mpr (hk k hks)) gv_ret)⟩
theorem row_mem {x : PV} (h : x ∈ ks.map rowK) : ∃ k, k ∈ ks ∧ x = rowK k := by
  obtain ⟨k, h1, rfl⟩ := List.mem_map.mp h
  exact ⟨k, h1, rfl⟩
theorem fr_s1 : Gv ((Rn g_fr 58).ex scF (ρf1 nm ks d s) {} (frs 1)) (.nxt, ρf2 nm ks d s, {}) := by
  refine asg_gv (k := 57) (ca := caOf (frs 1)) (xs := ks.map rowK) (l := spV ks) (by kernel_rfl) (by kernel_rfl) (by kernel_rfl) (gv_nf (by kernel_rfl) (gv_ok (len_rows hk hn) gv_ret)) ?_
  refine gv_to ?_ (comp_gv (m0 := 20) (ρT := fun x => [(S "row", x)]) (p := fun _ => true) (f := fun v => .str (strV (tupAt v 0))) (xs := ks.map rowK) (fun x hx => by kernel_rfl) (fun x hx y hy => by kernel_rfl) (fun x hx j => ?_) (by rw [List.length_map]; omega))
  · rw [filter_true, List.map_map]; rfl
  · obtain ⟨k, hks, rfl⟩ := row_mem hk hn hx
    exact ⟨gv_nf (by kernel_rfl) gv_ret, fun _ => gv_nf (by kernel_rfl) (gv_o (gv_o (gv_o gv_ret)))⟩
theorem fr_s2 : Gv ((Rn g_fr 57).ex scF (ρf2 nm ks d s) {} (frs 2)) (.nxt, ρf3 nm ks d s, {}) := by
  refine asg_gv (k := 56) (ca := caOf (frs 2)) (xs := ks.map rowK) (l := (szV ks).map .int) (by kernel_rfl) (by kernel_rfl) (by kernel_rfl) (gv_nf (by kernel_rfl) (gv_ok (len_rows hk hn) gv_ret)) ?_
  refine gv_to ?_ (comp_gv (m0 := 20) (ρT := fun x => [(S "row", x)]) (p := fun v => boolV (tupAt v 4)) (f := fun v => .int (intV (tupAt v 2))) (xs := ks.map rowK) (fun x hx => by kernel_rfl) (fun x hx y hy => by kernel_rfl) (fun x hx j => ?_) (by rw [List.length_map]; omega))
  · unfold szV
    rw [List.filter_map, List.map_map, List.map_map]; rfl
  · obtain ⟨k, hks, rfl⟩ := row_mem hk hn hx
    exact ⟨gv_nf (by kernel_rfl) (gv_o (gv_o (gv_o (gv_ret (a := meK k))))), fun _ => gv_nf (by kernel_rfl) (gv_o (gv_o (gv_o gv_ret)))⟩
theorem eq_bool (x : Bool) : eqOp (.bool x) (.bool x) = some true := by cases x <;> rfl
theorem fr_t3 : Gv ((Rn g_fr 55).tst scF (ρf3 nm ks d s) {} (ifT (frs 3))) false := by
  have o1 : orcO F_form_slots [FV nm ks d s] = some (.lst (spV ks)) := (slots_gv hk hn).orcO
  have d2 : orcD F_form_has_plus [FV nm ks d s] = true := (plus_gv hk hn).orcD
  have b2 : orcB F_form_has_plus [FV nm ks d s] = hasSp ks (S "plus") := (plus_gv hk hn).orcB
  have d3 : orcD F_form_has_modrm [FV nm ks d s] = true := (modrm_gv hk hn).orcD
  have b3 : orcB F_form_has_modrm [FV nm ks d s] = (decide (d ≥ 0) || (hasSp ks (S "rm") || hasSp ks (S "reg"))) := (modrm_gv hk hn).orcB
  have e1 : eqOp (getV (orcO F_form_slots [FV nm ks d s])) (.lst (spV ks)) = some true := by
    rw [o1]; exact eqOp_self (okP_lst fun k h => cps_spot k (hk k h))
  have i1 : inOp (.str (S "plus")) (.lst (spV ks)) = some (hasSp ks (S "plus")) := in_sp hk hn _ (by kernel_rfl)
  have i2 : inOp (.str (S "rm")) (.lst (spV ks)) = some (hasSp ks (S "rm")) := in_sp hk hn _ (by kernel_rfl)
  have i3 : inOp (.str (S "reg")) (.lst (spV ks)) = some (hasSp ks (S "reg")) := in_sp hk hn _ (by kernel_rfl)
  refine gv_nf (by kernel_rfl) (gv_o (gv_ok (c := isS (orcO F_form_slots [FV nm ks d s])) (by rw [o1]; rfl) (gv_ok (c := isS (eqOp (getV (orcO F_form_slots [FV nm ks d s])) (.lst (spV ks)))) (by rw [e1]; rfl)
    (gv_f (c := !getB (eqOp (getV (orcO F_form_slots [FV nm ks d s])) (.lst (spV ks)))) (x := .ret true) (by rw [e1]; rfl) (gv_o (gv_ok d2 (gv_ok (c := isS (inOp (.str (S "plus")) (.lst (spV ks)))) (by rw [i1]; rfl) (gv_o
    (gv_f (c := !getB (eqOp (.bool (orcB F_form_has_plus [FV nm ks d s])) (.bool (getB (inOp (.str (S "plus")) (.lst (spV ks))))))) (x := .ret true) (by rw [i1, b2]; show (!getB (eqOp (.bool (hasSp ks (S "plus"))) (.bool (hasSp ks (S "plus"))))) = false; rw [eq_bool hk hn]; rfl)
    (gv_o (gv_ok d3 (gv_br (c := decide (d ≥ 0)) (fun hd => gv_o (gv_f (c := !getB (eqOp (.bool (orcB F_form_has_modrm [FV nm ks d s])) (.bool (decide (d ≥ 0))))) (x := .ret true) (by rw [b3, hd]; rfl) gv_ret)) fun hd =>
    gv_ok (c := isS (inOp (.str (S "rm")) (.lst (spV ks)))) (by rw [i2]; rfl) (gv_br (c := getB (inOp (.str (S "rm")) (.lst (spV ks)))) (fun h2 => gv_o (gv_f (c := !getB (eqOp (.bool (orcB F_form_has_modrm [FV nm ks d s])) (.bool (getB (inOp (.str (S "rm")) (.lst (spV ks))))))) (x := .ret true) ?_ gv_ret)) fun h2 =>
    gv_ok (c := isS (inOp (.str (S "reg")) (.lst (spV ks)))) (by rw [i3]; rfl) (gv_o (gv_f (c := !getB (eqOp (.bool (orcB F_form_has_modrm [FV nm ks d s])) (.bool (getB (inOp (.str (S "reg")) (.lst (spV ks))))))) (x := .ret true) ?_ gv_ret)))))))))))))))
  · rw [i2] at h2
    have h2 : hasSp ks (S "rm") = true := h2
    rw [i2, b3, hd, h2]; rfl
  · rw [i2] at h2
    have h2 : hasSp ks (S "rm") = false := h2
    rw [i3, b3, hd, h2]
    show (!getB (eqOp (.bool (hasSp ks (S "reg"))) (.bool (hasSp ks (S "reg"))))) = false
    rw [eq_bool hk hn]; rfl
theorem fr_t4 : Gv ((Rn g_fr 54).tst scF (ρf3 nm ks d s) {} (ifT (frs 4))) false := by
  have o4 : orcO F_form_memory_size [FV nm ks d s] = some (.int (msK ks)) := (ms_gv hk hn).orcO
  have e1 := eq_ints (szV ks)
  have em : msK ks = match szV ks with | [] => -1 | z :: _ => z := by
    unfold msK szV
    clear hk hn o4 e1
    induction ks with
    | nil => rfl
    | cons k ks ih =>
      cases h : meK k with
      | true => rw [List.find?_cons_of_pos h, List.filter_cons_of_pos h]; rfl
      | false => rw [List.find?_cons_of_neg (by rw [h]; decide), List.filter_cons_of_neg (by rw [h]; decide)]; exact ih
  refine gv_nf (t' := ok1 true (ok1 (isS (orcO F_form_memory_size [FV nm ks d s])) (ok1 true (ok1 (isS (eqOp (.lst ((szV ks).map .int)) (.lst []))) (.br (!getB (eqOp (.lst ((szV ks).map .int)) (.lst [])))
    (ok1 true (ok1 true (ok1 (isS ((szV ks).map PV.int)[(0 : Int).toNat]?) (ok1 (isS (eqOp (getV (orcO F_form_memory_size [FV nm ks d s])) (getV ((szV ks).map PV.int)[(0 : Int).toNat]?))) (.ret (!getB (eqOp (getV (orcO F_form_memory_size [FV nm ks d s])) (getV ((szV ks).map PV.int)[(0 : Int).toNat]?))))))))
    (ok1 (isS (eqOp (getV (orcO F_form_memory_size [FV nm ks d s])) (.int (-1)))) (.ret (!getB (eqOp (getV (orcO F_form_memory_size [FV nm ks d s])) (.int (-1))))))))))) (by kernel_rfl) ?_
  rw [o4, e1, em]
  cases hz : szV ks with
  | nil => exact gv_o (gv_o (gv_o (gv_o (gv_f rfl (gv_o gv_ret)))))
  | cons z zs =>
    refine gv_o (gv_o (gv_o (gv_o (gv_t rfl (gv_o (gv_o (gv_o (gv_o (gv_to ?_ gv_ret)))))))))
    show (!getB (some (z == z))) = false
    simp [getB]
end
end Mine

namespace Mine
theorem eq_tup3 (a b : Int) (c e : Bool) : eqOp (.tup [.int a, .int b, .bool c]) (.tup [.int a, .int b, .bool e]) = some (c == e) := by
  have : eqOp (.tup [.int a, .int b, .bool c]) (.tup [.int a, .int b, .bool e]) = some (a == a && (b == b && (c == e && true))) := by kernel_rfl
  rw [this]; simp
theorem eq_bools (x y : Bool) : eqOp (.bool x) (.bool y) = some (x == y) := by kernel_rfl
theorem okP_told {nm : Str} {ks : List Str} {d s : Int} (hk : ∀ k ∈ ks, k ∈ kindsL) (hnm : cpsOk nm.cps.toList = true) : okP (.tup [.str nm, .tup (ksV ks), .int 66, .int 1, .int d, .int s, .int 0, .bool false]) = true := by
  have e1 : toPy (.tup [.str nm, .tup (ksV ks), .int 66, .int 1, .int d, .int s, .int 0, .bool false]) = some (.tuple [.str nm, .tuple (ks.map .str), .int 66, .int 1, .int d, .int s, .int 0, .bool false]) := by
    have : toPyL (ksV ks) = some (ks.map .str) := toPyL_map (f := fun k => k) ks
    simp only [toPy, toPyL, this]
  unfold okP
  rw [e1]
  have h1 : pyOk 7 (.str nm) = true := by unfold pyOk; exact hnm
  have h2 : pyOk 7 (.tuple (ks.map .str)) = true := by
    unfold pyOk
    exact pyOkL_map (f := fun k => k) 6 ks fun k h => cps_kind k (hk k h)
  show pyOk 8 _ = true
  unfold pyOk
  dsimp only
  unfold pyOkL
  rw [h1]
  dsimp only
  unfold pyOkL
  rw [h2]
  rfl
section
variable {nm : Str} {ks : List Str} {d s : Int} (hk : ∀ k ∈ ks, k ∈ kindsL) (hn : ks.length ≤ 3)
include hk hn
theorem fr_t5 : Gv ((Rn g_fr 53).tst scF (ρf3 nm ks d s) {} (ifT (frs 5))) false := by
  have d5 : orcD F_form_needs_memory [FV nm ks d s] = true := (nm_gv hk hn).orcD
  have b5 : orcB F_form_needs_memory [FV nm ks d s] = ks.any mfK := (nm_gv hk hn).orcB
  have hf : ∀ k ∈ ks.filter mfK, cpsOk k.cps.toList = true := fun k h => cps_kind k (hk k (List.mem_filter.mp h).1)
  have e1 : eqOp (.lst ((ks.filter mfK).map .str)) (.lst []) = some (ks.filter mfK).isEmpty := eq_strs (f := fun k => k) hf
  have e2 : (!(ks.filter mfK).isEmpty) = ks.any mfK := by
    clear d5 b5 hf e1 hk hn
    induction ks with
    | nil => rfl
    | cons k ks ih =>
      cases h : mfK k with
      | true => rw [List.filter_cons_of_pos h, List.any_cons, h]; rfl
      | false => rw [List.filter_cons_of_neg (by rw [h]; decide), List.any_cons, h, ih]; rfl
  refine cmpT_gv (k := 51) (a := .bool (ks.any mfK)) (b := .bool (!(ks.filter mfK).isEmpty)) (by kernel_rfl) ?_ ?_ ?_
  · exact gv_to (by rw [b5]) (gv_nf (by kernel_rfl) (gv_o (gv_ok d5 (gv_ret (a := .bool (orcB F_form_needs_memory [FV nm ks d s]))))))
  · refine cmpE_gv (k := 49) (a := .lst ((ks.filter mfK).map .str)) (b := .lst []) (by kernel_rfl) ?_ (gv_nf (by kernel_rfl) (gv_o gv_ret)) ?_
    · refine cp_gv (k := 49) (xs := ksV ks) (by kernel_rfl) (by kernel_rfl) (gv_nf (by kernel_rfl) (gv_ok (len_ks hk hn) gv_ret)) ?_
      refine gv_to ?_ (comp_gv (m0 := 20) (ρT := fun x => [(S "kind", x)]) (p := fun v => mfK (strV v)) (f := fun v => .str (strV v)) (xs := ksV ks) (fun x hx => by kernel_rfl) (fun x hx y hy => by kernel_rfl) (fun x hx j => ?_) (by unfold ksV; rw [List.length_map]; omega))
      · unfold ksV; rw [List.filter_map, List.map_map]; rfl
      · obtain ⟨k, hks, rfl⟩ := ks_str hx
        exact ⟨gv_nf (by kernel_rfl) (gv_o (gv_ok (c := isS (inOp (.str k) (.tup mfL))) (mf_some k (hk k hks)) (gv_ret (a := mfK k)))), fun _ => gv_nf (by kernel_rfl) gv_ret⟩
    · show Gv (needB (eqOp (.lst ((ks.filter mfK).map .str)) (.lst [])) fun c => .ret (!c)) _
      rw [e1]
      exact gv_o gv_ret
  · rw [e2]
    show Gv (needB (eqOp (.bool (ks.any mfK)) (.bool (ks.any mfK))) fun c => .ret (!c)) _
    rw [eq_bools, beq_self_eq_true]
    exact gv_o gv_ret
theorem zip_rows : zipL (ksV ks) (ks.map rowK) = ks.map fun k => .tup [.str k, rowK k] := by
  clear hk hn
  induction ks with
  | nil => rfl
  | cons k ks ih => show _ :: zipL (ksV ks) (ks.map rowK) = _; rw [ih]; rfl
theorem fr_t6 {k : Str} (hkk : k ∈ kindsL) (j : Nat) : Gv ((Rn g_fr (j + 20)).tst scF (ρf3 nm ks d s ++ [(S "kind", .str k), (S "row", rowK k)]) {} (ifT (at' (forB (frs 6)) 0))) false := by
  have hi := isK_mem.mpr hkk
  have e1 := fix_some k hkk
  have e2 := one_some k hkk
  refine gv_nf (by kernel_rfl) (gv_ok (c := isK k) hi (gv_ok (c := isK k) hi (gv_ok (c := isK k) hi (gv_o (gv_o (gv_o (gv_o (gv_o (gv_o (gv_o (gv_o (gv_o (gv_o (gv_ok (c := isS (eqOp (.str (spK k)) (.str (S "fixed")))) (by rw [e1]; rfl) (gv_br (c := getB (eqOp (.str (spK k)) (.str (S "fixed"))))
    (fun h => gv_ok (c := isS (eqOp (.str k) (.str (S "one")))) (by rw [e2]; rfl) (gv_o (gv_o (gv_to ?_ (gv_ret (a := !getB (eqOp (.tup [.int (wiK k), .int (ziK k), .bool (fxK k)]) (.tup [.int (wiK k), .int (ziK k), .bool (!getB (eqOp (.str k) (.str (S "one"))))]))))))))
    (fun h => gv_o (gv_o (gv_to ?_ (gv_ret (a := !getB (eqOp (.tup [.int (wiK k), .int (ziK k), .bool (fxK k)]) (.tup [.int (wiK k), .int (ziK k), .bool (getB (eqOp (.str (spK k)) (.str (S "fixed"))))]))))))))))))))))))))))
  · rw [e1] at h
    have h : strEq (spK k) (S "fixed") = true := h
    rw [eq_tup3, e2]
    unfold fxK
    rw [h]
    show (!(!strEq k (S "one")) == !strEq k (S "one")) = false
    cases strEq k (S "one") <;> rfl
  · rw [e1] at h
    have h : strEq (spK k) (S "fixed") = false := h
    rw [eq_tup3, e1]
    unfold fxK
    rw [h]; rfl
theorem fr_s6 : Gv ((Rn g_fr 53).ex scF (ρf3 nm ks d s) {} (frs 6)) (.nxt, ρf3 nm ks d s, {}) := by
  refine for_gv (k := 52) (xs := ks.map fun k => .tup [.str k, rowK k]) (by kernel_rfl) ?_ ?_
  · refine gv_to (zip_rows hk hn) (gv_nf (by kernel_rfl) (gv_ok (c := Nat.ble (ksV ks).length 1000) (len_ks hk hn) (gv_ok (c := Nat.ble (ks.map rowK).length 1000) (len_rows hk hn) gv_ret)))
  · refine loop_gv (m0 := 25) (fun x hx j => ?_) (by rw [List.length_map]; omega)
    obtain ⟨k, hks, rfl⟩ := List.mem_map.mp hx
    refine ⟨ρf3 nm ks d s ++ [(S "kind", .str k), (S "row", rowK k)], by kernel_rfl, ρf3 nm ks d s ++ [(S "kind", .str k), (S "row", rowK k)], ?_, by kernel_rfl⟩
    have el : forB (frs 6) = [at' (forB (frs 6)) 0] := by kernel_rfl
    rw [el]
    exact exs_gv (k := j + 24) (if_no (k := j + 22) (by kernel_rfl) (fr_t6 hk hn (hk k hks) (j + 3))) (exs_nil (k := j + 23))
theorem fr_s7 (hnm : cpsOk nm.cps.toList = true) : Gv ((Rn g_fr 52).ex scF (ρf3 nm ks d s) {} (frs 7)) (.ret (.bool true), ρf3 nm ks d s, {}) := by
  have o6 : orcO F_form_told [FV nm ks d s] = some (.tup [.str nm, .tup (ksV ks), .int 66, .int 1, .int d, .int s, .int 0, .bool false]) := (told_gv hk hn).orcO
  have e1 : eqOp (getV (orcO F_form_told [FV nm ks d s])) (.tup [.str nm, .tup (ksV ks), .int 66, .int 1, .int d, .int s, .int 0, .bool false]) = some true := by
    rw [o6]; exact eqOp_self (okP_told hk hnm)
  refine ret_gv (k := 51) (by kernel_rfl) (gv_nf (by kernel_rfl) (gv_o (gv_ok (c := isS (orcO F_form_told [FV nm ks d s])) (by rw [o6]; rfl) (gv_o (gv_ok (len_ks hk hn) (gv_o (gv_ok (c := isS (eqOp (getV (orcO F_form_told [FV nm ks d s])) (.tup [.str nm, .tup (ksV ks), .int 66, .int 1, .int d, .int s, .int 0, .bool false]))) (by rw [e1]; rfl)
    (gv_t (c := getB (eqOp (getV (orcO F_form_told [FV nm ks d s])) (.tup [.str nm, .tup (ksV ks), .int 66, .int 1, .int d, .int s, .int 0, .bool false]))) (y := .ret (.bool (getB (eqOp (getV (orcO F_form_told [FV nm ks d s])) (.tup [.str nm, .tup (ksV ks), .int 66, .int 1, .int d, .int s, .int 0, .bool false]))))) (by rw [e1]; rfl) (gv_o (gv_o gv_ret))))))))))
theorem form_right_gv (hnm : cpsOk nm.cps.toList = true) : Gv (F_law_form_right [FV nm ks d s, .lst (ksV ks), .int d, .int s]) (.bool true) := by
  have eb : d_law_form_right.body = [frs 0, frs 1, frs 2, frs 3, frs 4, frs 5, frs 6, frs 7] := by kernel_rfl
  refine runF_gv (ρ1 := ρf0 nm ks d s) (ρ2 := ρf3 nm ks d s) (σ2 := { pen := .off }) (by kernel_rfl) ?_
  rw [eb]
  exact exs_gv (k := 59) (fr_s0 hk hn) (exs_gv (k := 58) (fr_s1 hk hn) (exs_gv (k := 57) (fr_s2 hk hn) (exs_gv (k := 56) (if_no (k := 54) (by kernel_rfl) (fr_t3 hk hn)) (exs_gv (k := 55) (if_no (k := 53) (by kernel_rfl) (fr_t4 hk hn))
    (exs_gv (k := 54) (if_no (k := 52) (by kernel_rfl) (fr_t5 hk hn)) (exs_gv (k := 53) (fr_s6 hk hn) (exs_ret (k := 52) (fr_s7 hk hn hnm))))))))
end
end Mine

namespace Mine
noncomputable def getL (o : Option (List (Str × PV))) : List (Str × PV) := match o with
  | some l => l
  | none => []
noncomputable def orcL (F : List PV → T (List (Str × PV))) (l : List PV) : Option (List (Str × PV)) := runT (F l)
noncomputable def orcC (O : List PV → Option (List (Str × PV))) (l : List PV) : T (List (Str × PV)) := ok1 (isS (O l)) (.ret (getL (O l)))
theorem orcC_ref (F : List PV → T (List (Str × PV))) (l : List PV) (b : Nat) (post : Nat → List (Str × PV) → Prop) (h : Sat b (orcC (orcL F) l) post) : Sat b (F l) post := by
  unfold orcC orcL at h
  cases e : runT (F l) with
  | none => rw [e] at h; exact (sat_fail.mp ((sat_br.mp h).2 rfl)).elim
  | some v => rw [e] at h; exact runT_sat e (sat_ret.mp ((sat_br.mp h).1 rfl))
theorem ClsIn.orcC {c : Cx} {P : PenS → Prop} {n : Nat} {a : Addr} {F : List PV → T (List (Str × PV))} (h : ClsIn c P n (a, F)) : ClsIn c P n (a, Mine.orcC (orcL F)) :=
  ⟨h.1, h.2.ref fun l b post hs => sat_bind.mpr (orcC_ref F l b _ (sat_bind.mp hs))⟩
theorem Gv.orcL {F : List PV → T (List (Str × PV))} {l : List PV} {x : List (Str × PV)} (h : Gv (F l) x) : orcL F l = some x := h.run

/-! the making of a form -/
noncomputable def fis (i : Nat) : Stmt := at' d_form_init.body i
noncomputable def formL (nm : Str) (ks P : List PV) (op es d s : Int) : List (Str × PV) := [(S "name", .str nm), (S "kinds", .tup ks), (S "opcode", .int op), (S "escape", .int es), (S "digit", .int d), (S "size", .int s), (S "must", .int 0), (S "is_wide", .bool false), (S "number", .int (-1)), (S "places", .tup P)]
noncomputable abbrev ρi (nm : Str) (ks : List Str) (op es d s : Int) : PEnv := [(S "self", .self), (S "name", .str nm), (S "kinds", .lst (ksV ks)), (S "opcode", .int op), (S "escape", .int es), (S "digit", .int d), (S "size", .int s), (S "must", .int 0), (S "is_wide", .bool false)]
noncomputable abbrev σi (nm : Str) (ks : List Str) (op es d s : Int) (i : Nat) : Sg := { slf := some ((formL nm (ksV ks) (spV ks) op es d s).take i), cl := 243 }
noncomputable abbrev scI : Scope := d_form_init.sc
noncomputable def isSetA (st : Stmt) : Bool := match st with
  | .Assign targets _ _ => match targets with
    | [] => false
    | t :: ts => match ts with
      | _ :: _ => false
      | [] => match t with
        | .Attribute o _ _ => match o with
          | .Name _ _ => true
          | _ => false
        | _ => false
  | _ => false
noncomputable def saO (st : Stmt) : Str := match st with
  | .Assign targets _ _ => match targets with
    | t :: _ => match t with
      | .Attribute o _ _ => match o with
        | .Name x _ => x
        | _ => S ""
      | _ => S ""
    | [] => S ""
  | _ => S ""
noncomputable def saA (st : Stmt) : Str := match st with
  | .Assign targets _ _ => match targets with
    | t :: _ => match t with
      | .Attribute _ a _ => a
      | _ => S ""
    | [] => S ""
  | _ => S ""
noncomputable def asV (st : Stmt) : Expr := match st with
  | .Assign _ v _ => v
  | _ => dExpr
section
variable {Γ : Tab} {sc : Scope} {ρ : PEnv} {σ : Sg} {k : Nat} {st : Stmt}
theorem setA_gv {fs : List (Str × PV)} {v : PV} (hs : isSetA st = true) (h1 : isSelf (look (saO st) ρ) = true) (h2 : stOk sc (saO st) = true) (h3 : (!strEq (saO st) "__debug__") = true) (h4 : (lookM σ.cl (saA st) Γ.att).isSome = true) (h5 : σ.slf = some fs) (h6 : Nat.ble fs.length 100 = true)
    (h : Gv ((Rn Γ k).ev sc ρ σ (asV st)) v) : Gv ((Rn Γ (k + 1)).ex sc ρ σ st) (.nxt, ρ, { σ with slf := some (setE (saA st) v fs) }) := by
  unfold isSetA at hs
  split at hs
  · split at hs
    · cases hs
    · split at hs
      · cases hs
      · split at hs
        · split at hs
          · rename_i q
            show Gv (hSetA Γ (Rn Γ k) sc ρ σ (.Name _ q) _ _) _
            unfold hSetA
            dsimp only
            refine gv_ok h1 (gv_ok h2 (gv_ok h3 (gv_ok h4 ?_)))
            rw [h5]
            exact h.bind (gv_ok h6 gv_ret)
          · cases hs
        · cases hs
  · cases hs
end
section
variable {nm : Str} {ks : List Str} {op es d s : Int} (hk : ∀ k ∈ ks, k ∈ kindsL) (hn : ks.length ≤ 3)
include hk hn
theorem init_places : Gv ((Rn g_form_init 49).ev scI (ρi nm ks op es d s) (σi nm ks op es d s 9) (asV (fis 9))) (.tup (spV ks)) := by
  have ea : clA (asV (fis 9)) = [(clA (asV (fis 9))).headD dExpr] := by kernel_rfl
  refine callN_gv (k := 48) (fv := tyv "tuple") (as := [.lst (spV ks)]) (by kernel_rfl) (by kernel_rfl) ?_ (gv_nf (by kernel_rfl) (gv_ok (len_sp hk hn) gv_ret))
  rw [ea]
  refine evL_cons (k := 47) (by kernel_rfl) (cp_gv (k := 46) (xs := ksV ks) (by kernel_rfl) (by kernel_rfl) (gv_nf (by kernel_rfl) (gv_o (gv_ok (len_ks hk hn) gv_ret))) ?_) evL_nil
  refine gv_to ?_ (comp_gv (m0 := 20) (ρT := fun x => [(S "kind", x)]) (p := fun _ => true) (f := fun v => .str (spK (strV v))) (xs := ksV ks) (fun x hx => by kernel_rfl) (fun x hx y hy => by kernel_rfl) (fun x hx j => ?_) (by unfold ksV; rw [List.length_map]; omega))
  · rw [filter_true]; unfold ksV; rw [List.map_map]; rfl
  · obtain ⟨k, hks, rfl⟩ := ks_str hx
    exact ⟨gv_nf (by kernel_rfl) gv_ret, fun _ => gv_nf (by kernel_rfl) (gv_look (f := fun v => .ret v) (look_slot k (hk k hks)) gv_ret)⟩
theorem form_init_gv : Gv ((Rn g_form_init 60).exs scI (ρi nm ks op es d s) (σi nm ks op es d s 0) d_form_init.body) (.nxt, ρi nm ks op es d s, σi nm ks op es d s 10) := by
  have eb : d_form_init.body = [fis 0, fis 1, fis 2, fis 3, fis 4, fis 5, fis 6, fis 7, fis 8, fis 9] := by kernel_rfl
  rw [eb]
  refine exs_gv (k := 59) (ρ' := ρi nm ks op es d s) (σ' := σi nm ks op es d s 1) (gv_run (by kernel_rfl)) ?_
  refine exs_gv (k := 58) (ρ' := ρi nm ks op es d s) (σ' := σi nm ks op es d s 2) (gv_nf (by kernel_rfl) (gv_o (gv_o (gv_o (gv_o (gv_ok (len_ks hk hn) (gv_o gv_ret))))))) ?_
  refine exs_gv (k := 57) (ρ' := ρi nm ks op es d s) (σ' := σi nm ks op es d s 3) (gv_run (by kernel_rfl)) ?_
  refine exs_gv (k := 56) (ρ' := ρi nm ks op es d s) (σ' := σi nm ks op es d s 4) (gv_run (by kernel_rfl)) ?_
  refine exs_gv (k := 55) (ρ' := ρi nm ks op es d s) (σ' := σi nm ks op es d s 5) (gv_run (by kernel_rfl)) ?_
  refine exs_gv (k := 54) (ρ' := ρi nm ks op es d s) (σ' := σi nm ks op es d s 6) (gv_run (by kernel_rfl)) ?_
  refine exs_gv (k := 53) (ρ' := ρi nm ks op es d s) (σ' := σi nm ks op es d s 7) (gv_run (by kernel_rfl)) ?_
  refine exs_gv (k := 52) (ρ' := ρi nm ks op es d s) (σ' := σi nm ks op es d s 8) (gv_run (by kernel_rfl)) ?_
  refine exs_gv (k := 51) (ρ' := ρi nm ks op es d s) (σ' := σi nm ks op es d s 9) (gv_run (by kernel_rfl)) ?_
  refine exs_gv (k := 50) (ρ' := ρi nm ks op es d s) (σ' := σi nm ks op es d s 10) ?_ (exs_nil (k := 49))
  refine gv_to (a := (.nxt, ρi nm ks op es d s, { σi nm ks op es d s 9 with slf := some (setE (saA (fis 9)) (.tup (spV ks)) ((formL nm (ksV ks) (spV ks) op es d s).take 9)) })) (by kernel_rfl) ?_
  exact (setA_gv (Γ := g_form_init) (sc := scI) (ρ := ρi nm ks op es d s) (σ := σi nm ks op es d s 9) (st := fis 9) (v := .tup (spV ks)) (k := 49) (fs := (formL nm (ksV ks) (spV ks) op es d s).take 9) (by kernel_rfl) (by kernel_rfl) (by kernel_rfl) (by kernel_rfl) (by kernel_rfl) (by kernel_rfl) (by kernel_rfl) (init_places hk hn))
theorem form_gv : Gv (I_Form [.str nm, .lst (ksV ks), .int op, .int es, .int d, .int s]) (formL nm (ksV ks) (spV ks) op es d s) := by
  show Gv (((Rn g_form_init 60).exs scI (ρi nm ks op es d s) (σi nm ks op es d s 0) d_form_init.body).bind fieldsOf') _
  exact (form_init_gv hk hn).bind gv_ret
theorem form4_gv : Gv (I_Form [.str nm, .lst (ksV ks), .int op]) (formL nm (ksV ks) (spV ks) op 0 (-1) 0) := by
  show Gv (((Rn g_form_init 60).exs scI (ρi nm ks op 0 (-1) 0) (σi nm ks op 0 (-1) 0 0) d_form_init.body).bind fieldsOf') _
  exact (form_init_gv hk hn).bind gv_ret
end
end Mine

namespace Mine
/-! and, or -/
noncomputable def isBo (op : BoolOp) (e : Expr) : Bool := match e with
  | .BoolOp o _ _ => match o with
    | .And => match op with | .And => true | .Or => false
    | .Or => match op with | .And => false | .Or => true
  | _ => false
noncomputable def boV (e : Expr) : List Expr := match e with
  | .BoolOp _ vs _ => vs
  | _ => []
section
variable {Γ : Tab} {sc : Scope} {ρ : PEnv} {σ : Sg} {k : Nat} {e e' : Expr} {es : List Expr}
theorem boolE_gv {op : BoolOp} {v : PV} (hs : isBo op e = true) (h : Gv ((Rn Γ k).evBool sc ρ σ op (boV e)) v) : Gv ((Rn Γ (k + 1)).ev sc ρ σ e) v := by
  unfold isBo at hs
  split at hs
  · split at hs
    · split at hs
      · exact h
      · cases hs
    · split at hs
      · cases hs
      · exact h
  · cases hs
theorem boolT_gv {op : BoolOp} {c : Bool} (hs : isBo op e = true) (h : Gv ((Rn Γ k).allT sc ρ σ op (boV e)) c) : Gv ((Rn Γ (k + 1)).tst sc ρ σ e) c := by
  unfold isBo at hs
  split at hs
  · split at hs
    · split at hs
      · exact h
      · cases hs
    · split at hs
      · cases hs
      · exact h
  · cases hs
theorem and_no (h : Gv ((Rn Γ k).ev sc ρ σ e) (.bool false)) : Gv ((Rn Γ (k + 1)).evBool sc ρ σ .And (e :: e' :: es)) (.bool false) := h.bind (Gv.bind (a := false) gv_ret (gv_f rfl gv_ret))
theorem and_go {v : PV} (h : Gv ((Rn Γ k).ev sc ρ σ e) (.bool true)) (h2 : Gv ((Rn Γ k).evBool sc ρ σ .And (e' :: es)) v) : Gv ((Rn Γ (k + 1)).evBool sc ρ σ .And (e :: e' :: es)) v := h.bind (Gv.bind (a := true) gv_ret (gv_t rfl h2))
theorem bool_last {op : BoolOp} {v : PV} (h : Gv ((Rn Γ k).ev sc ρ σ e) v) : Gv ((Rn Γ (k + 1)).evBool sc ρ σ op [e]) v := h
theorem orT_no {c : Bool} (h : Gv ((Rn Γ k).tst sc ρ σ e) false) (h2 : Gv ((Rn Γ k).allT sc ρ σ .Or es) c) : Gv ((Rn Γ (k + 1)).allT sc ρ σ .Or (e :: es)) c := h.bind (gv_f rfl h2)
theorem orT_nil : Gv ((Rn Γ (k + 1)).allT sc ρ σ .Or []) false := gv_ret
theorem orT_yes (h : Gv ((Rn Γ k).tst sc ρ σ e) true) : Gv ((Rn Γ (k + 1)).allT sc ρ σ .Or (e :: es)) true := h.bind (gv_t rfl gv_ret)
theorem andT_no (h : Gv ((Rn Γ k).tst sc ρ σ e) false) : Gv ((Rn Γ (k + 1)).allT sc ρ σ .And (e :: es)) false := h.bind (gv_f rfl gv_ret)
theorem andT_go {c : Bool} (h : Gv ((Rn Γ k).tst sc ρ σ e) true) (h2 : Gv ((Rn Γ k).allT sc ρ σ .And es) c) : Gv ((Rn Γ (k + 1)).allT sc ρ σ .And (e :: es)) c := h.bind (gv_t rfl h2)
theorem andT_nil : Gv ((Rn Γ (k + 1)).allT sc ρ σ .And []) true := gv_ret
end
noncomputable def g_nr : Tab := ⟨[(S "_law_row", fnv 643), (S "can_lock", fnv 261), (S "Form", fnv 243), (S "repeats", fnv 268)],
  [(643, tabG isK rowK), (261, orc (orcD F_can_lock) (orcB F_can_lock)), (268, F_repeats)], [(243, orcC (orcL I_Form))], [], [], [], 638⟩
noncomputable def F_law_name_right : List PV → T PV := runF g_nr 60 .off d_law_name_right []
theorem f_law_name_right (pr : Program) (w : World) (hb : Heap) (mg mb : Str → Option Value) (p : Addr) (C : (cx pr w hb mg mb p).Ok) : FnIn (cx pr w hb mg mb p) (fun _ => True) 6 (681, F_law_name_right) :=
  ⟨by show keepIn (Mine.hd.heap_1 w.params) _ = true; kernel_rfl, fn_pure C (fa_law_name_right pr w hb mg mb p) (tab_off (n := 5) C (by show globsOk (Mine.hd.heap_1 w.params) _ = true; kernel_rfl)
    (List.forall_mem_cons.mpr ⟨((f_law_row pr w hb mg mb p C).tabG look_row).up (by decide), List.forall_mem_cons.mpr ⟨(f_can_lock pr w hb mg mb p C).orc.up (by decide), List.forall_mem_cons.mpr ⟨(f_repeats pr w hb mg mb p C).up (by decide), no_mem⟩⟩⟩)
    (List.forall_mem_cons.mpr ⟨(c_Form pr w hb mg mb p C).orcC.up (by decide), no_mem⟩) no_mem no_mem
    (by show (List.all _ fun p => attOk (Mine.hd.heap_1 w.params) _ _) = true; kernel_rfl) (keep638 pr w hb mg mb p C))⟩
noncomputable def nrs (i : Nat) : Stmt := at' d_law_name_right.body i
noncomputable abbrev scN : Scope := d_law_name_right.sc
noncomputable def namesL : List Str := [S "add", S "adc", S "cmp", S "bt", S "bts", S "btc", S "xadd", S "cmpxchg", S "mov", S "movsb", S "movsx", S "stosq", S "lodsw", S "cmpsd", S "scasb", S "scas", S "cmps", S "lock", S "rep", S "not", S "inc"]
noncomputable def lockL : List PV := [.str (S "add"), .str (S "adc"), .str (S "and"), .str (S "or"), .str (S "sbb"), .str (S "sub"), .str (S "xor"), .str (S "inc"), .str (S "dec"), .str (S "neg"), .str (S "not"), .str (S "xchg"), .str (S "xadd"), .str (S "cmpxchg"), .str (S "bts"), .str (S "btr"), .str (S "btc")]
noncomputable def lkN (nm : Str) : Bool := getB (inOp (.str nm) (.lst lockL))
theorem lk_some : ∀ nm ∈ namesL, isS (inOp (.str nm) (.lst lockL)) = true := of_map (g := fun _ => true) (by kernel_rfl)
theorem cps_name : ∀ nm ∈ namesL, cpsOk nm.cps.toList = true := of_map (g := fun _ => true) (by kernel_rfl)
theorem sub_ne : ∀ nm ∈ namesL, eqOp (.str nm) (.str (S "sub")) = some false := of_map (g := fun _ => some false) (by kernel_rfl)
noncomputable def fsK (ks : List Str) : Bool := match ks with
  | [] => false
  | k :: _ => meK k
noncomputable abbrev ρn (nm : Str) (ks : List Str) : PEnv := [(S "name", .str nm), (S "kinds", .lst (ksV ks))]
noncomputable def lastOk (o : Option (PF × PEnv × Sg)) : Bool := match o with
  | some q => match q.1 with
    | .ret v => match v with
      | .bool b => b
      | _ => false
    | .nxt => false
  | none => false
theorem nr_rest (lo fi : Bool) (ks : List PV) : ∀ nm ∈ namesL, lastOk (runT ((Rn g_nr 57).exs scN [(S "name", .str nm), (S "kinds", .lst ks), (S "locked", .bool lo), (S "first", .bool fi)] {} [nrs 3, nrs 4, nrs 5])) = true := of_map (g := fun _ => true) (by kernel_rfl)
theorem lastOk_gv {t : T (PF × PEnv × Sg)} (h : lastOk (runT t) = true) : ∃ ρ2 σ2, Gv t (.ret (.bool true), ρ2, σ2) := by
  unfold lastOk at h
  split at h
  · rename_i q e
    obtain ⟨f, ρ2, σ2⟩ := q
    dsimp only at h
    split at h
    · split at h
      · subst h; exact ⟨ρ2, σ2, gv_run e⟩
      · cases h
    · cases h
  · cases h
section
variable {nm : Str} {ks : List Str} (hk : ∀ k ∈ ks, k ∈ kindsL) (hn : ks.length ≤ 3) (hnm : nm ∈ namesL)
include hk hn hnm
theorem lock_gv {P : List PV} : Gv (F_can_lock [.obj 243 (formL nm (ksV ks) P 1 0 (-1) 0)]) (.bool (lkN nm && fsK ks)) := by
  have hs := lk_some nm hnm
  have eb : d_can_lock.body = [at' d_can_lock.body 0] := by kernel_rfl
  have ev : boV (retE (at' d_can_lock.body 0)) = [(boV (retE (at' d_can_lock.body 0))).headD dExpr, ((boV (retE (at' d_can_lock.body 0))).drop 1).headD dExpr, ((boV (retE (at' d_can_lock.body 0))).drop 2).headD dExpr] := by kernel_rfl
  refine runF_gv (ρ1 := [(S "form", .obj 243 (formL nm (ksV ks) P 1 0 (-1) 0))]) (ρ2 := [(S "form", .obj 243 (formL nm (ksV ks) P 1 0 (-1) 0))]) (σ2 := { pen := .off }) (by kernel_rfl) ?_
  rw [eb]
  refine exs_ret (k := 59) (ret_gv (k := 58) (by kernel_rfl) (boolE_gv (op := .And) (k := 57) (by kernel_rfl) ?_))
  rw [ev]
  have h1 : Gv ((Rn g_can_lock 56).ev d_can_lock.sc [(S "form", .obj 243 (formL nm (ksV ks) P 1 0 (-1) 0))] { pen := .off } ((boV (retE (at' d_can_lock.body 0))).headD dExpr)) (.bool (lkN nm)) :=
    gv_nf (by kernel_rfl) (gv_o (gv_o (gv_o (gv_o (gv_ok (c := isS (inOp (.str nm) (.lst lockL))) hs (gv_ret (a := PV.bool (getB (inOp (.str nm) (.lst lockL))))))))))
  cases hl : lkN nm with
  | false => rw [hl] at h1; exact and_no h1
  | true =>
    rw [hl] at h1
    refine and_go h1 ?_
    have e0 : (((ksV ks).length : Nat) : Int) = (ks.length : Nat) := by unfold ksV; rw [List.length_map]
    have h2 : Gv ((Rn g_can_lock 55).ev d_can_lock.sc [(S "form", .obj 243 (formL nm (ksV ks) P 1 0 (-1) 0))] { pen := .off } (((boV (retE (at' d_can_lock.body 0))).drop 1).headD dExpr)) (.bool (decide ((((ksV ks).length : Nat) : Int) > 0))) :=
      gv_nf (by kernel_rfl) (gv_o (gv_ok (len_ks hk hn) gv_ret))
    rw [e0] at h2
    cases ks with
    | nil => exact and_no h2
    | cons k r =>
      have hp : decide ((((k :: r).length : Nat) : Int) > 0) = true := decide_eq_true (by rw [List.length_cons]; omega)
      rw [hp] at h2
      have hkk := hk k (List.mem_cons_self ..)
      refine and_go h2 (bool_last (gv_nf (by kernel_rfl) (gv_o (gv_o (gv_o (gv_o (gv_look (f := fun v => .ret v) (look_mems k hkk) gv_ret)))))))
theorem nr_s0 : Gv ((Rn g_nr 59).ex scN (ρn nm ks) {} (nrs 0)) (.nxt, ρn nm ks ++ [(S "locked", .bool (lkN nm))], {}) :=
  gv_nf (by kernel_rfl) (gv_o (gv_o (gv_ok (c := isS (inOp (.str nm) (.lst lockL))) (lk_some nm hnm) gv_ret)))
theorem nr_s1 : Gv ((Rn g_nr 58).ex scN (ρn nm ks ++ [(S "locked", .bool (lkN nm))]) {} (nrs 1)) (.nxt, ρn nm ks ++ [(S "locked", .bool (lkN nm)), (S "first", .bool (fsK ks))], {}) := by
  cases ks with
  | nil => exact gv_run (by kernel_rfl)
  | cons k r =>
    have hkk := hk k (List.mem_cons_self ..)
    have e1 : eqOp (.lst (ksV (k :: r))) (.lst []) = some false := eq_strs (f := fun k => k) (fun k h => cps_kind k (hk k h))
    exact gv_nf (by kernel_rfl) (gv_o (gv_o (gv_ok (c := isS (eqOp (.lst (ksV (k :: r))) (.lst []))) (by rw [e1]; rfl) (gv_t (c := !getB (eqOp (.lst (ksV (k :: r))) (.lst []))) (y := .ret ((PF.nxt, ρn nm (k :: r) ++ [(S "locked", .bool (lkN nm)), (S "first", .bool (!getB (eqOp (.lst (ksV (k :: r))) (.lst []))))], {}) : PF × PEnv × Sg)) (by rw [e1]; rfl)
      (gv_o (gv_o (gv_o (gv_ok (c := isK k) (isK_mem.mpr hkk) (gv_o (gv_o (gv_o (gv_ret (a := ((PF.nxt, ρn nm (k :: r) ++ [(S "locked", .bool (lkN nm)), (S "first", .bool (meK k))], {}) : PF × PEnv × Sg))))))))))))))
theorem nr_t2 : Gv ((Rn g_nr 56).tst scN (ρn nm ks ++ [(S "locked", .bool (lkN nm)), (S "first", .bool (fsK ks))]) {} (ifT (nrs 2))) false := by
  have f1 : orcL I_Form [.str nm, .lst (ksV ks), .int 1] = some (formL nm (ksV ks) (spV ks) 1 0 (-1) 0) := (form4_gv hk hn).orcL
  have d1 : orcD F_can_lock [.obj 243 (formL nm (ksV ks) (spV ks) 1 0 (-1) 0)] = true := (lock_gv hk hn hnm).orcD
  have b1 : orcB F_can_lock [.obj 243 (formL nm (ksV ks) (spV ks) 1 0 (-1) 0)] = (lkN nm && fsK ks) := (lock_gv hk hn hnm).orcB
  refine gv_nf (t' := ok1 (isS (orcL I_Form [.str nm, .lst (ksV ks), .int 1])) (ok1 (orcD F_can_lock [.obj 243 (getL (orcL I_Form [.str nm, .lst (ksV ks), .int 1]))]) (.br (lkN nm)
    (ok1 true (.ret (!getB (eqOp (.bool (orcB F_can_lock [.obj 243 (getL (orcL I_Form [.str nm, .lst (ksV ks), .int 1]))])) (.bool (fsK ks))))))
    (ok1 true (.ret (!getB (eqOp (.bool (orcB F_can_lock [.obj 243 (getL (orcL I_Form [.str nm, .lst (ksV ks), .int 1]))])) (.bool (lkN nm))))))))) (by kernel_rfl) ?_
  rw [f1]
  show Gv (ok1 true (ok1 (orcD F_can_lock [.obj 243 (formL nm (ksV ks) (spV ks) 1 0 (-1) 0)]) (.br (lkN nm)
    (ok1 true (.ret (!getB (eqOp (.bool (orcB F_can_lock [.obj 243 (formL nm (ksV ks) (spV ks) 1 0 (-1) 0)])) (.bool (fsK ks))))))
    (ok1 true (.ret (!getB (eqOp (.bool (orcB F_can_lock [.obj 243 (formL nm (ksV ks) (spV ks) 1 0 (-1) 0)])) (.bool (lkN nm)))))))) ) false
  rw [d1, b1, eq_bools, eq_bools]
  refine gv_o (gv_o (gv_br (fun h => gv_o (gv_to ?_ gv_ret)) fun h => gv_o (gv_to ?_ gv_ret)))
  · rw [h]; show (!(fsK ks == fsK ks)) = false; rw [beq_self_eq_true]; rfl
  · rw [h]; rfl
theorem name_right_gv : Gv (F_law_name_right [.str nm, .lst (ksV ks)]) (.bool true) := by
  have eb : d_law_name_right.body = [nrs 0, nrs 1, nrs 2, nrs 3, nrs 4, nrs 5] := by kernel_rfl
  obtain ⟨ρ2, σ2, hr⟩ := lastOk_gv (nr_rest (lkN nm) (fsK ks) (ksV ks) nm hnm)
  refine runF_gv (ρ1 := ρn nm ks) (ρ2 := ρ2) (σ2 := σ2) (by kernel_rfl) ?_
  rw [eb]
  exact exs_gv (k := 59) (nr_s0 hk hn hnm) (exs_gv (k := 58) (nr_s1 hk hn hnm) (exs_gv (k := 57) (if_no (k := 55) (by kernel_rfl) (nr_t2 hk hn hnm)) hr))
end
end Mine

namespace Mine
structure Op where
  a : Addr
  fs : List (Str × PV)
  w : List PV
noncomputable def Op.o (p : Op) : PV := .obj p.a p.fs
noncomputable def Op.r (p : Op) : PV := .tup p.w
noncomputable def Op.pv (p : Op) : PV := .tup [p.o, p.r]
theorem pair_op {v : PV} (h : PairOk v) : ∃ p : Op, v = p.pv ∧ OpOk p.o p.r := by
  obtain ⟨o, w, rfl, h⟩ := h
  have key : ∀ {o w : PV}, OpOk o w → ∃ p : Op, o = p.o ∧ w = p.r := by
    intro o w h
    cases h with
    | reg h =>
      rename_i r w
      have : ∀ q ∈ regsL, ∃ l, q.2 = .tup l := by
        have hh : (regsL.map fun q => PV.tup (match q.2 with | .tup l => l | _ => [])) = regsL.map fun q => q.2 := by kernel_rfl
        intro q hq
        exact ⟨_, (of_map hh q hq).symm⟩
      obtain ⟨l, hl⟩ := this _ h
      exact ⟨⟨_, _, l⟩, rfl, hl⟩
    | mem h => exact ⟨⟨_, _, _⟩, rfl, rfl⟩
    | imm h => exact ⟨⟨_, _, _⟩, rfl, rfl⟩
    | immN m => exact ⟨⟨_, _, _⟩, rfl, rfl⟩
    | rel h => exact ⟨⟨_, _, _⟩, rfl, rfl⟩
    | relN m => exact ⟨⟨_, _, _⟩, rfl, rfl⟩
  obtain ⟨p, rfl, rfl⟩ := key h
  exact ⟨p, rfl, h⟩
theorem pair_ops : ∀ {l : List PV}, (∀ v ∈ l, PairOk v) → ∃ ps : List Op, l = ps.map Op.pv ∧ ∀ p ∈ ps, OpOk p.o p.r
  | [], _ => ⟨[], rfl, no_mem⟩
  | v :: l, h => by
    obtain ⟨p, rfl, hp⟩ := pair_op (h v (List.mem_cons_self ..))
    obtain ⟨ps, rfl, hps⟩ := pair_ops fun v hv => h v (List.mem_cons_of_mem _ hv)
    exact ⟨p :: ps, rfl, List.forall_mem_cons.mpr ⟨hp, hps⟩⟩

/-! takes and _law_lets say the same -/
noncomputable def SizeOk (k : Str) (s : Int) : Prop := (s = 16 ∨ s = 32 ∨ s = 64) ∧ (k = S "simm32" → s = 64)
theorem kind_cases {k : Str} (h : k ∈ kindsL) : (k ∈ fixedL ∨ k ∈ freeL) ∧ (k ∈ norelL ∨ k = S "rel8" ∨ k = S "rel32") ∧
    (k ∈ noimmL ∨ k = S "one" ∨ k = S "imm8" ∨ k = S "imm16" ∨ k = S "imm32" ∨ k = S "imm64" ∨ k = S "uimm8" ∨ k = S "uimm16" ∨ k = S "simm8" ∨ k = S "simm32") := by
  have h1 : (kindsL.map fun k => (fixedL.any (strEq k) || freeL.any (strEq k)) && ((norelL.any (strEq k) || (strEq k (S "rel8") || strEq k (S "rel32"))) &&
    (noimmL.any (strEq k) || (strEq k (S "one") || (strEq k (S "imm8") || (strEq k (S "imm16") || (strEq k (S "imm32") || (strEq k (S "imm64") || (strEq k (S "uimm8") || (strEq k (S "uimm16") || (strEq k (S "simm8") || strEq k (S "simm32")))))))))))) = kindsL.map fun _ => true := by kernel_rfl
  have h := of_map h1 k h
  have an : ∀ {l : List Str}, l.any (strEq k) = true → k ∈ l := by
    intro l h
    obtain ⟨x, hx, e⟩ := List.any_eq_true.mp h
    exact strEq_iff.mp e ▸ hx
  simp only [Bool.and_eq_true, Bool.or_eq_true, strEq_iff] at h
  obtain ⟨a, b, c⟩ := h
  exact ⟨a.imp an an, b.imp an id, c.imp an id⟩
noncomputable def nmR (r : PV × PV) : Str := match r.1 with
  | .obj _ fs => match look (S "name") fs with
    | some v => strV v
    | none => S ""
  | _ => S ""
noncomputable def nR (r : PV × PV) : Int := match r.1 with
  | .obj _ fs => match look (S "number") fs with
    | some v => intV v
    | none => 0
  | _ => 0
noncomputable def szR (r : PV × PV) : Int := match r.1 with
  | .obj _ fs => match look (S "size") fs with
    | some v => intV v
    | none => 0
  | _ => 0
noncomputable def kdR (r : PV × PV) : Str := match r.1 with
  | .obj _ fs => match look (S "kind") fs with
    | some v => strV v
    | none => S ""
  | _ => S ""
/-- the eight sorts of registers -/
noncomputable def sorts : List (Str × Int) := [(S "gpr", 8), (S "gpr", 16), (S "gpr", 32), (S "gpr", 64), (S "high", 8), (S "xmm", 128), (S "segment", 16), (S "rip", 64)]
theorem regs_same : ∀ r ∈ regsL, r = (regV (nmR r) (kdR r) (nR r) (szR r), wReg (kdR r) (szR r) (nR r)) := of_map (f := fun r => r) (by kernel_rfl)
theorem regs_sort : ∀ r ∈ regsL, (sorts.any fun q => strEq (kdR r) q.1 && szR r == q.2) = true := of_map (g := fun _ => true) (by kernel_rfl)
theorem free_all (nm : Str) (n s : Int) : ∀ q ∈ sorts, (freeL.all fun k => agree k (oReg (regV nm q.1 n q.2)) (wReg q.1 q.2 n) s) = true := by
  unfold sorts
  simp only [List.forall_mem_cons]
  exact ⟨agree_free0 nm n s, agree_free1 nm n s, agree_free2 nm n s, agree_free3 nm n s, agree_free4 nm n s, agree_free5 nm n s, agree_free6 nm n s, agree_free7 nm n s, no_mem⟩
theorem agree_free {r : PV × PV} (h : r ∈ regsL) {k : Str} (hk : k ∈ freeL) (s : Int) : agree k (oReg r.1) r.2 s = true := by
  obtain ⟨q, hq, e⟩ := List.any_eq_true.mp (regs_sort r h)
  rw [Bool.and_eq_true] at e
  have e1 := strEq_iff.mp e.1
  have e2 := beq_iff_eq.mp e.2
  have := List.all_eq_true.mp (free_all (nmR r) (nR r) s q hq) k hk
  rw [← e1, ← e2] at this
  rw [regs_same r h]
  exact this
theorem agree_ok {k : Str} {o w : PV} {s : Int} (hk : k ∈ kindsL) (ho : OpOk o w) (hs : SizeOk k s) : agree k o w s = true := by
  obtain ⟨c1, c2, c3⟩ := kind_cases hk
  have all : ∀ {α : Type} {l : List α} {p : α → Bool}, l.all p = true → ∀ x ∈ l, p x = true := fun h x hx => List.all_eq_true.mp h x hx
  cases ho with
  | reg h =>
    rename_i r
    rcases c1 with c1 | c1
    · unfold fixedL at c1
      simp only [List.mem_cons, List.not_mem_nil, or_false] at c1
      rcases c1 with rfl | rfl | rfl | rfl | rfl | rfl
      · (have q := all (agree_fix0 s) _ h; exact q)
      · (have q := all (agree_fix1 s) _ h; exact q)
      · (have q := all (agree_fix2 s) _ h; exact q)
      · (have q := all (agree_fix3 s) _ h; exact q)
      · (have q := all (agree_fix4 s) _ h; exact q)
      · (have q := all (agree_fix5 s) _ h; exact q)
    · exact agree_free h c1 s
  | mem h => (have q := all (all (agree_mem s) _ hk) _ h; exact q)
  | immN m => (have q := all (agree_immN s m) _ hk; exact q)
  | relN m => (have q := all (agree_relN s m) _ hk; exact q)
  | rel h =>
    rename_i w
    rcases c2 with c2 | rfl | rfl
    · (have q := all (agree_rel0 w s) _ c2; exact q)
    · (have q := all (agree_rel8 s) _ h; exact q)
    · (have q := all (agree_rel32 s) _ h; exact q)
  | imm h =>
    rename_i w
    rcases c3 with c3 | rfl | rfl | rfl | rfl | rfl | rfl | rfl | rfl | rfl
    · (have q := all (agree_imm0 w s) _ c3; exact q)
    · (have q := all (agree_one s) _ h; exact q)
    · (have q := all (agree_imm8 s) _ h; exact q)
    · (have q := all (agree_imm16 s) _ h; exact q)
    · (have q := all (agree_imm32 s) _ h; exact q)
    · (have q := all (agree_imm64 s) _ h; exact q)
    · (have q := all (agree_uimm8 s) _ h; exact q)
    · (have q := all (agree_uimm16 s) _ h; exact q)
    · rcases hs.1 with rfl | rfl | rfl
      · (have q := all agree_simm8_16 _ h; exact q)
      · (have q := all agree_simm8_32 _ h; exact q)
      · (have q := all agree_simm8_64 _ h; exact q)
    · rw [hs.2 rfl]; (have q := all agree_simm32_64 _ h; exact q)
theorem agree_orc {k : Str} {o w : PV} {s : Int} (h : agree k o w s = true) : orcD F_takes [.str k, o, .int s] = true ∧ orcD F_law_lets [.str k, w, .int s] = true ∧ orcB F_takes [.str k, o, .int s] = orcB F_law_lets [.str k, w, .int s] := by
  unfold agree at h
  unfold orcD orcB
  split at h
  · rename_i x e1
    split at h
    · rename_i y e2
      first
        | exact ⟨rfl, rfl, beq_iff_eq.mp h⟩
        | (rw [e1, e2]; exact ⟨rfl, rfl, beq_iff_eq.mp h⟩)
    · cases h
  · cases h
end Mine

namespace Mine
noncomputable def insL (nm : Str) (os : List PV) : List (Str × PV) := [(S "name", .str nm), (S "operands", .tup os), (S "prefix", .str (S ""))]
noncomputable def insV (nm : Str) (os : List PV) : PV := .obj 522 (insL nm os)
theorem ins_gv {nm : Str} {os : List PV} (h : Nat.ble os.length 1000 = true) : Gv (I_Instruction [.str nm, .lst os]) (insL nm os) :=
  gv_nf (by kernel_rfl) (gv_o (gv_o (gv_o (gv_o (gv_o (gv_o (gv_o (gv_o (gv_o (gv_ok h (gv_o (gv_o (gv_o (gv_o (gv_o (gv_o gv_ret))))))))))))))))

noncomputable def mas (i : Nat) : Stmt := at' d_matches.body i
noncomputable def g_mat : Tab := ⟨[(S "len", biv "len"), (S "zip", tyv "zip"), (S "takes", fnv 187)], [(187, orc (orcD F_takes) (orcB F_takes))], [], [], [], [(243, S "name", ()), (243, S "kinds", ()), (243, S "size", ()), (522, S "name", ()), (522, S "operands", ())], 638⟩
noncomputable def F_mat : List PV → T PV := runF g_mat 60 .off d_matches []
theorem f_mat (pr : Program) (w : World) (hb : Heap) (mg mb : Str → Option Value) (p : Addr) (C : (cx pr w hb mg mb p).Ok) : FnIn (cx pr w hb mg mb p) (fun _ => True) 6 (254, F_mat) :=
  ⟨by show keepIn (Mine.hd.heap_1 w.params) _ = true; kernel_rfl, fn_pure C (fa_matches pr w hb mg mb p) (tab_off (n := 5) C (by show globsOk (Mine.hd.heap_1 w.params) _ = true; kernel_rfl)
    (List.forall_mem_cons.mpr ⟨(f_takes pr w hb mg mb p C).orc, no_mem⟩) no_mem no_mem no_mem (by show (List.all _ fun p => attOk (Mine.hd.heap_1 w.params) _ _) = true; kernel_rfl) (keep638 pr w hb mg mb p C))⟩
noncomputable abbrev ρm (nm nm2 : Str) (ks : List Str) (os : List PV) (d s : Int) : PEnv := [(S "form", FV nm ks d s), (S "instruction", insV nm2 os)]
noncomputable abbrev scM : Scope := d_matches.sc
noncomputable def tk (k : Str) (p : Op) (s : Int) : Bool := orcB F_takes [.str k, p.o, .int s]
noncomputable def lt (k : Str) (p : Op) (s : Int) : Bool := orcB F_law_lets [.str k, p.r, .int s]
noncomputable def zipK : List Str → List Op → List (Str × Op)
  | k :: ks, p :: ps => (k, p) :: zipK ks ps
  | _, _ => []
theorem zipK_mem {k : Str} {p : Op} : ∀ {ks : List Str} {ps : List Op}, (k, p) ∈ zipK ks ps → k ∈ ks ∧ p ∈ ps
  | x :: ks, y :: ps, h => by
    rcases List.mem_cons.mp h with h | h
    · cases h; exact ⟨List.mem_cons_self .., List.mem_cons_self ..⟩
    · obtain ⟨h1, h2⟩ := zipK_mem h; exact ⟨List.mem_cons_of_mem _ h1, List.mem_cons_of_mem _ h2⟩
  | [], ps, h => by unfold zipK at h; cases h
  | x :: ks, [], h => by unfold zipK at h; cases h
theorem zipL_o : ∀ (ks : List Str) (ps : List Op), zipL (ksV ks) (ps.map Op.o) = (zipK ks ps).map fun q => .tup [.str q.1, q.2.o]
  | k :: ks, p :: ps => by show _ :: zipL (ksV ks) (ps.map Op.o) = _; rw [zipL_o ks ps]; rfl
  | [], ps => by cases ps <;> rfl
  | k :: ks, [] => rfl
theorem zipL_pv : ∀ (ks : List Str) (ps : List Op), zipL (ksV ks) (ps.map Op.pv) = (zipK ks ps).map fun q => .tup [.str q.1, q.2.pv]
  | k :: ks, p :: ps => by show _ :: zipL (ksV ks) (ps.map Op.pv) = _; rw [zipL_pv ks ps]; rfl
  | [], ps => by cases ps <;> rfl
  | k :: ks, [] => rfl
section
variable {nm nm2 : Str} {ks : List Str} {ps : List Op} {d s : Int} (hk : ∀ k ∈ ks, k ∈ kindsL) (hn : ks.length ≤ 3) (hp : ps.length ≤ 4)
include hk hn hp
theorem len_os : Nat.ble (ps.map Op.o).length 1000 = true := by
  rw [List.length_map]
  exact Nat.ble_eq_true_of_le (by omega)
theorem len_pv : Nat.ble (ps.map Op.pv).length 1000 = true := by
  rw [List.length_map]
  exact Nat.ble_eq_true_of_le (by omega)
theorem mat_t0 {c : Bool} (he : eqOp (.str nm) (.str nm2) = some c) : Gv ((Rn g_mat 58).tst scM (ρm nm nm2 ks (ps.map Op.o) d s) {} (ifT (mas 0))) (!(c && ((((ksV ks).length : Nat) : Int) == (((ps.map Op.o).length : Nat) : Int)))) := by
  refine gv_nf (t' := ok1 true (ok1 true (ok1 (isS (eqOp (.str nm) (.str nm2))) (.br (!getB (eqOp (.str nm) (.str nm2))) (.ret true) (ok1 true (ok1 (Nat.ble (ksV ks).length 1000) (ok1 true (ok1 (Nat.ble (ps.map Op.o).length 1000) (ok1 true
    (.br (!getB (eqOp (.int (((ksV ks).length : Nat) : Int)) (.int (((ps.map Op.o).length : Nat) : Int)))) (.ret true) (.ret false))))))))))) (by kernel_rfl) ?_
  rw [he]
  cases c with
  | false => exact gv_o (gv_o (gv_o (gv_t rfl gv_ret)))
  | true =>
    refine gv_o (gv_o (gv_o (gv_f rfl (gv_o (gv_ok (len_ks hk hn) (gv_o (gv_ok (len_os hk hn hp) (gv_o ?_))))))))
    have e : getB (eqOp (.int (((ksV ks).length : Nat) : Int)) (.int (((ps.map Op.o).length : Nat) : Int))) = ((((ksV ks).length : Nat) : Int) == (((ps.map Op.o).length : Nat) : Int)) := by kernel_rfl
    rw [e]
    cases h : ((((ksV ks).length : Nat) : Int) == (((ps.map Op.o).length : Nat) : Int)) with
    | true => exact gv_f rfl gv_ret
    | false => exact gv_t rfl gv_ret
theorem mat_no {c : Bool} (he : eqOp (.str nm) (.str nm2) = some c) (hc : c = false ∨ ks.length ≠ ps.length) : Gv (F_mat [FV nm ks d s, insV nm2 (ps.map Op.o)]) (.bool false) := by
  have eb : d_matches.body = [mas 0, mas 1, mas 2] := by kernel_rfl
  have el : ifB (mas 0) = [at' (ifB (mas 0)) 0] := by kernel_rfl
  refine runF_gv (ρ1 := ρm nm nm2 ks (ps.map Op.o) d s) (ρ2 := ρm nm nm2 ks (ps.map Op.o) d s) (σ2 := { pen := .off }) (by kernel_rfl) ?_
  rw [eb]
  have h0 := mat_t0 (d := d) (s := s) hk hn hp he
  have e0 : (c && ((((ksV ks).length : Nat) : Int) == (((ps.map Op.o).length : Nat) : Int))) = false := by
    rcases hc with rfl | hc
    · rfl
    · rw [Bool.and_eq_false_iff]
      refine .inr ?_
      unfold ksV
      rw [List.length_map, List.length_map]
      rw [beq_eq_false_iff_ne]
      omega
  rw [e0] at h0
  refine exs_ret (k := 59) (if_yes (k := 58) (by kernel_rfl) h0 ?_)
  rw [el]
  exact exs_ret (k := 57) (ret_gv (k := 56) (by kernel_rfl) (gv_nf (by kernel_rfl) gv_ret))
theorem mat_yes (he : eqOp (.str nm) (.str nm2) = some true) (hl : ks.length = ps.length) (ha : ∀ q ∈ zipK ks ps, orcD F_takes [.str q.1, q.2.o, .int s] = true) :
    Gv (F_mat [FV nm ks d s, insV nm2 (ps.map Op.o)]) (.bool ((zipK ks ps).all fun q => tk q.1 q.2 s)) := by
  have eb : d_matches.body = [mas 0, mas 1, mas 2] := by kernel_rfl
  have el : ifB (at' (forB (mas 1)) 0) = [at' (ifB (at' (forB (mas 1)) 0)) 0] := by kernel_rfl
  have ef : forB (mas 1) = [at' (forB (mas 1)) 0] := by kernel_rfl
  intro b post hpost
  refine runF_sat (ρ1 := ρm nm nm2 ks (ps.map Op.o) d s) (by kernel_rfl) ?_
  rw [eb]
  have h0 := mat_t0 (d := d) (s := s) hk hn hp he
  have e0 : (true && ((((ksV ks).length : Nat) : Int) == (((ps.map Op.o).length : Nat) : Int))) = true := by
    unfold ksV
    rw [List.length_map, List.length_map, hl]
    simp
  rw [e0] at h0
  refine exs_cons' (k := 59) (if_no (k := 57) (by kernel_rfl) h0 b _ (.inl ⟨rfl, ?_⟩))
  refine exs_cons' (k := 58) (for_sat (k := 57) (xs := (zipK ks ps).map fun q => .tup [.str q.1, q.2.o]) (by kernel_rfl) (gv_to (zipL_o ks ps) (gv_nf (by kernel_rfl) (gv_o (gv_o (gv_ok (len_ks hk hn) (gv_ok (len_os hk hn hp) gv_ret)))))) ?_)
  have hlz : (zipK ks ps).length ≤ 4 := by
    have : ∀ (ks : List Str) (ps : List Op), (zipK ks ps).length ≤ ps.length := by
      intro ks
      induction ks with
      | nil => intro ps; unfold zipK; exact Nat.zero_le _
      | cons k ks ih =>
        intro ps
        cases ps with
        | nil => unfold zipK; exact Nat.zero_le _
        | cons p ps => exact Nat.succ_le_succ (ih ps)
    have := this ks ps
    omega
  refine loop_sat (m0 := 25) (p := fun v => !orcB F_takes [tupAt v 0, tupAt v 1, .int s]) (f := fun _ => .bool false) (fun x hx j => ?_) (by rw [List.length_map]; omega) (fun q h1 h2 => ?_)
  · obtain ⟨q, hq, rfl⟩ := List.mem_map.mp hx
    obtain ⟨k, p⟩ := q
    refine ⟨ρm nm nm2 ks (ps.map Op.o) d s ++ [(S "kind", .str k), (S "operand", p.o)], by kernel_rfl, ?_⟩
    have ht : Gv ((Rn g_mat (j + 23)).tst scM (ρm nm nm2 ks (ps.map Op.o) d s ++ [(S "kind", .str k), (S "operand", p.o)]) {} (ifT (at' (forB (mas 1)) 0))) (!orcB F_takes [.str k, p.o, .int s]) :=
      gv_nf (by kernel_rfl) (gv_o (gv_ok (c := orcD F_takes [.str k, p.o, .int s]) (ha _ hq) gv_ret))
    rw [ef]
    cases hb : orcB F_takes [.str k, p.o, .int s] with
    | true =>
      rw [hb] at ht
      refine ⟨_, _, exs_gv (k := j + 24) (if_no (k := j + 22) (by kernel_rfl) ht) (exs_nil (k := j + 23)), .inl ⟨?_, rfl, rfl⟩⟩
      show (!orcB F_takes [.str k, p.o, .int s]) = false
      rw [hb]; rfl
    | false =>
      rw [hb] at ht
      refine ⟨_, _, exs_ret (k := j + 24) (if_yes (k := j + 23) (by kernel_rfl) ht (by rw [el]; exact exs_ret (k := j + 22) (ret_gv (v := .bool false) (k := j + 21) (by kernel_rfl) (gv_nf (by kernel_rfl) gv_ret)))), .inr ⟨?_, rfl⟩⟩
      show (!orcB F_takes [.str k, p.o, .int s]) = true
      rw [hb]; rfl
  · rw [find_map] at h1 h2
    have e2 : ((zipK ks ps).find? fun q => !orcB F_takes [tupAt (.tup [.str q.1, q.2.o]) 0, tupAt (.tup [.str q.1, q.2.o]) 1, .int s]) = (zipK ks ps).find? fun q => !tk q.1 q.2 s := rfl
    rw [e2] at h1 h2
    cases hf : (zipK ks ps).find? fun q => !tk q.1 q.2 s with
    | some x =>
      rw [hf] at h1
      have hq := h1 _ rfl
      refine .inr ⟨_, hq, _, hq, ?_⟩
      have h3 := List.find?_some hf
      have h4 := List.mem_of_find?_eq_some hf
      have : ((zipK ks ps).all fun q => tk q.1 q.2 s) = false := by
        rw [List.all_eq_false]
        refine ⟨x, h4, ?_⟩
        intro h
        rw [h] at h3; cases h3
      rw [this] at hpost
      exact hpost
    | none =>
      rw [hf] at h2
      have hq := h2 rfl
      subst hq
      refine .inl ⟨rfl, ?_⟩
      refine exs_ret (k := 57) (ret_gv (k := 56) (v := .bool true) (by kernel_rfl) (gv_nf (by kernel_rfl) gv_ret)) _ _ ⟨_, rfl, ?_⟩
      have : ((zipK ks ps).all fun q => tk q.1 q.2 s) = true := by
        rw [List.all_eq_true]
        intro x hx
        have := List.find?_eq_none.mp hf x hx
        simpa using this
      rw [this] at hpost
      exact hpost
end
end Mine

namespace Mine
noncomputable def g_law : Tab := ⟨[(S "_law_kinds", .str (S "al ax eax rax cl dx one r8 r16 r32 r64 rm8 rm16 rm32 rm64 o8 o16 o32 o64 m m8 m64 m128 x xm32 xm64 xm128 imm8 imm16 imm32 imm64 uimm8 uimm16 simm8 simm32 rel8 rel32")), (S "_law_next", fnv 638), (S "Form", fnv 243), (S "_law_form_right", fnv 674), (S "_law_name_right", fnv 681), (S "_law_operand", fnv 657), (S "Instruction", fnv 522), (S "_law_lets", fnv 669), (S "matches", fnv 254), (S "takes", fnv 187), (S "condition_names", fnv 110), (S "int", tyv "int"), (S "len", biv "len"), (S "range", tyv "range"), (S "zip", tyv "zip")],
  [(657, F_law_operand), (674, orc (orcD F_law_form_right) (orcB F_law_form_right)), (681, orc (orcD F_law_name_right) (orcB F_law_name_right)), (669, orc (orcD F_law_lets) (orcB F_law_lets)), (254, orc (orcD F_mat) (orcB F_mat)), (187, orc (orcD F_takes) (orcB F_takes)), (110, F_condition_names)],
  [(243, orcC (orcL I_Form)), (522, orcC (orcL I_Instruction))], [], [], [], 638⟩
section
variable (pr : Program) (w : World) (hb : Heap) (mg mb : Str → Option Value) (p : Addr) (C : (cx pr w hb mg mb p).Ok)
include C
theorem f_law_number : FnIn (cx pr w hb mg mb p) AnyP 2 (650, F_law_number) :=
  ⟨by show keepIn (Mine.hd.heap_1 w.params) _ = true; kernel_rfl, fn_draws C (fa_law_number pr w hb mg mb p) (tab_any pr w hb mg mb p C (n := 1) (by decide) (by kernel_rfl) no_mem no_mem no_mem (by kernel_rfl))⟩
theorem f_law_operand : FnIn (cx pr w hb mg mb p) AnyP 10 (657, F_law_operand) :=
  ⟨by show keepIn (Mine.hd.heap_1 w.params) _ = true; kernel_rfl, fn_draws C (fa_law_operand pr w hb mg mb p) (tab_any pr w hb mg mb p C (n := 9) (by decide) (by kernel_rfl)
    (List.forall_mem_cons.mpr ⟨(f_law_number pr w hb mg mb p C).any' (by decide), List.forall_mem_cons.mpr ⟨(f_gpr pr w hb mg mb p C).any (by decide), List.forall_mem_cons.mpr ⟨(f_high pr w hb mg mb p C).any (by decide), List.forall_mem_cons.mpr ⟨(f_segment pr w hb mg mb p C).any (by decide), List.forall_mem_cons.mpr ⟨(f_xmm pr w hb mg mb p C).any (by decide), List.forall_mem_cons.mpr ⟨(f_rip pr w hb mg mb p C).any (by decide), no_mem⟩⟩⟩⟩⟩⟩)
    (List.forall_mem_cons.mpr ⟨(c_Reg pr w hb mg mb p C).up (by decide), List.forall_mem_cons.mpr ⟨(c_Mem pr w hb mg mb p C).up (by decide), List.forall_mem_cons.mpr ⟨(c_Imm pr w hb mg mb p C).up (by decide), List.forall_mem_cons.mpr ⟨(c_Rel pr w hb mg mb p C).up (by decide), no_mem⟩⟩⟩⟩) no_mem (by kernel_rfl))⟩
theorem tab_law : TabOk (cx pr w hb mg mb p) AnyP 10 g_law :=
  tab_any pr w hb mg mb p C (n := 10) (by decide) (by kernel_rfl)
    (List.forall_mem_cons.mpr ⟨f_law_operand pr w hb mg mb p C, List.forall_mem_cons.mpr ⟨((f_law_form_right pr w hb mg mb p C).orc).any (by decide), List.forall_mem_cons.mpr ⟨((f_law_name_right pr w hb mg mb p C).orc).any (by decide), List.forall_mem_cons.mpr ⟨((f_law_lets pr w hb mg mb p C).orc).any (by decide), List.forall_mem_cons.mpr ⟨((f_mat pr w hb mg mb p C).orc).any (by decide), List.forall_mem_cons.mpr ⟨((f_takes pr w hb mg mb p C).orc).any (by decide), List.forall_mem_cons.mpr ⟨(f_condition_names pr w hb mg mb p C).any (by decide), no_mem⟩⟩⟩⟩⟩⟩⟩)
    (List.forall_mem_cons.mpr ⟨((c_Form pr w hb mg mb p C).orcC).up (by decide), List.forall_mem_cons.mpr ⟨((c_Instruction pr w hb mg mb p C).orcC).up (by decide), no_mem⟩⟩) no_mem (by kernel_rfl)
end
end Mine

namespace Mine
theorem sat_of {α : Type} {t t' : T α} {b : Nat} {post : Nat → α → Prop} (e : nf t = t') (h : Sat b t' post) : Sat b t post := sat_nf (e ▸ h)
noncomputable def lst' (i : Nat) : Stmt := at' d_law.body i
noncomputable abbrev scL : Scope := d_law.sc
noncomputable abbrev σL : Sg := { pen := .any }
noncomputable abbrev ρl1 : PEnv := [(S "pen", .pen), (S "some", .lst (ksV kindsL))]
noncomputable abbrev ρl2 (ks : List Str) : PEnv := ρl1 ++ [(S "kinds", .lst (ksV ks))]
noncomputable abbrev ρl4 (ks : List Str) (s d : Int) : PEnv := ρl2 ks ++ [(S "size", .int s), (S "digit", .int d)]
noncomputable abbrev ρl5 (ks : List Str) (s d : Int) (nm : Str) : PEnv := ρl4 ks s d ++ [(S "name", .str nm)]
noncomputable abbrev ρl6 (ks : List Str) (s d : Int) (nm : Str) : PEnv := ρl5 ks s d nm ++ [(S "form", FV nm ks d s)]
noncomputable def bst (i : Nat) : Stmt := at' (forB (lst' 8)) i
noncomputable def KsOk (ks : List Str) : Prop := (∀ k ∈ ks, k ∈ kindsL) ∧ ks.length ≤ 3
theorem kinds_len : (ksV kindsL).length = 37 := by kernel_rfl
theorem kinds_at {i : Int} (h0 : 0 ≤ i) (h1 : i < 37) : ∃ k, k ∈ kindsL ∧ (ksV kindsL)[i.toNat]? = some (.str k) := by
  have h : i.toNat < (ksV kindsL).length := by rw [kinds_len]; omega
  rw [List.getElem?_eq_getElem h]
  obtain ⟨k, hk, e⟩ := ks_str (List.getElem_mem h)
  exact ⟨k, hk, by rw [e]⟩
theorem l1_gv : Gv ((Rn g_law 99).ex scL [(S "pen", .pen)] σL (lst' 1)) (.nxt, ρl1, σL) := gv_run (by kernel_rfl)
theorem strs_of {l : List PV} (h : ∀ v ∈ l, ∃ k, k ∈ kindsL ∧ v = .str k) : ∃ ks, l = ksV ks ∧ ∀ k ∈ ks, k ∈ kindsL := by
  induction l with
  | nil => exact ⟨[], rfl, no_mem⟩
  | cons v l ih =>
    obtain ⟨k, hk, rfl⟩ := h v (List.mem_cons_self ..)
    obtain ⟨ks, rfl, hks⟩ := ih fun v hv => h v (List.mem_cons_of_mem _ hv)
    exact ⟨k :: ks, rfl, List.forall_mem_cons.mpr ⟨hk, hks⟩⟩
theorem l2_sat (b : Nat) : Sat (b + 4) ((Rn g_law 98).ex scL ρl1 σL (lst' 2)) fun b' q => b ≤ b' ∧ ∃ ks, KsOk ks ∧ q = (.nxt, ρl2 ks, σL) := by
  refine asg_sat (k := 97) (ca := caOf (lst' 2)) (by kernel_rfl) (by kernel_rfl) (by kernel_rfl) ?_
  refine sat_of (t' := ok1 true (ok1 true (.next 4 fun i => ok1 (decide (0 ≤ i)) (ok1 (decide (i ≤ 1000)) (.ret ((List.range i.toNat).map iN)))))) (by kernel_rfl) ?_
  refine sat_ok rfl (sat_ok rfl (sat_next.mpr ⟨b + 3, rfl, fun i h0 h1 => sat_ok (decide_eq_true h0) (sat_ok (decide_eq_true (by omega)) (sat_ret.mpr ?_))⟩))
  have hl : ((List.range i.toNat).map iN).length = i.toNat := by rw [List.length_map, List.length_range]
  have hb : b + 3 = (b + 3 - i.toNat) + 1 * ((List.range i.toNat).map iN).length := by rw [hl]; omega
  rw [hb]
  refine sat_mono (fun b' l hl' => ?_) (comp_draw (d := 1) (m0 := 20) (Pv := fun v => ∃ k, k ∈ kindsL ∧ v = .str k) (ρT := fun x => ρl1 ++ [(S "turn", x)]) (fun x hx => by kernel_rfl) (fun x hx y hy => by kernel_rfl) (fun x hx j b => ?_) (by rw [hl]; omega))
  · obtain ⟨g1, g2, g3⟩ := hl'
    obtain ⟨ks, rfl, hks⟩ := strs_of g3
    refine ⟨by omega, ks, ⟨hks, ?_⟩, by kernel_rfl⟩
    unfold ksV at g2
    rw [List.length_map, hl] at g2
    omega
  · refine sat_of (t' := ok1 true (ok1 true (.next 37 fun i => ok1 (decide (0 ≤ i)) (ok1 (decide (i < 1000)) (ok1 (isS (ksV kindsL)[i.toNat]?) (.ret (getV (ksV kindsL)[i.toNat]?))))))) (by kernel_rfl) ?_
    refine sat_ok rfl (sat_ok rfl (sat_next.mpr ⟨b, rfl, fun i h0 h1 => sat_ok (decide_eq_true h0) (sat_ok (decide_eq_true (by omega)) ?_)⟩))
    obtain ⟨k, hk, e⟩ := kinds_at h0 h1
    rw [e]
    exact sat_ok rfl (sat_ret.mpr ⟨Nat.le_refl _, k, hk, rfl⟩)
section
variable {ks : List Str} (hK : KsOk ks)
theorem l3_lv (ks : List Str) : lvs ((Rn g_law 97).ex scL (ρl2 ks) σL (lst' 3)) 2 = some (([16, 32, 64] : List Int).flatMap fun s => ([-1, 0, 7] : List Int).map fun d => (.nxt, ρl4 ks s d, σL)) := by kernel_rfl
noncomputable def SOk (s : Int) : Prop := s = 16 ∨ s = 32 ∨ s = 64
theorem l3_sat (b : Nat) (ks : List Str) : Sat (b + 2) ((Rn g_law 97).ex scL (ρl2 ks) σL (lst' 3)) fun b' q => b ≤ b' ∧ ∃ s d, SOk s ∧ q = (.nxt, ρl4 ks s d, σL) := by
  refine sat_lvs (l3_lv ks) fun a ha b' hb => ⟨hb, ?_⟩
  obtain ⟨s, hs, ha⟩ := List.mem_flatMap.mp ha
  obtain ⟨d, hd, rfl⟩ := List.mem_map.mp ha
  refine ⟨s, d, ?_, rfl⟩
  simp only [List.mem_cons, List.not_mem_nil, or_false] at hs
  exact hs
include hK in
theorem l4_gv {s d : Int} (hs : SOk s) : ∃ s', (∀ k ∈ ks, SizeOk k s') ∧ SOk s' ∧ Gv ((Rn g_law 96).ex scL (ρl4 ks s d) σL (lst' 4)) (.nxt, ρl4 ks s' d, σL) := by
  have e1 : inOp (.str (S "simm32")) (.lst (ksV ks)) = some (ks.any fun k => strEq k (S "simm32")) := inOp_lst (f := fun k => k) (fun k h => cps_kind k (hK.1 k h)) (by kernel_rfl)
  have ht : Gv ((Rn g_law 95).tst scL (ρl4 ks s d) σL (ifT (lst' 4))) (ks.any fun k => strEq k (S "simm32")) := by
    refine gv_nf (t' := ok1 (isS (inOp (.str (S "simm32")) (.lst (ksV ks)))) (.ret (getB (inOp (.str (S "simm32")) (.lst (ksV ks)))))) (by kernel_rfl) ?_
    rw [e1]
    exact gv_o gv_ret
  have eb : ifB (lst' 4) = [at' (ifB (lst' 4)) 0] := by kernel_rfl
  cases hm : ks.any fun k => strEq k (S "simm32") with
  | true =>
    rw [hm] at ht
    refine ⟨64, fun k hk => ⟨.inr (.inr rfl), fun _ => rfl⟩, .inr (.inr rfl), if_yes (k := 95) (by kernel_rfl) ht ?_⟩
    rw [eb]
    exact exs_gv (k := 94) (gv_run (by kernel_rfl)) (exs_nil (k := 93))
  | false =>
    rw [hm] at ht
    refine ⟨s, fun k hk => ⟨hs, fun e => ?_⟩, hs, if_no (k := 94) (by kernel_rfl) ht⟩
    subst e
    have := List.any_eq_false.mp hm _ hk
    exact absurd (strEq_iff.mpr rfl) this
theorem l5_lv (ks : List Str) (s d : Int) : lvs ((Rn g_law 95).ex scL (ρl4 ks s d) σL (lst' 5)) 1 = some (namesL.map fun nm => (.nxt, ρl5 ks s d nm, σL)) := by kernel_rfl
theorem l5_sat (b : Nat) (ks : List Str) (s d : Int) : Sat (b + 1) ((Rn g_law 95).ex scL (ρl4 ks s d) σL (lst' 5)) fun b' q => b ≤ b' ∧ ∃ nm, nm ∈ namesL ∧ q = (.nxt, ρl5 ks s d nm, σL) := by
  refine sat_lvs (l5_lv ks s d) fun a ha b' hb => ⟨hb, ?_⟩
  obtain ⟨nm, hn, rfl⟩ := List.mem_map.mp ha
  exact ⟨nm, hn, rfl⟩
include hK in
theorem l6_gv {s d : Int} {nm : Str} : Gv ((Rn g_law 94).ex scL (ρl5 ks s d nm) σL (lst' 6)) (.nxt, ρl6 ks s d nm, σL) := by
  have f1 : orcL I_Form [.str nm, .lst (ksV ks), .int 66, .int 1, .int d, .int s] = some (formL nm (ksV ks) (spV ks) 66 1 d s) := (form_gv hK.1 hK.2).orcL
  refine gv_nf (t' := ok1 true (ok1 (isS (orcL I_Form [.str nm, .lst (ksV ks), .int 66, .int 1, .int d, .int s])) (.ret ((PF.nxt, ρl5 ks s d nm ++ [(S "form", .obj 243 (getL (orcL I_Form [.str nm, .lst (ksV ks), .int 66, .int 1, .int d, .int s])))], σL) : PF × PEnv × Sg)))) (by kernel_rfl) ?_
  rw [f1]
  exact gv_o (gv_o gv_ret)
include hK in
theorem l7_gv {s d : Int} {nm : Str} (hnm : nm ∈ namesL) : Gv ((Rn g_law 93).ex scL (ρl6 ks s d nm) σL (lst' 7)) (.nxt, ρl6 ks s d nm, σL) := by
  have g1 := form_right_gv (d := d) (s := s) hK.1 hK.2 (cps_name nm hnm)
  have g2 := name_right_gv hK.1 hK.2 hnm
  refine if_no (k := 91) (by kernel_rfl) (gv_nf (t' := ok1 (orcD F_law_form_right [FV nm ks d s, .lst (ksV ks), .int d, .int s]) (.br (!orcB F_law_form_right [FV nm ks d s, .lst (ksV ks), .int d, .int s]) (.ret true)
    (ok1 (orcD F_law_name_right [.str nm, .lst (ksV ks)]) (.br (!orcB F_law_name_right [.str nm, .lst (ksV ks)]) (.ret true) (.ret false))))) (by kernel_rfl) ?_)
  rw [g1.orcD, g1.orcB, g2.orcD, g2.orcB]
  exact gv_o (gv_f rfl (gv_o (gv_f rfl gv_ret)))
theorem l9_gv {s d : Int} {nm : Str} : Gv ((Rn g_law 91).ex scL (ρl6 ks s d nm) σL (lst' 9)) (.ret (.bool true), ρl6 ks s d nm, σL) := ret_gv (k := 90) (by kernel_rfl) (gv_run (by kernel_rfl))
end
end Mine

namespace Mine
noncomputable def isSetN (st : Stmt) : Bool := match st with
  | .Assign targets value _ => match targets with
    | [] => false
    | t :: ts => match ts with
      | _ :: _ => false
      | [] => match t with
        | .Name _ _ => !isComp value
        | _ => false
  | _ => false
noncomputable def snX (st : Stmt) : Str := match st with
  | .Assign targets _ _ => match targets with
    | t :: _ => match t with
      | .Name x _ => x
      | _ => S ""
    | [] => S ""
  | _ => S ""
section
variable {Γ : Tab} {sc : Scope} {ρ : PEnv} {σ : Sg} {k : Nat} {st : Stmt}
theorem setN_gv {v : PV} (hs : isSetN st = true) (h2 : stOk sc (snX st) = true) (h : Gv ((Rn Γ k).ev sc ρ σ (asV st)) v) : Gv ((Rn Γ (k + 1)).ex sc ρ σ st) (.nxt, setE (snX st) v ρ, σ) := by
  unfold isSetN at hs
  split at hs
  · rename_i targets value p
    split at hs
    · cases hs
    · split at hs
      · cases hs
      · split at hs
        · rename_i x q _
          simp only [Bool.not_eq_true'] at hs
          show Gv (hSetN (Rn Γ k) sc ρ σ _ value) _
          unfold hSetN
          refine gv_ok h2 ?_
          split
          · cases hs
          · have ho : otherComp value = false := by
              unfold isComp at hs
              split at hs
              · cases hs
              · exact hs
            rw [ho]
            exact h.bind gv_ret
        · cases hs
  · cases hs
end
noncomputable abbrev ρt (ks : List Str) (s d : Int) (nm : Str) (tn : PV) : PEnv := ρl6 ks s d nm ++ [(S "turn", tn)]
noncomputable abbrev ρb1 (ks : List Str) (s d : Int) (nm : Str) (tn : PV) (odd : Int) : PEnv := ρt ks s d nm tn ++ [(S "odd", .int odd)]
noncomputable abbrev ρb2 (ks : List Str) (s d : Int) (nm : Str) (tn : PV) (odd : Int) (ps : List Op) : PEnv := ρb1 ks s d nm tn odd ++ [(S "pairs", .lst (ps.map Op.pv))]
noncomputable abbrev ρb3 (ks : List Str) (s d : Int) (nm : Str) (tn : PV) (odd : Int) (ps : List Op) (x : Str) : PEnv := ρb2 ks s d nm tn odd ps ++ [(S "told", insV x (ps.map Op.o))]
noncomputable abbrev ρb4 (ks : List Str) (s d : Int) (nm : Str) (tn : PV) (odd : Int) (ps : List Op) (x : Str) (due : Bool) : PEnv := ρb3 ks s d nm tn odd ps x ++ [(S "due", .bool due)]
noncomputable def PsOk (ps : List Op) : Prop := (∀ p ∈ ps, OpOk p.o p.r) ∧ ps.length ≤ 4
section
variable {ks : List Str} {s d : Int} {nm : Str} {tn : PV} {odd : Int} {ps : List Op} {x : Str} {due : Bool} (hK : KsOk ks) (hs : ∀ k ∈ ks, SizeOk k s) (hS : SOk s) (hnm : nm ∈ namesL) (hP : PsOk ps)
theorem b0_sat (ks : List Str) (s d : Int) (nm : Str) (tn : PV) (j b : Nat) : Sat (b + 1) ((Rn g_law (j + 59)).ex scL (ρt ks s d nm tn) σL (bst 0)) fun b' q => b ≤ b' ∧ ∃ odd, 0 ≤ odd ∧ odd < 8 ∧ q = (.nxt, ρb1 ks s d nm tn odd, σL) := by
  refine sat_of (t' := ok1 true (ok1 true (ok1 true (.next 8 fun i => .ret ((PF.nxt, ρb1 ks s d nm tn i, σL) : PF × PEnv × Sg))))) (by kernel_rfl) ?_
  exact sat_ok rfl (sat_ok rfl (sat_ok rfl (sat_next.mpr ⟨b, rfl, fun i h0 h1 => sat_ret.mpr ⟨Nat.le_refl _, i, h0, h1, rfl⟩⟩)))
include hK in
theorem b1_sat (j b : Nat) : Sat (b + 20) ((Rn g_law (j + 58)).ex scL (ρb1 ks s d nm tn odd) σL (bst 1)) fun b' q => b ≤ b' ∧ ∃ ps, PsOk ps ∧ ps.length = ks.length + (if odd = 7 then 1 else 0) ∧ q = (.nxt, ρb2 ks s d nm tn odd ps, σL) := by
  refine asg_sat (k := j + 57) (ca := caOf (bst 1)) (by kernel_rfl) (by kernel_rfl) (by kernel_rfl) ?_
  refine sat_of (t' := ok1 (Nat.ble (ksV ks).length 1000) (ok1 true (ok1 (decide (0 ≤ (((ksV ks).length : Nat) : Int) + (if getB (eqOp (.int odd) (.int 7)) then 1 else 0))) (ok1 (decide ((((ksV ks).length : Nat) : Int) + (if getB (eqOp (.int odd) (.int 7)) then 1 else 0) ≤ 1000))
    (.ret ((List.range ((((ksV ks).length : Nat) : Int) + (if getB (eqOp (.int odd) (.int 7)) then 1 else 0)).toNat).map iN)))))) (by kernel_rfl) ?_
  have hn := hK.2
  have e0 : (ksV ks).length = ks.length := by unfold ksV; rw [List.length_map]
  have e1 : getB (eqOp (.int odd) (.int 7)) = decide (odd = 7) := by
    have : getB (eqOp (.int odd) (.int 7)) = (odd == 7) := by kernel_rfl
    rw [this]; rfl
  have e2 : ((((ksV ks).length : Nat) : Int) + (if getB (eqOp (.int odd) (.int 7)) then 1 else 0)) = ((ks.length + (if odd = 7 then 1 else 0) : Nat) : Int) := by
    rw [e0, e1]
    by_cases h : odd = 7 <;> simp [h]
  rw [e2]
  have hm : ks.length + (if odd = 7 then 1 else 0) ≤ 4 := by split <;> omega
  generalize ks.length + (if odd = 7 then 1 else 0) = m at hm
  refine sat_ok (len_ks hK.1 hK.2) (sat_ok rfl (sat_ok (decide_eq_true (by omega)) (sat_ok (decide_eq_true (by omega)) (sat_ret.mpr ?_))))
  have hl : ((List.range ((m : Int)).toNat).map iN).length = m := by rw [List.length_map, List.length_range]; omega
  have hb : b + 20 = (b + 20 - 5 * m) + 5 * ((List.range ((m : Int)).toNat).map iN).length := by rw [hl]; omega
  rw [hb]
  refine sat_mono (fun b' l hl' => ?_) (comp_draw (d := 5) (m0 := 20) (Pv := PairOk) (ρT := fun x => [(S "pen", .pen), (S "spot", x)]) (fun x hx => by kernel_rfl) (fun x hx y hy => by kernel_rfl) (fun x hx j b => ?_) (by rw [hl]; omega))
  · obtain ⟨g1, g2, g3⟩ := hl'
    obtain ⟨ps, rfl, hps⟩ := pair_ops g3
    rw [List.length_map, hl] at g2
    exact ⟨by omega, ps, ⟨hps, by omega⟩, g2, by kernel_rfl⟩
  · refine sat_conv (t' := F_law_operand [.pen]) (by kernel_rfl) (operand_sat b)
theorem pv_mem {v : PV} (h : v ∈ ps.map Op.pv) : ∃ p, p ∈ ps ∧ v = p.pv := by
  obtain ⟨p, h1, rfl⟩ := List.mem_map.mp h
  exact ⟨p, h1, rfl⟩
noncomputable def xOf (nm : Str) (odd : Int) : Str := if odd = 6 then S "sub" else nm
include hK hP in
theorem b2_gv (j : Nat) : Gv ((Rn g_law (j + 57)).ex scL (ρb2 ks s d nm tn odd ps) σL (bst 2)) (.nxt, ρb3 ks s d nm tn odd ps (xOf nm odd), σL) := by
  have ea : clA (asV (bst 2)) = [(clA (asV (bst 2))).headD dExpr, ((clA (asV (bst 2))).drop 1).headD dExpr] := by kernel_rfl
  have ho : Nat.ble (ps.map Op.o).length 1000 = true := len_os hK.1 hK.2 hP.2
  have fi : orcL I_Instruction [.str (xOf nm odd), .lst (ps.map Op.o)] = some (insL (xOf nm odd) (ps.map Op.o)) := (ins_gv ho).orcL
  refine gv_to (a := (.nxt, setE (snX (bst 2)) (insV (xOf nm odd) (ps.map Op.o)) (ρb2 ks s d nm tn odd ps), σL)) (by kernel_rfl) ?_
  refine setN_gv (k := j + 56) (by kernel_rfl) (by kernel_rfl) (callN_gv (k := j + 55) (fv := fnv 522) (as := [.str (xOf nm odd), .lst (ps.map Op.o)]) (by kernel_rfl) (by kernel_rfl) ?_ ?_)
  · rw [ea]
    refine evL_cons (k := j + 54) (by kernel_rfl) ?_ (evL_cons (k := j + 53) (by kernel_rfl) (cp_gv (k := j + 52) (xs := ps.map Op.pv) (by kernel_rfl) (by kernel_rfl) (gv_nf (by kernel_rfl) (gv_ok (len_pv hK.1 hK.2 hP.2) gv_ret)) ?_) evL_nil)
    · refine gv_nf (t' := ok1 true (.br (getB (eqOp (.int odd) (.int 6))) (.ret (.str (S "sub"))) (.ret (.str nm)))) (by kernel_rfl) ?_
      have e1 : getB (eqOp (.int odd) (.int 6)) = decide (odd = 6) := by
        have : getB (eqOp (.int odd) (.int 6)) = (odd == 6) := by kernel_rfl
        rw [this]; rfl
      rw [e1]
      unfold xOf
      refine gv_o (gv_br (fun h => gv_to ?_ gv_ret) fun h => gv_to ?_ gv_ret)
      · rw [if_pos (of_decide_eq_true h)]
      · rw [if_neg (of_decide_eq_false h)]
    · refine gv_to ?_ (comp_gv (m0 := 20) (ρT := fun x => [(S "operand", tupAt x 0), (S "row_so", tupAt x 1)]) (p := fun _ => true) (f := fun v => tupAt v 0) (xs := ps.map Op.pv) (fun x hx => ?_) (fun x hx y hy => ?_) (fun x hx j => ?_) (by rw [List.length_map]; have := hP.2; omega))
      · rw [filter_true, List.map_map]; rfl
      · obtain ⟨p, hp, rfl⟩ := pv_mem hx; kernel_rfl
      · obtain ⟨p, hp, rfl⟩ := pv_mem hx
        obtain ⟨p', hp', rfl⟩ := pv_mem hy
        kernel_rfl
      · obtain ⟨p, hp, rfl⟩ := pv_mem hx
        exact ⟨gv_nf (by kernel_rfl) gv_ret, fun _ => gv_nf (by kernel_rfl) gv_ret⟩
  · refine gv_nf (t' := ok1 (isS (orcL I_Instruction [.str (xOf nm odd), .lst (ps.map Op.o)])) (.ret (.obj 522 (getL (orcL I_Instruction [.str (xOf nm odd), .lst (ps.map Op.o)]))))) (by kernel_rfl) ?_
    rw [fi]
    exact gv_o gv_ret
end
end Mine

namespace Mine
/-- as Sat, but nothing that Lean would reduce -/
noncomputable def SI {α : Type} (b : Nat) (t : T α) (post : Nat → α → Prop) : Prop := ∀ _ : Unit, Sat b t post
theorem si_of {α : Type} {b : Nat} {t : T α} {post : Nat → α → Prop} (h : Sat b t post) : SI b t post := fun _ => h
theorem si_nf {α : Type} {t t' : T α} {b : Nat} {post : Nat → α → Prop} (e : nf t = t') (h : Sat b t' post) : SI b t post := fun _ => sat_of e h
section
variable {Γ : Tab} {sc : Scope} {ρ ρ' : PEnv} {σ σ' : Sg} {k : Nat} {st : Stmt} {ss : List Stmt} {b b0 : Nat} {post Q : Nat → PF × PEnv × Sg → Prop}
theorem si_step (h : SI b ((Rn Γ k).ex sc ρ σ st) Q) (h2 : ∀ b' q, Q b' q → ∃ ρ' σ', q = (.nxt, ρ', σ') ∧ SI b' ((Rn Γ k).exs sc ρ' σ' ss) post) : SI b ((Rn Γ (k + 1)).exs sc ρ σ (st :: ss)) post :=
  fun u => exs_cons' (sat_mono (fun b' q hq => by
    obtain ⟨ρ', σ', e, h3⟩ := h2 b' q hq
    subst e
    exact .inl ⟨rfl, h3 u⟩) (h u))
theorem si_gv (h : Gv ((Rn Γ k).ex sc ρ σ st) (.nxt, ρ', σ')) (h2 : SI b ((Rn Γ k).exs sc ρ' σ' ss) post) : SI b ((Rn Γ (k + 1)).exs sc ρ σ (st :: ss)) post :=
  fun u => exs_cons' (h b _ (.inl ⟨rfl, h2 u⟩))
theorem si_ret {v : PV} (h : Gv ((Rn Γ k).ex sc ρ σ st) (.ret v, ρ', σ')) (h2 : post b (.ret v, ρ', σ')) : SI b ((Rn Γ (k + 1)).exs sc ρ σ (st :: ss)) post :=
  fun u => exs_cons' (h b _ (.inr ⟨v, rfl, h2⟩))
theorem si_nil (h : post b (.nxt, ρ, σ)) : SI b ((Rn Γ (k + 1)).exs sc ρ σ []) post := fun _ => exs_nil b post h
theorem for_siG {q : PF × PEnv × Sg} (hs : isFor st = true) (h3 : SI b ((Rn Γ k).evIter sc ρ σ (forG st) (forI st)) fun b' xs => b0 ≤ b' ∧ Gv ((Rn Γ k).loop sc ρ σ (forG st) (forB st) xs) q) : SI b ((Rn Γ (k + 1)).ex sc ρ σ st) fun b' r => b0 ≤ b' ∧ r = q :=
  fun u => for_satD (d := 0) hs (sat_mono (fun b' xs hx => hx.2 b' _ ⟨hx.1, rfl⟩) (h3 u))
theorem for_si {xs : List PV} (hs : isFor st = true) (h3 : Gv ((Rn Γ k).evIter sc ρ σ (forG st) (forI st)) xs) (h4 : SI b ((Rn Γ k).loop sc ρ σ (forG st) (forB st) xs) post) : SI b ((Rn Γ (k + 1)).ex sc ρ σ st) post := fun u => for_sat hs h3 (h4 u)
end
section
variable {ks : List Str} {s d : Int} {nm : Str} {tn : PV} {odd : Int} {ps : List Op} {x : Str} {due : Bool} (hK : KsOk ks) (hs : ∀ k ∈ ks, SizeOk k s) (hS : SOk s) (hnm : nm ∈ namesL) (hP : PsOk ps)
noncomputable def dueOf (odd : Int) (ks : List Str) (ps : List Op) (s : Int) : Bool := decide (odd < 6) && (zipK ks ps).all fun q => lt q.1 q.2 s
include hK hs hP in
theorem zip_ok : ∀ q ∈ zipK ks ps, orcD F_takes [.str q.1, q.2.o, .int s] = true ∧ orcD F_law_lets [.str q.1, q.2.r, .int s] = true ∧ tk q.1 q.2 s = lt q.1 q.2 s := by
  intro q hq
  obtain ⟨h1, h2⟩ := zipK_mem (k := q.1) (p := q.2) hq
  exact agree_orc (agree_ok (hK.1 _ h1) (hP.1 _ h2) (hs _ h1))
include hK hs hP in
theorem b3_gv (j : Nat) : Gv ((Rn g_law (j + 56)).ex scL (ρb3 ks s d nm tn odd ps x) σL (bst 3)) (.nxt, ρb4 ks s d nm tn odd ps x (dueOf odd ks ps s), σL) := by
  refine gv_to (a := (.nxt, setE (snX (bst 3)) (.bool (dueOf odd ks ps s)) (ρb3 ks s d nm tn odd ps x), σL)) (by kernel_rfl) ?_
  have ev : boV (asV (bst 3)) = [(boV (asV (bst 3))).headD dExpr, ((boV (asV (bst 3))).drop 1).headD dExpr] := by kernel_rfl
  refine setN_gv (k := j + 55) ?_ ?_ ?_
  · kernel_rfl
  · kernel_rfl
  refine boolE_gv (op := .And) (k := j + 54) ?_ ?_
  · kernel_rfl
  rw [ev]
  have h1 : Gv ((Rn g_law (j + 53)).ev scL (ρb3 ks s d nm tn odd ps x) σL ((boV (asV (bst 3))).headD dExpr)) (.bool (decide (odd < 6))) := gv_nf (by kernel_rfl) gv_ret
  unfold dueOf
  cases ho : decide (odd < 6) with
  | false => rw [ho] at h1; exact and_no h1
  | true =>
    rw [ho] at h1
    refine and_go h1 (bool_last ?_)
    have hz := zip_ok hK hs hP
    have e1 : ∀ k ∈ ((zipK ks ps).filter fun q => !lt q.1 q.2 s).map (·.1), cpsOk k.cps.toList = true := by
      intro k hk
      obtain ⟨q, hq, rfl⟩ := List.mem_map.mp hk
      exact cps_kind _ (hK.1 _ (zipK_mem (List.mem_filter.mp hq).1).1)
    have e2 : eqOp (.lst ((((zipK ks ps).filter fun q => !lt q.1 q.2 s).map (·.1)).map .str)) (.lst []) = some (((zipK ks ps).filter fun q => !lt q.1 q.2 s).map (·.1)).isEmpty := eq_strs (f := fun k => k) e1
    have e3 : (((zipK ks ps).filter fun q => !lt q.1 q.2 s).map (·.1)).isEmpty = (zipK ks ps).all fun q => lt q.1 q.2 s := by
      generalize zipK ks ps = z
      induction z with
      | nil => rfl
      | cons q z ih =>
        cases h : lt q.1 q.2 s with
        | true => rw [List.filter_cons_of_neg (by rw [h]; decide), List.all_cons, h, ih]; rfl
        | false => rw [List.filter_cons_of_pos (by rw [h]; rfl), List.all_cons, h]; rfl
    refine cmpE_gv (k := j + 50) (a := .lst ((((zipK ks ps).filter fun q => !lt q.1 q.2 s).map (·.1)).map .str)) (b := .lst []) (by kernel_rfl) ?_ (gv_nf (by kernel_rfl) (gv_o gv_ret)) ?_
    · refine cp_gv (k := j + 50) (xs := (zipK ks ps).map fun q => .tup [.str q.1, q.2.pv]) (by kernel_rfl) (by kernel_rfl) (gv_to (zipL_pv ks ps) (gv_nf (by kernel_rfl) (gv_ok (len_ks hK.1 hK.2) (gv_ok (len_pv hK.1 hK.2 hP.2) gv_ret)))) ?_
      have mem : ∀ {v : PV}, v ∈ ((zipK ks ps).map fun q => PV.tup [.str q.1, q.2.pv]) → ∃ k p, (k, p) ∈ zipK ks ps ∧ v = .tup [.str k, p.pv] := by
        intro v hv
        obtain ⟨q, h1, rfl⟩ := List.mem_map.mp hv
        exact ⟨q.1, q.2, h1, rfl⟩
      have hlz : ((zipK ks ps).map fun q => PV.tup [.str q.1, q.2.pv]).length ≤ 3 := by
        rw [List.length_map]
        have : ∀ (ks : List Str) (ps : List Op), (zipK ks ps).length ≤ ks.length := by
          intro ks
          induction ks with
          | nil => intro ps; unfold zipK; exact Nat.zero_le _
          | cons k ks ih =>
            intro ps
            cases ps with
            | nil => unfold zipK; exact Nat.zero_le _
            | cons p ps => exact Nat.succ_le_succ (ih ps)
        exact Nat.le_trans (this ks ps) hK.2
      refine gv_to ?_ (comp_gv (m0 := 25) (ρT := fun x => [(S "size", .int s), (S "kind", tupAt x 0), (S "pair", tupAt x 1)]) (p := fun v => !orcB F_law_lets [tupAt v 0, tupAt (tupAt v 1) 1, .int s]) (f := fun v => tupAt v 0) (xs := (zipK ks ps).map fun q => .tup [.str q.1, q.2.pv]) (fun x hx => ?_) (fun x hx y hy => ?_) (fun x hx j => ?_) (by omega))
      · rw [List.filter_map, List.map_map, List.map_map]; rfl
      · obtain ⟨k, p, hp, rfl⟩ := mem hx; kernel_rfl
      · obtain ⟨k, p, hp, rfl⟩ := mem hx
        obtain ⟨k', p', hp', rfl⟩ := mem hy
        kernel_rfl
      · obtain ⟨k, p, hp, rfl⟩ := mem hx
        refine ⟨gv_nf (t' := ok1 true (ok1 true (ok1 true (ok1 (orcD F_law_lets [.str k, p.r, .int s]) (.ret (!orcB F_law_lets [.str k, p.r, .int s])))))) (by kernel_rfl) ?_, fun _ => gv_nf (by kernel_rfl) gv_ret⟩
        rw [(hz _ hp).2.1]
        exact gv_o (gv_o (gv_o (gv_o gv_ret)))
    · show Gv (needB (eqOp (.lst ((((zipK ks ps).filter fun q => !lt q.1 q.2 s).map (·.1)).map .str)) (.lst [])) T.ret) _
      rw [e2, e3]
      exact gv_o gv_ret
include hK hs hnm hP in
theorem mat_due (h0 : 0 ≤ odd) (h1 : odd < 8) (hl : ps.length = ks.length + (if odd = 7 then 1 else 0)) : Gv (F_mat [FV nm ks d s, insV (xOf nm odd) (ps.map Op.o)]) (.bool (dueOf odd ks ps s)) := by
  by_cases h6 : odd = 6
  · subst h6
    have : dueOf 6 ks ps s = false := rfl
    rw [this]
    exact mat_no hK.1 hK.2 hP.2 (sub_ne nm hnm) (.inl rfl)
  · have hx : xOf nm odd = nm := if_neg h6
    rw [hx]
    have he : eqOp (.str nm) (.str nm) = some true := eqOp_self (by
      unfold okP
      rw [toPy]
      show pyOk 8 (.str nm) = true
      unfold pyOk
      exact cps_name nm hnm)
    by_cases h7 : odd = 7
    · subst h7
      have : dueOf 7 ks ps s = false := rfl
      rw [this]
      rw [if_pos rfl] at hl
      exact mat_no hK.1 hK.2 hP.2 he (.inr (by omega))
    · rw [if_neg h7] at hl
      have hz := zip_ok hK hs hP
      have e : dueOf odd ks ps s = (zipK ks ps).all fun q => tk q.1 q.2 s := by
        unfold dueOf
        rw [decide_eq_true (by omega : odd < 6), Bool.true_and]
        clear hl he
        generalize zipK ks ps = z at hz
        induction z with
        | nil => rfl
        | cons q z ih =>
          rw [List.all_cons, List.all_cons, (hz q (List.mem_cons_self ..)).2.2, ih fun q' hq => hz q' (List.mem_cons_of_mem _ hq)]
      rw [e]
      exact mat_yes hK.1 hK.2 hP.2 he (by omega) fun q hq => (hz q hq).1
include hK hs hnm hP in
theorem b4_gv (j : Nat) (h0 : 0 ≤ odd) (h1 : odd < 8) (hl : ps.length = ks.length + (if odd = 7 then 1 else 0)) : Gv ((Rn g_law (j + 55)).ex scL (ρb4 ks s d nm tn odd ps (xOf nm odd) (dueOf odd ks ps s)) σL (bst 4)) (.nxt, ρb4 ks s d nm tn odd ps (xOf nm odd) (dueOf odd ks ps s), σL) := by
  have g := mat_due (d := d) hK hs hnm hP h0 h1 hl
  refine if_no (k := j + 53) ?_ ?_
  · kernel_rfl
  refine gv_nf (t' := ok1 (orcD F_mat [FV nm ks d s, insV (xOf nm odd) (ps.map Op.o)]) (ok1 true (.ret (!getB (eqOp (.bool (orcB F_mat [FV nm ks d s, insV (xOf nm odd) (ps.map Op.o)])) (.bool (dueOf odd ks ps s))))))) ?_ ?_
  · kernel_rfl
  rw [g.orcD, g.orcB, eq_bools, beq_self_eq_true]
  exact gv_o (gv_o gv_ret)
theorem pick1 : ∀ {l : List PV}, l.length ≤ 4 → pick none (some 1) none l = l.take 1
  | [], _ => by kernel_rfl
  | [a], _ => by kernel_rfl
  | [a, b], _ => by kernel_rfl
  | [a, b, c], _ => by kernel_rfl
  | [a, b, c, e], _ => by kernel_rfl
  | a :: b :: c :: e :: f :: r, h => by simp at h
noncomputable abbrev ifst (l : List Stmt) : Stmt := at' l 0
include hP hS in
theorem b5_turn {k : Str} (hk : k ∈ kindsL) (j : Nat) : ∃ ρ2, Gv ((Rn g_law (j + 40)).exs scL (ρb4 ks s d nm tn odd ps x due ++ [(S "kind", .str k)]) σL (forB (bst 5))) (.nxt, ρ2, σL) ∧ ρ2.take 12 = ρb4 ks s d nm tn odd ps x due := by
  have ef : forB (bst 5) = [at' (forB (bst 5)) 0] := by kernel_rfl
  have eg : forB (at' (forB (bst 5)) 0) = [at' (forB (at' (forB (bst 5)) 0)) 0] := by kernel_rfl
  refine ⟨ρb4 ks s d nm tn odd ps x due ++ [(S "kind", .str k)], ?_, rfl⟩
  rw [ef]
  refine exs_gv (k := j + 39) ?_ (exs_nil (k := j + 38))
  refine for_gv (k := j + 38) (xs := (ps.map Op.pv).take 1) ?_ ?_ ?_
  · kernel_rfl
  · have hl : (ps.map Op.pv).length ≤ 4 := by rw [List.length_map]; exact hP.2
    refine gv_nf (t' := ok1 (Nat.ble (ps.map Op.pv).length 1000) (ok1 true (ok1 (Nat.ble (pick none (some 1) none (ps.map Op.pv)).length 1000) (.ret (pick none (some 1) none (ps.map Op.pv)))))) ?_ ?_
    · kernel_rfl
    rw [pick1 hl]
    refine gv_ok (Nat.ble_eq_true_of_le (by omega)) (gv_o (gv_ok (Nat.ble_eq_true_of_le ?_) gv_ret))
    rw [List.length_take]; omega
  · refine loop_gv (m0 := 20) (fun v hv j => ?_) (by rw [List.length_take]; omega)
    obtain ⟨p, hp, rfl⟩ := pv_mem (List.mem_of_mem_take hv)
    refine ⟨ρb4 ks s d nm tn odd ps x due ++ [(S "kind", .str k), (S "operand", p.o), (S "row_so", p.r)], by kernel_rfl, ρb4 ks s d nm tn odd ps x due ++ [(S "kind", .str k), (S "operand", p.o), (S "row_so", p.r)], ?_, rfl⟩
    rw [eg]
    refine exs_gv (k := j + 19) ?_ (exs_nil (k := j + 18))
    refine if_no (k := j + 17) ?_ ?_
    · kernel_rfl
    refine gv_nf (t' := ok1 (isS (eqOp (.str k) (.str (S "simm32")))) (.br (!getB (eqOp (.str k) (.str (S "simm32")))) (ok1 (orcD F_takes [.str k, p.o, .int s]) (ok1 (orcD F_law_lets [.str k, p.r, .int s]) (ok1 true
      (.br (!getB (eqOp (.bool (orcB F_takes [.str k, p.o, .int s])) (.bool (orcB F_law_lets [.str k, p.r, .int s])))) (.ret true) (.ret false))))) (.ret false))) ?_ ?_
    · kernel_rfl
    rw [s32_some k hk]
    refine gv_o (gv_br (fun h => ?_) fun _ => gv_ret)
    have h : (!strEq k (S "simm32")) = true := h
    have hne : k ≠ S "simm32" := by
      intro e
      rw [strEq_iff.mpr e] at h; cases h
    obtain ⟨a1, a2, a3⟩ := agree_orc (agree_ok hk (hP.1 p hp) (⟨hS, fun e => absurd e hne⟩ : SizeOk k s))
    rw [a1, a2, a3, eq_bools, beq_self_eq_true]
    exact gv_o (gv_o (gv_o (gv_f rfl gv_ret)))
include hK hP hS in
theorem b5_loop (j : Nat) {k : Str} (hk : k ∈ kindsL) : Gv ((Rn g_law (j + 53)).loop scL (ρb4 ks s d nm tn odd ps x due) σL (forG (bst 5)) (forB (bst 5)) (ksV ks ++ [PV.str k])) (.nxt, ρb4 ks s d nm tn odd ps x due, σL) := by
  have hl : (ksV ks ++ [PV.str k]).length ≤ 4 := by
    rw [List.length_append]
    have := hK.2
    unfold ksV
    rw [List.length_map]
    exact Nat.succ_le_succ this
  refine loop_gv (m0 := 40) (fun v hv j => ?_) ?_
  · have hv : ∃ k', k' ∈ kindsL ∧ v = .str k' := by
      rcases List.mem_append.mp hv with hv | hv
      · obtain ⟨k', h1, rfl⟩ := ks_str hv
        exact ⟨k', hK.1 k' h1, rfl⟩
      · rw [List.mem_singleton] at hv
        exact ⟨k, hk, hv⟩
    obtain ⟨k', hk', hv'⟩ := hv
    subst hv'
    have h5 := b5_turn (ks := ks) (s := s) (d := d) (nm := nm) (tn := tn) (odd := odd) (x := x) (due := due) hS hP hk' j
    refine ⟨ρb4 ks s d nm tn odd ps x due ++ [(S "kind", .str k')], ?_, ?_⟩
    · kernel_rfl
    · exact h5
  · omega
include hK hP hS in
theorem b5_si (j b : Nat) : SI (b + 1) ((Rn g_law (j + 54)).ex scL (ρb4 ks s d nm tn odd ps x due) σL (bst 5)) fun b' q => b ≤ b' ∧ q = (.nxt, ρb4 ks s d nm tn odd ps x due, σL) := by
  refine for_siG (k := j + 53) ?_ ?_
  · kernel_rfl
  refine si_nf (t' := ok1 true (ok1 true (.next 37 fun i => ok1 (decide (0 ≤ i)) (ok1 (decide (i < 1000)) (ok1 (isS (ksV kindsL)[i.toNat]?) (ok1 true (ok1 (Nat.ble (ksV ks).length 1000) (ok1 true (ok1 (Nat.ble (ksV ks ++ [getV (ksV kindsL)[i.toNat]?]).length 1000) (.ret (ksV ks ++ [getV (ksV kindsL)[i.toNat]?]))))))))))) ?_ ?_
  · kernel_rfl
  refine sat_ok rfl (sat_ok rfl (sat_next.mpr ⟨b, rfl, fun i h0 h1 => sat_ok (decide_eq_true h0) (sat_ok (decide_eq_true (by omega)) ?_)⟩))
  obtain ⟨k, hk, e⟩ := kinds_at h0 h1
  rw [e]
  have g := b5_loop (d := d) (nm := nm) (tn := tn) (odd := odd) (x := x) (due := due) hK hS hP j hk
  have hl : Nat.ble (ksV ks ++ [getV (some (PV.str k))]).length 1000 = true := by
    apply Nat.ble_eq_true_of_le
    rw [List.length_append]
    have := hK.2
    unfold ksV
    rw [List.length_map, List.length_singleton]
    omega
  exact sat_ok rfl (sat_ok rfl (sat_ok (len_ks hK.1 hK.2) (sat_ok rfl (sat_ok hl (sat_ret.mpr ⟨Nat.le_refl _, g⟩)))))
include hK hs hnm hS in
theorem turn_si (j b : Nat) : SI (b + 22) ((Rn g_law (j + 60)).exs scL (ρt ks s d nm tn) σL (forB (lst' 8))) fun b' q => b ≤ b' ∧ q.1 = .nxt ∧ q.2.1.take 7 = ρl6 ks s d nm ∧ q.2.2 = σL := by
  have eb : forB (lst' 8) = [bst 0, bst 1, bst 2, bst 3, bst 4, bst 5] := by kernel_rfl
  rw [eb]
  have g0 := si_of (b0_sat ks s d nm tn j (b + 21))
  refine si_step (k := j + 59) g0 fun b0 q hq => ?_
  obtain ⟨hb0, odd, o0, o1, hq⟩ := hq
  refine ⟨_, _, hq, ?_⟩
  obtain ⟨e, he⟩ : ∃ e, b0 = (b + 1 + e) + 20 := le_split hb0
  rw [he]
  have g1 := si_of (b1_sat (s := s) (d := d) (nm := nm) (tn := tn) (odd := odd) hK j (b + 1 + e))
  refine si_step (k := j + 58) g1 fun b1 q1 hq1 => ?_
  obtain ⟨hb1, ps, hP, hl, hq1⟩ := hq1
  refine ⟨_, _, hq1, ?_⟩
  have g2 := b2_gv (s := s) (d := d) (nm := nm) (tn := tn) (odd := odd) hK hP j
  refine si_gv (k := j + 57) g2 ?_
  have g3 := b3_gv (d := d) (nm := nm) (tn := tn) (odd := odd) (x := xOf nm odd) hK hs hP j
  refine si_gv (k := j + 56) g3 ?_
  have g4 := b4_gv (d := d) (tn := tn) hK hs hnm hP j o0 o1 hl
  refine si_gv (k := j + 55) g4 ?_
  obtain ⟨e', he'⟩ : ∃ e', b1 = (b + e') + 1 := le_split (Nat.le_trans (Nat.le_add_right (b + 1) e) hb1)
  rw [he']
  have g5 := b5_si (d := d) (nm := nm) (tn := tn) (odd := odd) (x := xOf nm odd) (due := dueOf odd ks ps s) hK hS hP j (b + e')
  refine si_step (k := j + 54) g5 fun b2 q2 hq2 => ?_
  obtain ⟨hb2, hq2⟩ := hq2
  refine ⟨_, _, hq2, ?_⟩
  refine si_nil (k := j + 53) ?_
  exact ⟨Nat.le_trans (Nat.le_add_right b e') hb2, rfl, rfl, rfl⟩
include hK hs hnm hS in
theorem l8_si (b : Nat) : SI (b + 132) ((Rn g_law 92).ex scL (ρl6 ks s d nm) σL (lst' 8)) fun b' q => b ≤ b' ∧ q = (.nxt, ρl6 ks s d nm, σL) := by
  have g : Gv ((Rn g_law 91).evIter scL (ρl6 ks s d nm) σL (forG (lst' 8)) (forI (lst' 8))) [.int 0, .int 1, .int 2, .int 3, .int 4, .int 5] := gv_run (by kernel_rfl)
  refine for_si (k := 91) (xs := [.int 0, .int 1, .int 2, .int 3, .int 4, .int 5]) ?_ g ?_
  · kernel_rfl
  · have ht : ∀ v, bindT false scL (forG (lst' 8)) v (ρl6 ks s d nm) = some (ρt ks s d nm v) := fun v => by kernel_rfl
    have h := loop_draw (Γ := g_law) (sc := scL) (ρ := ρl6 ks s d nm) (σ := σL) (tg := forG (lst' 8)) (body := forB (lst' 8)) (d := 22) (m0 := 60) (xs := [.int 0, .int 1, .int 2, .int 3, .int 4, .int 5]) (k := 91) (b := b)
      (fun v hv j b => ⟨ρt ks s d nm v, ht v, turn_si (d := d) (tn := v) hK hs hS hnm j b ()⟩) (by decide)
    exact fun _ => h
end
/-- the law, from its second statement on -/
theorem law_si : SI 1000000 ((Rn g_law 100).exs scL [(S "pen", .pen)] σL (d_law.body.drop 1)) fun _ q => q.1 = .ret (.bool true) := by
  have eb : d_law.body.drop 1 = [lst' 1, lst' 2, lst' 3, lst' 4, lst' 5, lst' 6, lst' 7, lst' 8, lst' 9] := by kernel_rfl
  rw [eb]
  refine si_gv (k := 99) l1_gv ?_
  have g2 := si_of (l2_sat 999996)
  refine si_step (k := 98) g2 fun b1 q hq => ?_
  obtain ⟨hb1, ks, hK, hq⟩ := hq
  refine ⟨_, _, hq, ?_⟩
  obtain ⟨e1, he1⟩ : ∃ e, b1 = (1000 + e) + 2 := le_split (a := 1000) (Nat.le_trans (by decide) hb1)
  rw [he1]
  have g3 := si_of (l3_sat (1000 + e1) ks)
  refine si_step (k := 97) g3 fun b2 q2 hq2 => ?_
  obtain ⟨hb2, s, d, hS, hq2⟩ := hq2
  refine ⟨_, _, hq2, ?_⟩
  obtain ⟨s', hs', hS', g4⟩ := l4_gv (d := d) hK hS
  refine si_gv (k := 96) g4 ?_
  obtain ⟨e2, he2⟩ : ∃ e, b2 = (900 + e) + 1 := le_split (a := 900) (Nat.le_trans (Nat.le_trans (by decide) (Nat.le_add_right 1000 e1)) hb2)
  rw [he2]
  have g5 := si_of (l5_sat (900 + e2) ks s' d)
  refine si_step (k := 95) g5 fun b3 q3 hq3 => ?_
  obtain ⟨hb3, nm, hnm, hq3⟩ := hq3
  refine ⟨_, _, hq3, ?_⟩
  have g6 := l6_gv (s := s') (d := d) (nm := nm) hK
  refine si_gv (k := 94) g6 ?_
  have g7 := l7_gv (s := s') (d := d) hK hnm
  refine si_gv (k := 93) g7 ?_
  obtain ⟨e3, he3⟩ : ∃ e, b3 = (500 + e) + 132 := le_split (a := 500) (Nat.le_trans (Nat.le_trans (by decide) (Nat.le_add_right 900 e2)) hb3)
  rw [he3]
  have g8 := l8_si (d := d) hK hs' hS' hnm (500 + e3)
  refine si_step (k := 92) g8 fun b4 q4 hq4 => ?_
  obtain ⟨hb4, hq4⟩ := hq4
  refine ⟨_, _, hq4, ?_⟩
  have g9 := l9_gv (ks := ks) (s := s') (d := d) (nm := nm)
  exact si_ret (k := 91) g9 rfl
end Mine

namespace Mine

/-! the pen is made -/
noncomputable def g_pen : Tab := ⟨[(S "int", tyv "int")], [], [], [], [], [], 638⟩
noncomputable def st0 : Stmt := at' d_law.body 0
noncomputable def st0E : List Expr := match asV st0 with
  | .List es _ => es
  | _ => []
noncomputable def isSt0 (st : Stmt) (x : Str) (es : List Expr) : Prop := ∃ p lp pos, st = .Assign [.Name x p] (.List es lp) pos
theorem st0_is : isSt0 st0 (S "pen") st0E := by
  have h : st0 = .Assign [.Name (S "pen") (match st0 with | .Assign (.Name _ p :: _) _ _ => p | _ => default)] (.List st0E (match asV st0 with | .List _ p => p | _ => default)) (match st0 with | .Assign _ _ p => p | _ => default) := by kernel_rfl
  exact ⟨_, _, _, h⟩
noncomputable def cellsV (is : List Int) : List PV := pick none (some 40) none (is.map .int)
theorem sl_ok : ∀ n, n < 64 → Nat.ble (sliceRange (sliceBounds none (some 40) none n).1 (sliceBounds none (some 40) none n).2.1 (sliceBounds none (some 40) none n).2.2).length 40 = true := by decide +kernel
theorem cells_ok {is : List Int} (h : is.length ≤ 63) : ∃ cs : List Int, cellsV is = cs.map .int ∧ cs.length ≤ 40 := by
  have h1 : (cellsV is).length ≤ 40 := by
    unfold cellsV pick
    refine Nat.le_trans (List.length_filterMap_le ..) ?_
    exact Nat.le_of_ble_eq_true (sl_ok _ (by rw [List.length_map]; omega))
  have h2 : ∀ v ∈ cellsV is, ∃ i : Int, v = .int i := by
    intro v hv
    unfold cellsV pick at hv
    obtain ⟨n, _, hn⟩ := List.mem_filterMap.mp hv
    obtain ⟨i, _, rfl⟩ := List.mem_map.mp (List.mem_of_getElem? hn)
    exact ⟨i, rfl⟩
  have h3 : ∀ l : List PV, (∀ v ∈ l, ∃ i : Int, v = .int i) → ∃ cs : List Int, l = cs.map .int := by
    intro l
    induction l with
    | nil => intro _; exact ⟨[], rfl⟩
    | cons v l ih =>
      intro h
      obtain ⟨i, rfl⟩ := h v (List.mem_cons_self ..)
      obtain ⟨cs, rfl⟩ := ih fun v hv => h v (List.mem_cons_of_mem _ hv)
      exact ⟨i :: cs, rfl⟩
  obtain ⟨cs, e⟩ := h3 _ h2
  refine ⟨cs, e, ?_⟩
  rw [e, List.length_map] at h1
  exact h1
theorem pen_gv {is : List Int} (h : is.length ≤ 63) : Gv ((Rn g_pen 60).evL scL [(S "script", .arr (is.map .int))] {} st0E) [.lst (cellsV is), .int 0, .int 0] := by
  have e0 : st0E = [st0E.headD dExpr, (st0E.drop 1).headD dExpr, (st0E.drop 2).headD dExpr] := by kernel_rfl
  rw [e0]
  have hl : Nat.ble (is.map PV.int).length 1000 = true := by rw [List.length_map]; exact Nat.ble_eq_true_of_le (by omega)
  obtain ⟨cs, ec, hc⟩ := cells_ok h
  have hl2 : Nat.ble (pick none (some 40) none (is.map PV.int)).length 1000 = true := by
    have : (cellsV is).length ≤ 40 := by rw [ec, List.length_map]; exact hc
    exact Nat.ble_eq_true_of_le (Nat.le_trans this (by decide))
  have g1 : Gv ((Rn g_pen 59).ev scL [(S "script", .arr (is.map .int))] {} (st0E.headD dExpr)) (.lst (cellsV is)) := by
    refine cp_gv (k := 58) (xs := cellsV is) ?_ ?_ ?_ ?_
    · kernel_rfl
    · kernel_rfl
    · exact gv_nf (t' := ok1 (Nat.ble (is.map PV.int).length 1000) (ok1 true (ok1 (Nat.ble (pick none (some 40) none (is.map PV.int)).length 1000) (.ret (pick none (some 40) none (is.map PV.int)))))) (by kernel_rfl) (gv_ok hl (gv_o (gv_ok hl2 gv_ret)))
    · have hx : ∀ x ∈ cellsV is, ∃ i : Int, x = .int i := by
        intro x hx
        rw [ec] at hx
        obtain ⟨i, _, rfl⟩ := List.mem_map.mp hx
        exact ⟨i, rfl⟩
      refine gv_to ?_ (comp_gv (m0 := 15) (ρT := fun x => [(S "cell", x)]) (p := fun _ => true) (f := fun v => v) (xs := cellsV is) (fun x hx => by kernel_rfl) (fun x hx y hy => by kernel_rfl) (fun x hx' j => ?_) (by rw [ec, List.length_map]; omega))
      · rw [filter_true, List.map_id']
      · obtain ⟨i, rfl⟩ := hx x hx'
        exact ⟨gv_nf (by kernel_rfl) gv_ret, fun _ => gv_run (by kernel_rfl)⟩
  have g2 : Gv ((Rn g_pen 58).ev scL [(S "script", .arr (is.map .int))] {} ((st0E.drop 1).headD dExpr)) (.int 0) := gv_run (by kernel_rfl)
  have g3 : Gv ((Rn g_pen 57).ev scL [(S "script", .arr (is.map .int))] {} ((st0E.drop 2).headD dExpr)) (.int 0) := gv_run (by kernel_rfl)
  exact evL_cons (k := 59) (by kernel_rfl) g1 (evL_cons (k := 58) (by kernel_rfl) g2 (evL_cons (k := 57) (by kernel_rfl) g3 (evL_nil (k := 56))))
theorem rel_ints {c c' : Cx} {g : Frz} : ∀ {vs : List Value} {is : List Int}, RelL c g vs (is.map .int) → RelL c' g vs (is.map .int)
  | _, [], .nil => .nil
  | _, i :: is, .cons h r => by
    cases h
    exact .cons (.int i _) (rel_ints r)

section
variable (pr : Program) (w : World) (s1 : Shared) (mg mb : Str → Option Value)
/-- the law called -/
theorem law_call (C : (cx pr w s1.heap mg mb 0).Ok) {a : Addr} {o : Obj} {vs : Array Value} {n : Nat} {is : List Int} (hN : is.length ≤ 63) (h1 : s1.heap.get? a = some o) (h2 : o.cls = .type "list") (h3 : o.data = .seq vs n)
    (h4 : RelL (cx pr w s1.heap mg mb 0) s1.heap.get? vs.toList (is.map .int)) (Q : Value → Shared → Prop) (E : Value → Shared → Prop) (hq : ∀ h' tk, (∀ b o, s1.heap.get? b = some o → h'.get? b = some o) → Q (.bool true) { s1 with heap := h', toks := tk }) :
    wpAny (model pr w) callerA (call (.ref 686) [.ref a]) Q E s1 := by
  have RA : Room callerA 12 := ⟨by decide, by decide, rfl⟩
  have I0 : Inv (cx pr w s1.heap mg mb 0) ⟨0, 0, 0⟩ s1.heap.get? {} 1000000 s1.heap := ⟨.refl _, .refl _, trivial, fun n => absurd rfl n, trivial, fun n => absurd rfl n, fun n => absurd rfl n⟩
  have rl : RelL (cx pr w s1.heap mg mb 0) s1.heap.get? [.ref a] [.arr (is.map .int)] := .cons (.arr h1 h2 h3 h4) .nil
  refine wpAny_call (code_cells (c := cx pr w s1.heap mg mb 0) (sf := ⟨0, 0, 0⟩) (sf' := ⟨0, 0, 0⟩) (σ := {}) (σ' := {}) (g := s1.heap.get?) (b := 1000000) (d := d_law) (l := [.arr (is.map .int)]) C (fc_law pr w s1.heap mg mb 0) (by decide) I0 (by kernel_rfl) rl _ rfl (fun n => absurd rfl n) fun env h₀ tk X0 F hown => ?_)
  have T0 : TabOk (cx pr w s1.heap mg mb 0) (· = .off) 10 g_pen := tab_off (n := 10) C (by show globsOk (Mine.hd.heap_1 w.params) _ = true; kernel_rfl) no_mem no_mem no_mem no_mem (by kernel_rfl) (keep638 pr w s1.heap mg mb 0 C)
  have eb : d_law.body = st0 :: d_law.body.drop 1 := by kernel_rfl
  have ez : d_law.params.zip [PV.arr (is.map .int)] = [(S "script", .arr (is.map .int))] := by kernel_rfl
  rw [ez] at F
  have I1 : Inv (cx pr w s1.heap mg mb 0) ⟨0, 0, 0⟩ s1.heap.get? {} 1000000 h₀ := I0.ext0 X0
  have RB : Room (callerA.deeper env) 10 := (RA.deeper).le (by decide)
  have H : Here (cx pr w s1.heap mg mb 0) (· = .off) 10 ⟨0, 0, 0⟩ (callerA.deeper env) {} s1.heap.get? 1000000 { s1 with heap := h₀, toks := tk } d_law.sc [(S "script", .arr (is.map .int))] env := ⟨RB, rfl, I1, F⟩
  have S0 := sound_Rn (fun p p' e h => by subst h; cases p' <;> simp [penKind] at e ⊢) T0 C 60
  rw [eb, execs_cons]
  obtain ⟨p, lp, pos, es⟩ := st0_is
  rw [es]
  refine wpAny_bind (assign_wp (t := .Name (S "pen") p) (swaps_plain rfl) swapped_name rfl ?_)
  rw [arm_eval_List]
  refine wpAny_bind (wpAny_standAt (wpAny_bind ?_))
  refine S0.evL H _ _ (fun b' l => b' = 1000000 ∧ l = [.lst (cellsV is), .int 0, .int 0]) (pen_gv hN _ _ ⟨rfl, rfl⟩) fun us l b1 g1 h1' tk1 hp X1 I2 r1 => ?_
  obtain ⟨eb1, el⟩ := hp
  subst eb1 el
  obtain ⟨v0, us1, rfl, hv0, r1⟩ := relL_cons r1
  obtain ⟨v1, us2, rfl, hv1, r1⟩ := relL_cons r1
  obtain ⟨v2, us3, rfl, hv2, r1⟩ := relL_cons r1
  obtain rfl := relL_nil r1
  obtain ⟨t1, rfl⟩ := rel_int hv1
  obtain ⟨t2, rfl⟩ := rel_int hv2
  obtain ⟨cs, ec, hc⟩ := cells_ok hN
  rw [ec] at hv0
  obtain ⟨l0, o0, vs0, n0, rfl, q1, q2, q3, q4, q5⟩ := rel_lst hv0
  refine wpAny_newObj_type ?_ (by show 3 ≤ sizeLine; rw [sizeLine_eq]; decide)
  have dead : h1'.get? h1'.objs.size = none := get_size
  have g1n : g1 h1'.objs.size = none := none_of_sub X1.sub dead
  have kp : ∀ b o, h1'.get? b = some o → (h1'.push { cls := .type "list", data := .seq [Value.ref l0, .int 0 t1, .int 0 t2].toArray }).get? b = some o := fun b o e => Heap.get?_push_of_some _ e
  have new : (h1'.push { cls := .type "list", data := .seq [Value.ref l0, .int 0 t1, .int 0 t2].toArray }).get? h1'.objs.size = some { cls := .type "list", data := .seq [Value.ref l0, .int 0 t1, .int 0 t2].toArray } := Heap.get?_push_size _ rfl
  generalize hH : h1'.push { cls := .type "list", data := .seq [Value.ref l0, .int 0 t1, .int 0 t2].toArray } = H2 at kp new ⊢
  generalize hA : h1'.objs.size = a0 at dead g1n new ⊢
  have C' : (cx pr w s1.heap mg mb a0).Ok := ⟨C.K, C.lim, C.g, C.b, C.boot⟩
  have F1 : Fm (cx pr w s1.heap mg mb 0) ⟨0, 0, 0⟩ g1 {} d_law.sc [(S "script", .arr (is.map .int))] env h1' := F.extP X1
  have XG : Ext (W0) g1 h1' g1 H2 := Ext.grown X1.sub kp
  have F2 := F1.ext XG fun _ _ q => q
  have F3 : Fm (cx pr w s1.heap mg mb a0) ⟨0, 0, 0⟩ g1 σL d_law.sc [] env H2 :=
    ⟨F2.sce, F2.kind, F2.glob, F2.blt, (by obtain ⟨m, hm, _⟩ := F2.ns; exact ⟨m, hm, fun x v e => by cases e⟩), F2.cells, F2.inj, F2.apart, F2.live, F2.out, (fun _ a ha e => by
      have e : a = a0 := e
      have := F1.live a ha
      rw [e, dead] at this
      cases this), fun n => absurd rfl n⟩
  have hpen : PenAt (cx pr w s1.heap mg mb a0) g1 (cs, 0, 0) H2 := ⟨l0, t1, t2, ⟨_, new, rfl, _, rfl⟩, .lst q1 q2 q3 q4 (rel_ints q5)⟩
  have I3 : Inv (cx pr w s1.heap mg mb a0) ⟨0, 0, 0⟩ g1 σL 1000000 H2 :=
    ⟨I2.base, XG.sub, ⟨(cs, 0, 0), hpen, hc, Int.le_refl 0, (by show (0 : Int) + ((1000000 : Nat) : Int) ≤ 1000000; decide), Int.le_refl 0⟩, fun _ => g1n, trivial, fun n => absurd rfl n, fun n => absurd rfl n⟩
  refine assign_Name (store_one (c := cx pr w s1.heap mg mb a0) (s := { s1 with heap := H2, toks := tk1 }) (lo := false) F3 XG.sub (by kernel_rfl) (.rel .pen) fun h3 tk3 X3 F4 => ?_)
  have I4 := inv_store I3 F3 X3
  have H4 : Here (cx pr w s1.heap mg mb a0) AnyP 10 ⟨0, 0, 0⟩ (callerA.deeper env) σL g1 1000000 { s1 with heap := h3, toks := tk3 } d_law.sc [(S "pen", .pen)] env := ⟨RB, rfl, I4, F4⟩
  have SL := sound_Rn kindP_any (tab_law pr w s1.heap mg mb a0 C') C' 100
  refine SL.exs H4 _ _ _ (law_si ()) fun fl q b' g' h' tk' hp X4 I5 F5 M5 W5 => ?_
  obtain ⟨f, ρ5, σ5⟩ := q
  dsimp only at hp
  subst hp
  cases W5 with
  | ret hr =>
  cases hr
  refine hq h' tk' fun b o e => ?_
  have e1 := X0.keep b o e fun q => q
  have e2 := X1.keep b o e1 fun q => q.is.1 rfl
  have e3 := kp b o e2
  have nb : b ≠ a0 := fun x => by rw [x, dead] at e2; cases e2
  have no : ¬ Own env b := fun x => by rw [hown b x] at e; cases e
  have e4 := X3.keep b o e3 fun q => no q.own
  refine X4.keep b o e4 fun q => ?_
  rcases q with q | q | q
  · exact nb q.is.2
  · exact no q.own
  · exact q.1 rfl
end
end Mine

namespace Mine
section
variable {R : WRecords} {cl : Str → Option Addr} {h : Heap} {v : Value} {vs : List Value} {d : WData} {ds : List WData} {as : List Addr}
theorem readsAll_cons (q : ReadsAllW R cl h vs (d :: ds) as) : ∃ u us a b, vs = u :: us ∧ ReadsW R cl h u d a ∧ ReadsAllW R cl h us ds b := by
  cases q with
  | cons x y => exact ⟨_, _, _, _, rfl, x, y⟩
theorem readsAll_nil (q : ReadsAllW R cl h vs [] as) : vs = [] := by cases q; rfl
theorem reads_list {xs : List WData} (q : ReadsW R cl h v (.list xs) as) : ∃ (a : Addr) (o : Obj) (us : Array Value) (n : Nat) (bs : List Addr), v = .ref a ∧ h.get? a = some o ∧ o.cls = .type "list" ∧ o.data = .seq us n ∧ ReadsAllW R cl h us.toList xs bs := by
  cases q with
  | list a b c e => exact ⟨_, _, _, _, _, rfl, a, b, c, e⟩
theorem reads_int {i : Int} (q : ReadsW R cl h v (.int i) as) : ∃ t, v = .int i t := by cases q; exact ⟨_, rfl⟩
theorem has_int (q : WShape.has R d .int = true) : ∃ i, d = .int i := by
  cases d with
  | int i => exact ⟨i, rfl⟩
  | _ => cases q
theorem ints_of {c : Cx} {g : Frz} (q : ReadsAllW R cl h vs ds as) (hh : WShape.hasItems R ds .int = true) : ∃ is : List Int, ds.length = is.length ∧ RelL c g vs (is.map .int) := by
  induction ds generalizing vs as with
  | nil => exact ⟨[], rfl, readsAll_nil q ▸ .nil⟩
  | cons d ds ih =>
    have hh : (WShape.has R d .int && WShape.hasItems R ds .int) = true := hh
    rw [Bool.and_eq_true] at hh
    obtain ⟨u, us, a, b, rfl, r1, r2⟩ := readsAll_cons q
    obtain ⟨is, e, r⟩ := ih r2 hh.2
    obtain ⟨i, rfl⟩ := has_int hh.1
    obtain ⟨t, rfl⟩ := reads_int r1
    exact ⟨i :: is, by rw [List.length_cons, List.length_cons, e], .cons (.int i t) r⟩
end
theorem cw_all : PySem.Challenge.rw_pb0423_01.Holds := by
  refine Mine.hd ?_
  intro w s0 s1 mg mb G Y fa o pm cd doc dV kV ho hd hcd hD hmg hg args vals as hpre hlay hrd hwl hlo
  clear hD hd hcd hlay hwl hlo
  have T := topRead_of G.T
  have C : (cx PySem.Challenge.pw_pb0423_01 w s1.heap mg mb 0).Ok := ⟨kIn_of Y, T.nolimit, T.g, T.b, T.builtins⟩
  have hfa : mg (S "law") = some (.ref 686) := mg_of C.K T.g (by show nsIn (Mine.hd.heap_1 w.params) mainGlobals (S "law") = some (some (.ref 686)); kernel_rfl)
  have hfa' : mg (S "law") = some (.ref fa) := hmg
  have ef : fa = 686 := by rw [hfa] at hfa'; cases hfa'; rfl
  subst ef
  clear hmg hfa hfa' ho
  have hpre1 : (WShape.hasAll [] args [.list .int] && PySem.Challenge.rw_pb0423_01.row.pre.holds [] { args := args }) = true := hpre
  rw [Bool.and_eq_true] at hpre1
  obtain ⟨p1, p2⟩ := hpre1
  cases args with
  | nil => cases p1
  | cons d ds =>
  have p1 : (WShape.has [] d (.list .int) && WShape.hasAll [] ds []) = true := p1
  rw [Bool.and_eq_true] at p1
  obtain ⟨p3, p4⟩ := p1
  cases ds with
  | cons _ _ => cases p4
  | nil =>
  obtain ⟨v, us, a1, b1, rfl, r1, r2⟩ := readsAll_cons hrd
  obtain rfl := readsAll_nil r2
  cases d with
  | list xs =>
    obtain ⟨a, o, us, n, bs, rfl, h1, h2, h3, h4⟩ := reads_list r1
    have p3 : WShape.hasItems [] xs .int = true := by
      have : (WShape.hasItems [] xs .int || false) = true := p3
      rwa [Bool.or_false] at this
    have hl : xs.length ≤ 63 := by
      simp [WTm.holds, WTm.value, OpenLaw.row, OpenLaw.pre, PySem.Challenge.rw_pb0423_01] at p2
      have el : less? (.int 63) (.int (xs.length : Int)) = some (decide ((63 : Int) < xs.length)) := by kernel_rfl
      rw [el] at p2
      cases hdc : decide ((63 : Int) < xs.length) with
      | true => rw [hdc] at p2; cases p2
      | false =>
        have := of_decide_eq_false hdc
        omega
    obtain ⟨is, e1, e2⟩ := ints_of (c := cx PySem.Challenge.pw_pb0423_01 w s1.heap mg mb 0) (g := s1.heap.get?) h4 p3
    refine law_call PySem.Challenge.pw_pb0423_01 w s1 mg mb C (by omega) h1 h2 h3 e2 _ _ fun h' tk hk => ?_
    refine ⟨.inl ⟨.bool true, .bool true, [], rfl, fun _ => rfl, .bool true, ?_, fun _ => ⟨List.nodup_nil, fun _ h => by cases h⟩⟩, .of_keep hk, rfl, .of_eq hg⟩
    kernel_rfl
  | _ => cases p3
end Mine

theorem PySem.Challenge.cw_pb0423_01_holds : PySem.Challenge.rw_pb0423_01.Holds := by
  exact Mine.cw_all

import PyProof.Rows.All
import Wide.All
import OpenK.AllK
import Wide.FinOn
import PyProof.ReprLen
import PyProof.EqLayable
import HandS.ForMost
import HandS.IsInst
import HandS.Style
import HandS.TupAny
import HandS.Walk
import HandS.StrMore
import HandS.Exc
import HandS.ExcOwn
import HandS.WordsExc
import HandS.ExcInit
import HandS.ExcValue
import HandS.Lambda
import HandS.EndTab
import HandS.ExcIs
import HandS.ExcField
import HandS.RaiseMore
import KE.KExcIs
import KE.KExcSuper
import HandS.Defaults
import HandS.HeadHook4
import HandS.Head2
import PySem.Challenge.RW_onebase_k17_whole_trees_there_and_back
import KE.GoesEnum
import HandS.EndBits
set_option Elab.async false
set_option linter.all false
set_option maxRecDepth 100000
set_option maxHeartbeats 4000000
/-! The plain law: trees, their cells, the reading machine. No program in sight. -/
namespace K17
open PySem
/-! ### trees -/
mutual
def isT : PyData → Nat → Bool
  | .none, _ => true
  | .bool _, _ => true
  | .int i, _ => decide (0 ≤ i) && decide (i < 32768)
  | .str x, _ => decide (x.cps.toList.length ≤ 8) && x.cps.toList.all (fun c => decide (97 ≤ c) && decide (c ≤ 122))
  | .tuple ds, n => decide (0 < n) && isTAll ds (n - 1)
  | .list _, _ => false
  | .dict _, _ => false
def isTAll : List PyData → Nat → Bool
  | [], _ => true
  | d :: r, n => isT d n && isTAll r n
end
theorem isTAll_iff : ∀ {l : List PyData} {n : Nat}, isTAll l n = true ↔ ∀ d ∈ l, isT d n = true
  | [], n => by simp [isTAll]
  | d :: r, n => by simp [isTAll, isTAll_iff (l := r)]
/-! ### cells -/
def numC (i : Int) : List Int := if i < 32 then [i] else if i < 1024 then [i / 32 + 32, i % 32] else [i / 1024 + 32, i / 32 % 32 + 32, i % 32]
def strR : List Nat → List Int
  | [] => []
  | [c] => [(c : Int) - 64]
  | c :: d :: r => ((c : Int) - 96) :: strR (d :: r)
def strC (l : List Nat) : List Int := match l with
  | [] => [32]
  | c :: r => strR (c :: r)
mutual
def cel : PyData → List Int
  | .none => [29]
  | .bool b => [if b then 31 else 30]
  | .int i => 59 :: numC i
  | .str x => strC x.cps.toList
  | .tuple ds => 27 :: (celAll ds ++ [28])
  | .list _ => []
  | .dict _ => []
def celAll : List PyData → List Int
  | [] => []
  | d :: r => cel d ++ celAll r
end
theorem celAll_flat : ∀ l : List PyData, celAll l = (l.map cel).flatten
  | [] => rfl
  | d :: r => by simp only [celAll, celAll_flat r, List.map_cons, List.flatten_cons]
/-! ### the machine -/
structure RS where
  stack : List (List PyData)
  letters : Option (List Nat)
  digits : Option (List Int)
def RS.init : RS := ⟨[[]], none, none⟩
def push (s : List (List PyData)) (d : PyData) : List (List PyData) := match s with
  | [] => []
  | t :: r => (t ++ [d]) :: r
def whole (s : RS) : Bool := match s with
  | ⟨[t], none, none⟩ => !t.isEmpty
  | _ => false
def stepL (s : RS) (c : Int) : Option RS :=
  if (1 ≤ c ∧ c ≤ 26) ∧ (s.letters.getD []).length + 1 < 8 then some { s with letters := some (s.letters.getD [] ++ [(c + 96).toNat]) }
  else if 33 ≤ c ∧ c ≤ 58 then some { s with letters := none, stack := push s.stack (.str ⟨(s.letters.getD [] ++ [(c + 64).toNat]).toArray⟩) }
  else none
def numOf (ds : List Int) : Int := ds.foldl (fun n d => n * 32 + d) 0
def stepD (s : RS) (ds : List Int) (c : Int) : Option RS :=
  if 32 ≤ c then (if 3 ≤ ds.length + 1 ∨ (ds = [] ∧ c = 32) then none else some { s with digits := some (ds ++ [c - 32]) })
  else some { s with digits := none, stack := push s.stack (.int (numOf (ds ++ [c]))) }
def isLet (c : Int) : Prop := (1 ≤ c ∧ c ≤ 26) ∨ (33 ≤ c ∧ c ≤ 58)
instance (c : Int) : Decidable (isLet c) := inferInstanceAs (Decidable (_ ∨ _))
def plainOf (c : Int) : Option PyData := if c = 29 then some .none else if c = 30 then some (.bool false) else if c = 31 then some (.bool true) else if c = 32 then some (.str ⟨#[]⟩) else none
def closed : List (List PyData) → Option (List (List PyData))
  | t :: u :: r => some ((u ++ [.tuple t]) :: r)
  | _ => none
def stepP (s : RS) (c : Int) : Option RS := match plainOf c with
  | some d => some { s with stack := push s.stack d }
  | none => if c = 59 then some { s with digits := some [] } else if c = 27 ∧ s.stack.length ≤ 12 then some { s with stack := [] :: s.stack } else if c = 28 then (closed s.stack).map fun t => { s with stack := t } else none
def step (s : RS) (c : Int) : Option RS := match s.digits with
  | some ds => stepD s ds c
  | none => if s.letters.isSome = true ∨ isLet c then (if whole s = true then none else stepL s c) else if whole s = true then none else stepP s c
def runAt : RS → Nat → List Int → Except Nat RS
  | s, _, [] => .ok s
  | s, i, c :: r => match step s c with
    | some s' => runAt s' (i + 1) r
    | none => .error i
def told (s : RS) : PyData := match s.stack with
  | (d :: _) :: _ => d
  | _ => .none
def treeOf (cs : List Int) : Except Nat PyData := match runAt RS.init 0 cs with
  | .error i => .error i
  | .ok s => if whole s = true then .ok (told s) else .error cs.length
/-! ### what the machine does with a tree's cells -/
def Fresh (t : List PyData) (r : List (List PyData)) : Prop := r ≠ [] ∨ t = []
theorem not_whole {t : List PyData} {r : List (List PyData)} {l : Option (List Nat)} {d : Option (List Int)} (h : Fresh t r) : whole ⟨t :: r, l, d⟩ = false := by
  unfold whole
  rcases h with h | h
  · cases r with
    | nil => exact absurd rfl h
    | cons a b => rfl
  · subst h
    cases r <;> cases l <;> cases d <;> rfl
theorem run_cons {s s' : RS} {i : Nat} {c : Int} {r : List Int} (h : step s c = some s') : runAt s i (c :: r) = runAt s' (i + 1) r := by
  simp only [runAt, h]
theorem step_plain {t : List PyData} {r : List (List PyData)} {c : Int} (h : Fresh t r) (hl : ¬ isLet c) : step ⟨t :: r, none, none⟩ c = stepP ⟨t :: r, none, none⟩ c := by
  have hw := not_whole (l := none) (d := none) h
  simp [step, hl, hw]
theorem step_let {t : List PyData} {r : List (List PyData)} {l : Option (List Nat)} {c : Int} (h : Fresh t r) (hl : l.isSome = true ∨ isLet c) : step ⟨t :: r, l, none⟩ c = stepL ⟨t :: r, l, none⟩ c := by
  have hw := not_whole (l := l) (d := none) h
  unfold step
  simp only [hw]
  rw [if_pos hl]
  simp
/-- the letters of a word -/
theorem run_str {t : List PyData} {r : List (List PyData)} (hf : Fresh t r) : ∀ (l : List Nat) (pre : List Nat) (o : Option (List Nat)) (i : Nat) (k : List Int), l ≠ [] → (∀ c ∈ l, 97 ≤ c ∧ c ≤ 122) → pre.length + l.length ≤ 8 → o.getD [] = pre →
    runAt ⟨t :: r, o, none⟩ i (strR l ++ k) = runAt ⟨(t ++ [.str ⟨(pre ++ l).toArray⟩]) :: r, none, none⟩ (i + l.length) k
  | [], _, _, _, _, h, _, _, _ => absurd rfl h
  | [c], pre, o, i, k, _, hc, hl, ho => by
    have h1 := hc c (by simp)
    show runAt _ i (((c : Int) - 64) :: k) = _
    refine (run_cons (s' := ⟨(t ++ [.str ⟨(pre ++ [c]).toArray⟩]) :: r, none, none⟩) ?_).trans rfl
    rw [step_let hf (.inr (.inr (by constructor <;> omega)))]
    unfold stepL
    rw [if_neg (by intro z; omega), if_pos (by constructor <;> omega)]
    have e : ((c : Int) - 64 + 64).toNat = c := by omega
    simp only [ho, e, push]
  | c :: d :: q, pre, o, i, k, _, hc, hl, ho => by
    have h1 := hc c (by simp)
    simp only [List.length_cons] at hl
    show runAt _ i (((c : Int) - 96) :: (strR (d :: q) ++ k)) = _
    refine (run_cons (s' := ⟨t :: r, some (pre ++ [c]), none⟩) ?_).trans ?_
    · rw [step_let hf (.inr (.inl (by constructor <;> omega)))]
      unfold stepL
      have e : ((c : Int) - 96 + 96).toNat = c := by omega
      rw [if_pos ⟨by constructor <;> omega, by simp only [ho]; omega⟩]
      simp only [ho, e]
    · rw [run_str hf (d :: q) (pre ++ [c]) (some (pre ++ [c])) (i + 1) k (by simp) (fun x hx => hc x (by simp at hx ⊢; right; exact hx)) (by simp; omega) rfl]
      simp only [List.append_assoc, List.cons_append, List.nil_append, List.length_cons]
      congr 1
      omega
theorem numOf_one (a : Int) : numOf [a] = a := by simp [numOf]
theorem numOf_two (a b : Int) : numOf [a, b] = a * 32 + b := by simp [numOf]
theorem numOf_three (a b c : Int) : numOf [a, b, c] = (a * 32 + b) * 32 + c := by simp [numOf]
theorem run_num {t : List PyData} {r : List (List PyData)} {n : Int} (h0 : 0 ≤ n) (h1 : n < 32768) (i : Nat) (k : List Int) :
    runAt ⟨t :: r, none, some []⟩ i (numC n ++ k) = runAt ⟨(t ++ [.int n]) :: r, none, none⟩ (i + (numC n).length) k := by
  unfold numC
  by_cases c1 : n < 32
  · simp only [if_pos c1, List.cons_append, List.nil_append, List.length_cons, List.length_nil]
    refine (run_cons ?_).trans rfl
    show stepD _ [] n = _
    unfold stepD
    rw [if_neg (by omega)]
    simp only [List.nil_append, numOf_one, push]
  · by_cases c2 : n < 1024
    · simp only [if_neg c1, if_pos c2, List.cons_append, List.nil_append, List.length_cons, List.length_nil]
      refine (run_cons (s' := ⟨t :: r, none, some [n / 32]⟩) ?_).trans ((run_cons ?_).trans rfl)
      · show stepD _ [] (n / 32 + 32) = _
        unfold stepD
        rw [if_pos (by omega), if_neg (by simp; omega)]
        simp
      · show stepD _ [n / 32] (n % 32) = _
        unfold stepD
        rw [if_neg (by omega)]
        have e : n / 32 * 32 + n % 32 = n := by omega
        simp only [List.cons_append, List.nil_append, numOf_two, push, e]
    · simp only [if_neg c1, if_neg c2, List.cons_append, List.nil_append, List.length_cons, List.length_nil]
      refine (run_cons (s' := ⟨t :: r, none, some [n / 1024]⟩) ?_).trans ((run_cons (s' := ⟨t :: r, none, some [n / 1024, n / 32 % 32]⟩) ?_).trans ((run_cons ?_).trans rfl))
      · show stepD _ [] (n / 1024 + 32) = _
        unfold stepD
        rw [if_pos (by omega), if_neg (by simp; omega)]
        simp
      · show stepD _ [n / 1024] (n / 32 % 32 + 32) = _
        unfold stepD
        rw [if_pos (by omega), if_neg (by simp)]
        simp
      · show stepD _ [n / 1024, n / 32 % 32] (n % 32) = _
        unfold stepD
        rw [if_neg (by omega)]
        have e : (n / 1024 * 32 + n / 32 % 32) * 32 + n % 32 = n := by omega
        simp only [List.cons_append, List.nil_append, numOf_three, push, e]
theorem strR_length : ∀ l : List Nat, (strR l).length = l.length
  | [] => rfl
  | [_] => rfl
  | _ :: d :: r => by simp only [strR, List.length_cons, strR_length (d :: r)]
mutual
theorem feed : ∀ (d : PyData) (n : Nat), isT d n = true → ∀ (t : List PyData) (r : List (List PyData)), Fresh t r → r.length + n ≤ 12 → ∀ (i : Nat) (k : List Int),
    runAt ⟨t :: r, none, none⟩ i (cel d ++ k) = runAt ⟨(t ++ [d]) :: r, none, none⟩ (i + (cel d).length) k
  | .none, n, _, t, r, hf, _, i, k => by
    refine run_cons ?_
    rw [step_plain hf (by unfold isLet; omega)]
    rfl
  | .bool b, n, _, t, r, hf, _, i, k => by
    cases b
    · refine run_cons (c := 30) ?_
      rw [step_plain hf (by unfold isLet; omega)]
      rfl
    · refine run_cons (c := 31) ?_
      rw [step_plain hf (by unfold isLet; omega)]
      rfl
  | .int z, n, h, t, r, hf, _, i, k => by
    simp only [isT, Bool.and_eq_true, decide_eq_true_eq] at h
    refine (run_cons (c := 59) (s' := ⟨t :: r, none, some []⟩) ?_).trans ?_
    · rw [step_plain hf (by unfold isLet; omega)]
      rfl
    · refine (run_num h.1 h.2 (i + 1) k).trans ?_
      show _ = runAt _ (i + ((numC z).length + 1)) k
      congr 1
      omega
  | .str x, n, h, t, r, hf, _, i, k => by
    simp only [isT, Bool.and_eq_true, decide_eq_true_eq, List.all_eq_true] at h
    obtain ⟨⟨l⟩⟩ := x
    cases l with
    | nil =>
      refine run_cons (c := 32) ?_
      rw [step_plain hf (by unfold isLet; omega)]
      rfl
    | cons c q =>
      have z := run_str hf (c :: q) [] none i k (by simp) h.2 (by simpa using h.1) rfl
      show runAt _ i (strR (c :: q) ++ k) = runAt _ (i + (strR (c :: q)).length) k
      rw [z, strR_length]
      simp
  | .tuple ds, n, h, t, r, hf, hn, i, k => by
    simp only [isT, Bool.and_eq_true, decide_eq_true_eq] at h
    show runAt _ i (27 :: ((celAll ds ++ [28]) ++ k)) = runAt _ (i + (celAll ds ++ [28]).length.succ) k
    refine (run_cons (s' := ⟨[] :: t :: r, none, none⟩) ?_).trans ?_
    · rw [step_plain hf (by unfold isLet; omega)]
      show (if (27 : Int) = 27 ∧ (t :: r).length ≤ 12 then _ else _) = _
      rw [if_pos ⟨rfl, by simp; omega⟩]
    · rw [List.append_assoc, feedAll ds (n - 1) h.2 [] (t :: r) (by simp) (by simp; omega)]
      refine (run_cons (c := 28) (s' := ⟨(t ++ [.tuple ds]) :: r, none, none⟩) ?_).trans ?_
      · rw [step_plain (.inl (by simp)) (by unfold isLet; omega)]
        rfl
      · show runAt _ _ k = _
        congr 1
        simp only [List.length_append, List.length_cons, List.length_nil]
        omega
  | .list _, _, h, _, _, _, _, _, _ => by simp [isT] at h
  | .dict _, _, h, _, _, _, _, _, _ => by simp [isT] at h
theorem feedAll : ∀ (l : List PyData) (n : Nat), isTAll l n = true → ∀ (t : List PyData) (r : List (List PyData)), r ≠ [] → r.length + n ≤ 12 → ∀ (i : Nat) (k : List Int),
    runAt ⟨t :: r, none, none⟩ i (celAll l ++ k) = runAt ⟨(t ++ l) :: r, none, none⟩ (i + (celAll l).length) k
  | [], n, _, t, r, _, _, i, k => by simp [celAll]
  | d :: q, n, h, t, r, hr, hn, i, k => by
    simp only [isTAll, Bool.and_eq_true] at h
    simp only [celAll, List.append_assoc]
    rw [feed d n h.1 t r (.inl hr) hn, feedAll q n h.2 (t ++ [d]) r hr hn]
    simp only [List.append_assoc, List.cons_append, List.nil_append, List.length_append]
    congr 1
    omega
end
/-- there and back -/
theorem treeOf_cel {d : PyData} (h : isT d 12 = true) : treeOf (cel d) = .ok d := by
  have z := feed d 12 h [] [] (.inr rfl) (by simp) 0 []
  rw [List.append_nil] at z
  unfold treeOf
  show (match runAt ⟨[[]], none, none⟩ 0 (cel d) with | .error i => _ | .ok s => _) = _
  rw [z]
  simp [runAt, whole, told]
/-- behind a whole tree nothing more is taken -/
theorem treeOf_more {d : PyData} {o : List Int} (h : isT d 12 = true) (ho : o ≠ []) : treeOf (cel d ++ o) = .error (cel d).length := by
  have z := feed d 12 h [] [] (.inr rfl) (by simp) 0 o
  unfold treeOf
  show (match runAt ⟨[[]], none, none⟩ 0 (cel d ++ o) with | .error i => _ | .ok s => _) = _
  rw [z]
  cases o with
  | nil => exact absurd rfl ho
  | cons c r =>
    have hs : step ⟨([] ++ [d]) :: [], none, none⟩ c = none := by
      have hw : whole ⟨([] ++ [d]) :: [], none, none⟩ = true := rfl
      unfold step
      simp only [hw]
      split <;> simp
    simp only [runAt, hs]
    simp
/-- no tree's cells begin another's -/
theorem cel_prefix {d e : PyData} (hd : isT d 12 = true) (he : isT e 12 = true) (h : cel e = (cel d).take (cel e).length) : cel e = cel d := by
  have z : cel d = cel e ++ (cel d).drop (cel e).length := by
    conv => lhs; rw [← List.take_append_drop (cel e).length (cel d)]
    rw [← h]
  by_cases q : (cel d).drop (cel e).length = []
  · rw [q, List.append_nil] at z
    exact z.symm
  · have w1 := treeOf_more he q
    rw [← z, treeOf_cel hd] at w1
    cases w1
end K17

set_option Elab.async false
set_option linter.all false
set_option maxRecDepth 100000
set_option maxHeartbeats 4000000
/-! Sizes of trees and of their cells; what repr and == ask of them. -/
namespace K17
open PySem
mutual
def nd : PyData → Nat
  | .tuple ds => 1 + ndAll ds
  | .list ds => 1 + ndAll ds
  | .none => 1
  | .bool _ => 1
  | .int _ => 1
  | .str _ => 1
  | .dict _ => 1
def ndAll : List PyData → Nat
  | [] => 0
  | d :: r => nd d + ndAll r
end
theorem ndAll_app : ∀ (a b : List PyData), ndAll (a ++ b) = ndAll a + ndAll b
  | [], b => by simp [ndAll]
  | d :: r, b => by simp only [List.cons_append, ndAll, ndAll_app r b]; omega
theorem nd_pos : ∀ d : PyData, 1 ≤ nd d
  | .tuple ds => by simp only [nd]; omega
  | .list ds => by simp only [nd]; omega
  | .none => by simp only [nd]; omega
  | .bool _ => by simp only [nd]; omega
  | .int _ => by simp only [nd]; omega
  | .str _ => by simp only [nd]; omega
  | .dict _ => by simp only [nd]; omega
theorem numC_len (i : Int) : (numC i).length ≤ 3 := by
  unfold numC
  split
  · simp
  · split <;> simp
theorem strC_len (l : List Nat) : (strC l).length ≤ l.length + 1 := by
  cases l with
  | nil => simp [strC]
  | cons c r => show (strR (c :: r)).length ≤ _; rw [strR_length]; omega
theorem strC_len8 {l : List Nat} (h : l.length ≤ 8) : (strC l).length ≤ 8 := by
  cases l with
  | nil => simp [strC]
  | cons c r => show (strR (c :: r)).length ≤ _; rw [strR_length]; exact h
mutual
theorem cel_len : ∀ (d : PyData) (n : Nat), isT d n = true → (cel d).length ≤ 8 * nd d
  | .none, _, _ => by simp [cel, nd]
  | .bool _, _, _ => by simp [cel, nd]
  | .int i, _, _ => by have := numC_len i; simp only [cel, nd, List.length_cons]; omega
  | .str x, _, h => by
    simp only [isT, Bool.and_eq_true, decide_eq_true_eq] at h
    have := strC_len8 h.1
    simp only [cel, nd]
    omega
  | .tuple ds, n, h => by
    simp only [isT, Bool.and_eq_true, decide_eq_true_eq] at h
    have := celAll_len ds (n - 1) h.2
    simp only [cel, nd, List.length_cons, List.length_append, List.length_nil]
    omega
  | .list _, _, h => by simp [isT] at h
  | .dict _, _, h => by simp [isT] at h
theorem celAll_len : ∀ (l : List PyData) (n : Nat), isTAll l n = true → (celAll l).length ≤ 8 * ndAll l
  | [], _, _ => by simp [celAll]
  | d :: r, n, h => by
    simp only [isTAll, Bool.and_eq_true] at h
    have h1 := cel_len d n h.1
    have h2 := celAll_len r n h.2
    simp only [celAll, ndAll, List.length_append]
    omega
end
theorem strR_range : ∀ (l : List Nat), (∀ c ∈ l, 97 ≤ c ∧ c ≤ 122) → ∀ z ∈ strR l, 0 ≤ z ∧ z < 64
  | [], _, z, hz => by simp [strR] at hz
  | [c], h, z, hz => by
    have h1 := h c (by simp)
    simp only [strR, List.mem_singleton] at hz
    omega
  | c :: d :: r, h, z, hz => by
    have h1 := h c (by simp)
    simp only [strR, List.mem_cons] at hz
    rcases hz with e | hz
    · omega
    · exact strR_range (d :: r) (fun x hx => h x (List.mem_cons_of_mem _ hx)) z (by simpa [strR] using hz)
mutual
theorem cel_range : ∀ (d : PyData) (n : Nat), isT d n = true → ∀ z ∈ cel d, 0 ≤ z ∧ z < 64
  | .none, _, _, z, hz => by simp only [cel, List.mem_singleton] at hz; omega
  | .bool b, _, _, z, hz => by
    simp only [cel, List.mem_singleton] at hz
    cases b <;> simp at hz <;> omega
  | .int i, _, h, z, hz => by
    simp only [isT, Bool.and_eq_true, decide_eq_true_eq] at h
    simp only [cel, List.mem_cons, numC] at hz
    rcases hz with e | hz
    · omega
    · split at hz
      · simp at hz; omega
      · split at hz
        · simp at hz; omega
        · simp at hz; omega
  | .str x, _, h, z, hz => by
    simp only [isT, Bool.and_eq_true, decide_eq_true_eq, List.all_eq_true] at h
    simp only [cel] at hz
    cases e : x.cps.toList with
    | nil => rw [e] at hz; simp [strC] at hz; omega
    | cons c r =>
      rw [e] at hz h
      exact strR_range (c :: r) h.2 z hz
  | .tuple ds, n, h, z, hz => by
    simp only [isT, Bool.and_eq_true, decide_eq_true_eq] at h
    simp only [cel, List.mem_cons, List.mem_append, List.mem_singleton] at hz
    rcases hz with e | e | e
    · omega
    · exact celAll_range ds (n - 1) h.2 z e
    · rcases e with e | e
      · omega
      · cases e
  | .list _, _, h, _, _ => by simp [isT] at h
  | .dict _, _, h, _, _ => by simp [isT] at h
theorem celAll_range : ∀ (l : List PyData) (n : Nat), isTAll l n = true → ∀ z ∈ celAll l, 0 ≤ z ∧ z < 64
  | [], _, _, z, hz => by simp [celAll] at hz
  | d :: r, n, h, z, hz => by
    simp only [isTAll, Bool.and_eq_true] at h
    simp only [celAll, List.mem_append] at hz
    rcases hz with e | e
    · exact cel_range d n h.1 z e
    · exact celAll_range r n h.2 z e
end
theorem cel_ne {d : PyData} {n : Nat} (h : isT d n = true) : cel d ≠ [] := by
  cases d with
  | none => simp [cel]
  | bool b => simp [cel]
  | int i => simp [cel]
  | str x =>
    simp only [cel]
    cases e : x.cps.toList with
    | nil => simp [strC]
    | cons c r =>
      intro z
      have := congrArg List.length z
      rw [show strC (c :: r) = strR (c :: r) from rfl, strR_length] at this
      simp at this
  | tuple ds => simp [cel]
  | list ds => simp [isT] at h
  | dict ds => simp [isT] at h
theorem log2_15 {i : Int} (h0 : 0 ≤ i) (h : i < 32768) : i.natAbs.log2 ≤ 14 := by
  by_cases z : i.natAbs = 0
  · rw [z]; decide
  · have := (Nat.log2_lt z (k := 15)).mpr (by omega)
    omega
mutual
theorem weight_nd : ∀ (d : PyData) (n : Nat), isT d n = true → d.weight + 1 ≤ 16 * nd d
  | .none, _, _ => by simp [PyData.weight, nd]
  | .bool _, _, _ => by simp [PyData.weight, nd]
  | .int i, _, h => by
    simp only [isT, Bool.and_eq_true, decide_eq_true_eq] at h
    have := log2_15 h.1 h.2
    simp only [PyData.weight, nd]
    split <;> omega
  | .str x, _, h => by
    simp only [isT, Bool.and_eq_true, decide_eq_true_eq] at h
    have e : x.cps.toList.length = x.cps.size := by simp
    simp only [PyData.weight, nd]
    omega
  | .tuple ds, n, h => by
    simp only [isT, Bool.and_eq_true, decide_eq_true_eq] at h
    have := weightAll_nd ds (n - 1) h.2
    simp only [PyData.weight, nd]
    omega
  | .list _, _, h => by simp [isT] at h
  | .dict _, _, h => by simp [isT] at h
theorem weightAll_nd : ∀ (l : List PyData) (n : Nat), isTAll l n = true → PyData.weightAll l ≤ 16 * ndAll l
  | [], _, _ => by simp [PyData.weightAll]
  | d :: r, n, h => by
    simp only [isTAll, Bool.and_eq_true] at h
    have h1 := weight_nd d n h.1
    have h2 := weightAll_nd r n h.2
    simp only [PyData.weightAll, ndAll]
    omega
end
mutual
theorem depth_isT : ∀ (d : PyData) (n : Nat), isT d n = true → d.depth ≤ n
  | .none, _, _ => by simp [PyData.depth]
  | .bool _, _, _ => by simp [PyData.depth]
  | .int _, _, _ => by simp [PyData.depth]
  | .str _, _, _ => by simp [PyData.depth]
  | .tuple ds, n, h => by
    simp only [isT, Bool.and_eq_true, decide_eq_true_eq] at h
    have := depthAll_isT ds (n - 1) h.2
    simp only [PyData.depth]
    omega
  | .list _, _, h => by simp [isT] at h
  | .dict _, _, h => by simp [isT] at h
theorem depthAll_isT : ∀ (l : List PyData) (n : Nat), isTAll l n = true → PyData.depthAll l ≤ n
  | [], _, _ => by simp [PyData.depthAll]
  | d :: r, n, h => by
    simp only [isTAll, Bool.and_eq_true] at h
    have h1 := depth_isT d n h.1
    have h2 := depthAll_isT r n h.2
    simp only [PyData.depthAll]
    omega
end
theorem strOk_small {x : Str} (h : ∀ c ∈ x.cps.toList, c ≤ 122) : PyData.strOk x = true := by
  unfold PyData.strOk
  first
    | (simp only [Array.all_eq_true]; intro i hi; have := h x.cps[i] (by simp); simp; omega)
    | (rw [← Array.all_toList]; simp only [List.all_eq_true]; intro c hc; have := h c hc; simp; omega)
mutual
theorem lay_isT : ∀ (d : PyData) (n : Nat), isT d n = true → d.canLay0 = true
  | .none, _, _ => by simp [PyData.canLay0]
  | .bool _, _, _ => by simp [PyData.canLay0]
  | .int _, _, _ => by simp [PyData.canLay0]
  | .str x, _, h => by
    simp only [isT, Bool.and_eq_true, decide_eq_true_eq, List.all_eq_true] at h
    simp only [PyData.canLay0]
    exact strOk_small fun c hc => (h.2 c hc).2
  | .tuple ds, n, h => by
    simp only [isT, Bool.and_eq_true, decide_eq_true_eq] at h
    simp only [PyData.canLay0]
    exact layAll_isT ds (n - 1) h.2
  | .list _, _, h => by simp [isT] at h
  | .dict _, _, h => by simp [isT] at h
theorem layAll_isT : ∀ (l : List PyData) (n : Nat), isTAll l n = true → PyData.canLayAll0 l = true
  | [], _, _ => by simp [PyData.canLayAll0]
  | d :: r, n, h => by
    simp only [isTAll, Bool.and_eq_true] at h
    simp only [PyData.canLayAll0, Bool.and_eq_true]
    exact ⟨lay_isT d n h.1, layAll_isT r n h.2⟩
end
mutual
theorem short_isT : ∀ (d : PyData) (n : Nat), isT d n = true → d.intsShort 13 = true ∧ d.showable = true
  | .none, _, _ => by simp [PyData.intsShort, PyData.showable]
  | .bool _, _, _ => by simp [PyData.intsShort, PyData.showable]
  | .int i, _, h => by
    simp only [isT, Bool.and_eq_true, decide_eq_true_eq] at h
    have h1 : (PyData.shown (.int i)).length ≤ 13 := PyData.shown_int_le (by omega)
    have h2 := log2_15 h.1 h.2
    refine ⟨?_, ?_⟩
    · simp only [PyData.intsShort, decide_eq_true_eq]
      exact h1
    · simp only [PyData.showable, decide_eq_true_eq]
      omega
  | .str x, _, _ => by simp [PyData.intsShort, PyData.showable]
  | .tuple ds, n, h => by
    simp only [isT, Bool.and_eq_true, decide_eq_true_eq] at h
    simp only [PyData.intsShort, PyData.showable]
    exact shortAll_isT ds (n - 1) h.2
  | .list _, _, h => by simp [isT] at h
  | .dict _, _, h => by simp [isT] at h
theorem shortAll_isT : ∀ (l : List PyData) (n : Nat), isTAll l n = true → PyData.intsShortAll 13 l = true ∧ PyData.showableAll l = true
  | [], _, _ => by simp [PyData.intsShortAll, PyData.showableAll]
  | d :: r, n, h => by
    simp only [isTAll, Bool.and_eq_true] at h
    have h1 := short_isT d n h.1
    have h2 := shortAll_isT r n h.2
    simp only [PyData.intsShortAll, PyData.showableAll, Bool.and_eq_true]
    exact ⟨⟨h1.1, h2.1⟩, h1.2, h2.2⟩
end
theorem shown_isT {d : PyData} {n : Nat} (h : isT d n = true) (hn : nd d ≤ 60000) : d.shown.length ≤ sizeLine := by
  have h1 := weight_nd d n h
  refine PyData.shown_fits (B := 13) (by decide) (by decide) (PyData.leavesShort_of_canLay0 13 d (lay_isT d n h) (short_isT d n h).1) ?_
  have e : (2 : Nat) ^ 20 = 1048576 := by decide
  omega
theorem shaped_isT {d : PyData} {n : Nat} (h : isT d n = true) (hn : n ≤ 64) : SeqAt.shaped d = true := by
  have h1 := depth_isT d n h
  unfold SeqAt.shaped
  rw [lay_isT d n h, Bool.true_and, decide_eq_true_eq]
  omega
end K17

set_option Elab.async false
set_option linter.all false
set_option maxRecDepth 100000
set_option maxHeartbeats 4000000
namespace K17
open PySem PySem.Spec PyProof.Rows L2
abbrev law17 : PySem.W.OpenLaw := PySem.Challenge.rw_onebase_k17_whole_trees_there_and_back
abbrev prog17 : Program := PySem.Challenge.pw_onebase_k17_whole_trees_there_and_back
def st (i : Nat) : Stmt := prog17.main.body.getD i (.Pass ⟨0, 0, 0, 0⟩)
/-- the defs of the text, by their places -/
def mkD (x : Str) (s : Stmt) : He.DefD := ⟨(x, none), x, x, defArgs s, defBody s, defScope s, [], []⟩
def mkM (c m q : Str) (s : Stmt) : He.DefD := ⟨(c, some m), m, q, defArgs s, defBody s, defScope s, [], []⟩
def dNumber := mkD "is_number" (st 7)
def dAre := mkD "are_cells" (st 9)
def dIsTree := mkD "is_tree" (st 16)
def dCellsIn := mkD "cells_in" (st 17)
def dTreeCells := mkD "tree_cells" (st 18)
def dTreeOf := mkD "tree_of" (st 20)
def dInit := mkM "Reading" "__init__" "Reading.__init__" (inClass (st 19) 0)
def dWhole := mkM "Reading" "is_whole" "Reading.is_whole" (inClass (st 19) 1)
def dTakes := mkM "Reading" "takes" "Reading.takes" (inClass (st 19) 2)
def dLetter := mkM "Reading" "takes_letter" "Reading.takes_letter" (inClass (st 19) 3)
def dDigit := mkM "Reading" "takes_digit" "Reading.takes_digit" (inClass (st 19) 4)
def dFile := mkM "BadFile" "__init__" "BadFile.__init__" (inClass (st 3) 0)
def dBegun := mkD "_law_begun" (st 22)
def dMixed := mkD "_law_mixed" (st 23)
def dTake := mkD "_law_take" (st 24)
def dPick := mkD "_law_pick" (st 25)
def dCaught := mkD "_law_caught" (st 26)
def dLNumber := mkD "_law_is_number" (st 27)
def dStrange := mkD "_law_strange" (st 28)
def dChanged := mkD "_law_changed" (st 29)
def dLCells := mkD "_law_tree_cells" (st 30)
def dLIsTree := mkD "_law_is_tree" (st 31)
def dLeaf := mkD "_law_leaf" (st 32)
def dLTree := mkD "_law_tree" (st 33)
def dLaw := mkD "law" (st 34)

/-! ### a def that may be called by its name -/
structure Cal (P : Program) (w : World) (K : PySem.W.Frag) (mg : Str → Option Value) (base : Heap) (CX : CXT) (k : Nat) (x : Str) (sp : Sp) : Prop where
  ex : ∃ (f : Addr) (fd : FuncData) (ps : List Str), FnOk P w K mg base CX k f fd ps sp ∧ mg x = some (.ref f) ∧ PySem.W.keepIn K (.ref f) = true ∧ Binds K fd ps []
theorem Cal.mono {P : Program} {w : World} {K : PySem.W.Frag} {mg : Str → Option Value} {base : Heap} {CX : CXT} {j k : Nat} {x : Str} {sp : Sp} (c : Cal P w K mg base CX j x sp) (h : j ≤ k) : Cal P w K mg base CX k x sp := by
  obtain ⟨f, fd, ps, F, r⟩ := c.ex
  exact ⟨f, fd, ps, F.mono h, r⟩
/-- a def of the text as it stands behind the top -/
structure Dn (K : PySem.W.Frag) (mg : Str → Option Value) (d : He.DefD) : Prop where
  fn : ∃ fd, FunD K d.name d.qual d.params d.body d.scope [] [] (He.fAd K d.at_) fd
  gl : mg d.name = some (.ref (He.fAd K d.at_))
theorem cal_of {P : Program} {w : World} {K : PySem.W.Frag} {mg : Str → Option Value} {base : Heap} {CX : CXT} {k : Nat} {d : He.DefD} {fd : FuncData} {ps : List Str} {sp : Sp} (F : FunD K d.name d.qual d.params d.body d.scope [] [] (He.fAd K d.at_) fd) (g : mg d.name = some (.ref (He.fAd K d.at_)))
    (b : Binds K fd ps []) (ok : FnOk P w K mg base CX k (He.fAd K d.at_) fd ps sp) : Cal P w K mg base CX k d.name sp := ⟨_, fd, ps, ok, g, F.kp, b⟩
section
variable {X : Cx} {CX : CXT} {k j : Nat} {x : Str} {sp : Sp} {p pos : Pos} {e : Expr} {es : List Expr} {t : TA} {E : XK}
/-- x(e, ..) -/
theorem pe_cal (c : Cal X.prog X.w X.K X.mg X.base CX k x sp) (hr : Room j X.A) (hk : k ≤ j) (hx : Passes CX X E) (ha : PA X (e :: es) t) (hg : Gl X x := by rfl)
    (hdb : (x == ("__debug__" : Str)) = false := by decide) (he : starEach (e :: es) X.env = (false, eval e X.env) :: starEach es X.env := by rfl) (hpl : (backTo pos (starEach es X.env)).any (·.1) = false := by rfl) :
    PE X (.Call (.Name x p) (e :: es) [] pos) (tCall sp [] E t) := by
  obtain ⟨f, fd, ps, F, hm, kp, b⟩ := c.ex
  exact pe_call F (hr.mono hk) hg hm kp b .nil hx ha hdb he hpl
end
/-- an own error class without an __init__ of its own -/
structure ExT (K : PySem.W.Frag) (mg : Str → Option Value) (x : Str) : Prop where
  ex : PySem.W.excIn K (He.ga K x) He.veBase "ValueError.__new__" = true
  kp : PySem.W.keepIn K (.ref (He.ga K x)) = true
  sb : PySem.W.subIn K (.ref (He.ga K x)) (.type "BaseException") = some true
  ty : PySem.W.typeIn K (.ref (He.ga K x)) = some (.type "type")
  gl : mg x = some (.ref (He.ga K x))
/-! ### what the text's names stand for -/
structure Tx (K : PySem.W.Frag) (mg : Str → Option Value) : Prop where
  isi : mg "isinstance" = none
  int : mg "int" = none
  bool : mg "bool" = none
  tuple : mg "tuple" = none
  list : mg "list" = none
  all : mg "all" = none
  str : mg "str" = none
  len : mg "len" = none
  enum : mg "enumerate" = none
  abs : mg "abs" = none
  range : mg "range" = none
  min : mg "min" = none
  repr : mg "repr" = none
  sup : mg "super" = none
  deep : ∃ t, mg "MOST_DEEP" = some (.int 12 t)
  lets : ∃ t, mg "MOST_LETTERS" = some (.int 8 t)
  digs : ∃ t, mg "MOST_DIGITS" = some (.int 3 t)
  numb : ∃ t, mg "MOST_NUMBER" = some (.int 32767 t)
  bt : ExT K mg "BadTree"
  abc : ∃ t, mg "LETTERS" = some (.str "abcdefghijklmnopqrstuvwxyz" t)
theorem pe_mg {X : Cx} {x : Str} {v : V} {pos : Pos} (h : ∃ u, X.mg x = some u ∧ RelV v u) (hg : Gl X x := by rfl) (hd : (x == ("__debug__" : Str)) = false := by decide) : PE X (.Name x pos) (tC v) := by
  obtain ⟨u, hm, r⟩ := h
  exact pe_glob hg hm r hd
theorem mg_int {mg : Str → Option Value} {x : Str} {i : Int} (h : ∃ t, mg x = some (.int i t)) : ∃ u, mg x = some u ∧ RelV (.int i) u := by
  obtain ⟨t, e⟩ := h
  exact ⟨_, e, t, rfl⟩
theorem mg_str {mg : Str → Option Value} {x z : Str} (h : ∃ t, mg x = some (.str z t)) : ∃ u, mg x = some u ∧ RelV (.str z) u := by
  obtain ⟨t, e⟩ := h
  exact ⟨_, e, t, rfl⟩
/-- a built-in class as a value -/
theorem pe_ty {X : Cx} {n : String} {x : Str} {pos : Pos} (hm : X.mg x = none) (hv : bootBuiltins x = some (.type n)) (hg : Gl X x := by rfl) (hn : x ≠ "__name__" := by decide) (hd : (x == ("__debug__" : Str)) = false := by decide) : PE X (.Name x pos) (tC (.ty n)) :=
  pe_bltn hg hm hv rfl hn hd
end K17

set_option Elab.async false
set_option linter.all false
set_option maxRecDepth 100000
set_option maxHeartbeats 4000000
set_option autoImplicit false
namespace K17
open PySem PySem.Spec PyProof.Rows L2
/-! ### the kinds of data -/
def tyN : PyData → String
  | .none => "NoneType"
  | .bool _ => "bool"
  | .int _ => "int"
  | .str _ => "str"
  | .list _ => "list"
  | .tuple _ => "tuple"
  | .dict _ => "dict"
section
variable {K : PySem.W.Frag} {H H' : Hp} {v : V} {d : PyData}
theorem dp_ty (h : Dp K H v d) : TyX K H v (.type (tyN d)) := by
  cases h with
  | non => exact .base .non
  | bl b => exact .base (.bl b)
  | int i => exact .base (.int i)
  | str x => exact .base (.str x)
  | lst hs _ =>
    rcases hs with (e | ⟨o, e⟩) | ⟨o, its, n, e, c, _⟩
    · exact .base (.lst e)
    · exact .base (.frz e)
    · exact .kList e c
  | tup hs _ =>
    rcases hs with (e | ⟨o, e⟩) | ⟨o, its, n, e, c, _⟩
    · exact .base (.tup e)
    · exact .fTuple e
    · exact .kTuple e c
/-- isinstance's answer, the kind written -/
theorem kt (a b : String) {r : Bool} (h : kitB a b = some r := by decide +kernel) : PySem.W.kitOne K (.type a) (.type b) = some r := kit_ty h
mutual
theorem dp_same (e : Same H H') : ∀ (d : PyData) (v : V), Dp K H v d → Dp K H' v d
  | .none, _, h => by cases h; exact .non
  | .bool _, _, h => by cases h; exact .bl _
  | .int _, _, h => by cases h; exact .int _
  | .str _, _, h => by cases h; exact .str _
  | .list ds, _, h => by
    cases h with
    | lst hs ha => exact .lst (e.seq hs) (dpA_same e ds _ ha)
  | .tuple ds, _, h => by
    cases h with
    | tup hs ha =>
      refine .tup ?_ (dpA_same e ds _ ha)
      rcases hs with (z | ⟨o, z⟩) | z
      · exact .inl (.inl (e _ _ z))
      · exact .inl (.inr ⟨o, e _ _ z⟩)
      · exact .inr z
  | .dict _, _, h => by cases h
theorem dpA_same (e : Same H H') : ∀ (ds : List PyData) (vs : List V), DpAll K H vs ds → DpAll K H' vs ds
  | [], _, h => by cases h; exact .nil
  | d :: ds, _, h => by
    cases h with
    | cons h1 h2 => exact .cons (dp_same e d _ h1) (dpA_same e ds _ h2)
end
end
def isNum (d : PyData) (lo hi : Int) : Bool := match d with
  | .int i => decide (lo ≤ i) && decide (i < hi)
  | _ => false
/-! ### is_number -/
def spNumber (K : PySem.W.Frag) : Sp := fun vs H Q _ => ∃ (v : V) (d : PyData) (lo hi : Int), vs = [v, .int lo, .int hi] ∧ Dp K H v d ∧ Q (.bl (isNum d lo hi)) H
theorem sc_number : FnScope ["thing", "low", "end"] ["thing", "low", "end"] dNumber.scope := ⟨rfl, rfl, rfl, by decide +kernel, rfl, by decide +kernel, by decide +kernel⟩
section
variable {P : Program} {w : World} {K : PySem.W.Frag} {mg : Str → Option Value} {base : Heap}
theorem ok_number (T : Tx K mg) (D : Dn K mg dNumber) : Cal P w K mg base CX0 1 "is_number" (spNumber K) := by
  obtain ⟨fd, F⟩ := D.fn
  refine cal_of F D.gl (F.bindsN (ps := ["thing", "low", "end"]) fun _ _ _ _ _ _ us hl => match us, hl with | [_, _, _], _ => rfl) ?_
  refine F.ok sc_number (fun vs H Q E h => ?_) (fun cdv A outer s H vs Q E hr h => ?_)
  · obtain ⟨v, d, lo, hi, rfl, _⟩ := h
    rfl
  obtain ⟨v, d, lo, hi, rfl, hd, q⟩ := h
  refine ⟨_, PSs.nox (pss_one (ps_ret (pe_and (pe_callB call_isi (by rfl) T.isi boot_isinstance (pa_cons (pv 0) (pa_cons (pe_ty T.int boot_int) pa_nil)))
    (pe_and (pe_not (pe_callB call_isi (by rfl) T.isi boot_isinstance (pa_cons (pv 0) (pa_cons (pe_ty T.bool boot_bool) pa_nil))))
      (pe_one (pe_chain op_le op_lt (pv 1) (pv 0) (pv 2))))))), ?_⟩
  refine ⟨v, rfl, ?_⟩
  cases d with
  | int i =>
    cases hd
    refine ⟨_, _, _, _, true, rfl, .ty _, dp_ty (.int i), kt "int" "int", ?_⟩
    refine ⟨true, rfl, iteT ⟨_, rfl, ?_⟩⟩
    refine ⟨_, _, _, _, false, rfl, .ty _, dp_ty (.int i), kt "int" "bool", ?_⟩
    refine ⟨_, rfl, true, rfl, iteT ?_⟩
    refine ⟨_, rfl, _, rfl, _, _, rfl, rfl, _, rfl, ?_⟩
    by_cases c : lo ≤ i
    · rw [decide_eq_true c]
      refine iteT ⟨_, rfl, _, _, rfl, rfl, ?_⟩
      have e : isNum (.int i) lo hi = decide (i < hi) := by simp [isNum, c]
      rw [e] at q
      exact q
    · rw [decide_eq_false c]
      refine iteF ?_
      have e : isNum (.int i) lo hi = false := by simp [isNum, c]
      rw [e] at q
      exact q
  | bool b =>
    cases hd
    refine ⟨_, _, _, _, true, rfl, .ty _, dp_ty (.bl b), kt "bool" "int", ?_⟩
    refine ⟨true, rfl, iteT ⟨_, rfl, ?_⟩⟩
    (refine ⟨_, _, _, _, true, rfl, .ty _, dp_ty (.bl b), kt "bool" "bool", ?_⟩; exact ⟨_, rfl, false, rfl, iteF q⟩)
  | none =>
    cases hd
    (refine ⟨_, _, _, _, false, rfl, .ty _, dp_ty .non, kt "NoneType" "int", ?_⟩; exact ⟨false, rfl, iteF q⟩)
  | str x =>
    cases hd
    (refine ⟨_, _, _, _, false, rfl, .ty _, dp_ty (.str x), kt "str" "int", ?_⟩; exact ⟨false, rfl, iteF q⟩)
  | list ds => (refine ⟨_, _, _, _, false, rfl, .ty _, dp_ty hd, kt "list" "int", ?_⟩; exact ⟨false, rfl, iteF q⟩)
  | tuple ds => (refine ⟨_, _, _, _, false, rfl, .ty _, dp_ty hd, kt "tuple" "int", ?_⟩; exact ⟨false, rfl, iteF q⟩)
  | dict ds => cases hd
end
end K17

set_option Elab.async false
set_option linter.all false
set_option maxRecDepth 100000
set_option maxHeartbeats 4000000
set_option autoImplicit false
namespace K17
open PySem PySem.Spec PyProof.Rows L2
/-! ### small words -/
theorem fn_absurd {P : Program} {w : World} {K : PySem.W.Frag} {mg : Str → Option Value} {base : Heap} {CX : CXT} {k : Nat} {f : Addr} {fd : FuncData} {ps : List Str} {sp : Sp} (no : ∀ vs H Q E, ¬ sp vs H Q E) : FnOk P w K mg base CX k f fd ps sp :=
  ⟨fun vs H Q E h => absurd h (no vs H Q E), fun A outer s H args us vs Q E _ _ _ _ h => absurd h (no vs H Q E)⟩
theorem same_new {H : Hp} {p : Addr} (hp : H p = none) (o : HO) : Same H (upd H p o) := fun b u h => by rw [upd_ne (ne_of_none h hp)]; exact h
theorem same_upd {H H1 : Hp} {p : Addr} (e : Same H H1) (hp : H p = none) (o : HO) : Same H (upd H1 p o) := fun b u h => by rw [upd_ne (ne_of_none h hp)]; exact e b u h
theorem take_snoc {α : Type} {l : List α} {i : Nat} {y : α} (h : l[i]? = some y) : l.take i ++ [y] = l.take (i + 1) := by
  rw [List.take_add_one, h]
  rfl
/-- a comprehension that fills D with ys, item by item -/
def Fill (H0 : Hp) (D : Addr) (ys : List V) : Nat → Hp → Prop := fun i H => Same H0 H ∧ H D = some (.lst (ys.take i))
theorem Fill.start {H0 : Hp} {D : Addr} {ys : List V} (hD : H0 D = none) : Fill H0 D ys 0 (upd H0 D (.lst [])) := ⟨same_new hD _, by rw [upd_same]; simp⟩
theorem Fill.next {H0 H H' : Hp} {D : Addr} {ys : List V} {i : Nat} {y : V} (hD : H0 D = none) (p : Fill H0 D ys i H) (e : Same H H') (hy : ys[i]? = some y) (hz : ys.length ≤ sizeLine) :
    ∃ acc, H' D = some (.lst acc) ∧ acc.length < sizeLine ∧ Fill H0 D ys (i + 1) (upd H' D (.lst (acc ++ [y]))) := by
  obtain ⟨h1, h2⟩ := p
  refine ⟨_, e _ _ h2, ?_, same_upd (h1.trans e) hD _, ?_⟩
  · have h3 := (List.getElem?_eq_some_iff.mp hy).1
    rw [List.length_take]
    omega
  · rw [upd_same, take_snoc hy]
theorem Fill.whole {H0 H : Hp} {D : Addr} {ys : List V} {n : Nat} (p : Fill H0 D ys n H) (hn : ys.length ≤ n) : H D = some (.lst ys) := by
  rw [p.2, List.take_of_length_le hn]
/-! ### data of bounded size -/
mutual
def gs : PyData → Bool
  | .str x => decide (x.cps.toList.length ≤ 100) && x.cps.toList.all (fun c => decide (c ≤ 122))
  | .list ds => gsAll ds
  | .tuple ds => gsAll ds
  | .none => true
  | .bool _ => true
  | .int _ => true
  | .dict _ => false
def gsAll : List PyData → Bool
  | [] => true
  | d :: r => gs d && gsAll r
end
theorem gs_str {x : Str} (h : gs (.str x) = true) : x.cps.toList.length ≤ 100 ∧ ∀ c ∈ x.cps.toList, c ≤ 122 := by
  simpa only [gs, Bool.and_eq_true, decide_eq_true_eq, List.all_eq_true] using h
mutual
theorem gs_lay : ∀ d : PyData, gs d = true → d.canLay0 = true
  | .none, _ => by simp [PyData.canLay0]
  | .bool _, _ => by simp [PyData.canLay0]
  | .int _, _ => by simp [PyData.canLay0]
  | .str x, h => by
    simp only [PyData.canLay0]
    exact strOk_small (gs_str h).2
  | .tuple ds, h => by
    simp only [PyData.canLay0]
    exact gsAll_lay ds (by simpa only [gs] using h)
  | .list ds, h => by
    simp only [PyData.canLay0]
    exact gsAll_lay ds (by simpa only [gs] using h)
  | .dict _, h => by simp [gs] at h
theorem gsAll_lay : ∀ l : List PyData, gsAll l = true → PyData.canLayAll0 l = true
  | [], _ => by simp [PyData.canLayAll0]
  | d :: r, h => by
    simp only [gsAll, Bool.and_eq_true] at h
    simp only [PyData.canLayAll0, Bool.and_eq_true]
    exact ⟨gs_lay d h.1, gsAll_lay r h.2⟩
end
/-- data as the law makes it -/
structure Gd (d : PyData) : Prop where
  s : gs d = true
  n : nd d ≤ 60000
theorem gsAll_mem : ∀ {l : List PyData}, gsAll l = true → ∀ d ∈ l, gs d = true
  | [], _, d, h => by cases h
  | e :: r, h, d, hd => by
    simp only [gsAll, Bool.and_eq_true] at h
    rcases List.mem_cons.mp hd with z | z
    · rw [z]; exact h.1
    · exact gsAll_mem h.2 d z
theorem ndAll_mem : ∀ {l : List PyData}, ∀ d ∈ l, nd d ≤ ndAll l
  | [], d, h => by cases h
  | e :: r, d, hd => by
    rcases List.mem_cons.mp hd with z | z
    · rw [z]; simp only [ndAll]; omega
    · have := ndAll_mem (l := r) d z
      simp only [ndAll]; omega
theorem ndAll_len : ∀ l : List PyData, l.length ≤ ndAll l
  | [] => by simp
  | d :: r => by have h1 := nd_pos d; have h2 := ndAll_len r; simp only [List.length_cons, ndAll]; omega
theorem Gd.mem {ds : List PyData} (g : Gd (.tuple ds)) : ∀ d ∈ ds, Gd d := fun d hd =>
  ⟨gsAll_mem (by have := g.s; simpa [gs] using this) d hd, by have h1 := ndAll_mem d hd; have h2 := g.n; simp only [nd] at h2; omega⟩
theorem Gd.len {ds : List PyData} (g : Gd (.tuple ds)) : ds.length ≤ 60000 := by
  have h1 := ndAll_len ds
  have h2 := g.n
  simp only [nd] at h2
  omega
theorem line60 {n : Nat} (h : n ≤ 60000) : n ≤ sizeLine := by rw [sizeLine_eq]; omega
theorem dpA_len {K : PySem.W.Frag} {H : Hp} : ∀ {vs : List V} {ds : List PyData}, DpAll K H vs ds → vs.length = ds.length
  | _, _, .nil => rfl
  | _, _, .cons _ h => by simp [dpA_len h]
theorem dpA_get {K : PySem.W.Frag} {H : Hp} : ∀ {vs : List V} {ds : List PyData} {i : Nat} {v : V}, DpAll K H vs ds → vs[i]? = some v → ∃ d, ds[i]? = some d ∧ Dp K H v d
  | _, _, _, _, .nil, e => by simp at e
  | _, _, 0, _, .cons h _, e => by simp at e; subst e; exact ⟨_, rfl, h⟩
  | _, _, i + 1, _, .cons _ h, e => by
    obtain ⟨d, h1, h2⟩ := dpA_get (i := i) h (by simpa using e)
    exact ⟨d, by simpa using h1, h2⟩
/-! ### the letters -/
abbrev ABC : Str := "abcdefghijklmnopqrstuvwxyz"
theorem abc_list : ABC.cps.toList = List.range' 97 26 := by decide +kernel
theorem abc_mem (c : Nat) : decide (c ∈ ABC.cps.toList) = (decide (97 ≤ c) && decide (c ≤ 122)) := by
  rw [abc_list, Bool.eq_iff_iff]
  simp only [List.mem_range'_1, decide_eq_true_eq, Bool.and_eq_true]
  omega
/-! ### is_tree -/
def spIsTree (K : PySem.W.Frag) (n : Nat) : Sp := fun vs H Q _ => ∃ (v : V) (d : PyData) (m : Nat), vs = [v, .int m] ∧ m + 1 = n ∧ Dp K H v d ∧ Gd d ∧ ∀ H', Same H H' → Q (.bl (isT d m)) H'
abbrev nIsTree : List Str := ["thing", "deep", "part", "letter"]
theorem sc_isTree : FnScope nIsTree ["thing", "deep"] dIsTree.scope := ⟨rfl, rfl, rfl, by decide +kernel, rfl, by decide +kernel, by decide +kernel⟩
theorem all_map_id {α : Type} (l : List α) (f : α → Bool) : (l.map f).all id = l.all f := by
  rw [List.all_map]
  rfl
theorem isTAll_all : ∀ (l : List PyData) (n : Nat), isTAll l n = l.all fun d => isT d n
  | [], _ => rfl
  | d :: r, n => by simp only [isTAll, isTAll_all r n, List.all_cons]
section
variable {P : Program} {w : World} {K : PySem.W.Frag} {mg : Str → Option Value} {base : Heap}
theorem ok_isTree (T : Tx K mg) (D : Dn K mg dIsTree) (cN : Cal P w K mg base CX0 1 "is_number" (spNumber K)) : ∀ n : Nat, Cal P w K mg base CX0 (n + 1) "is_tree" (spIsTree K n)
  | 0 => by
    obtain ⟨fd, F⟩ := D.fn
    exact cal_of F D.gl (F.bindsN (ps := ["thing", "deep"]) fun _ _ _ _ _ _ us hl => match us, hl with | [_, _], _ => rfl) (fn_absurd fun vs H Q E h => by obtain ⟨_, _, m, _, z, _⟩ := h; omega)
  | n + 1 => by
    have ih := ok_isTree T D cN n
    obtain ⟨fd, F⟩ := D.fn
    refine cal_of F D.gl (F.bindsN (ps := ["thing", "deep"]) fun _ _ _ _ _ _ us hl => match us, hl with | [_, _], _ => rfl) ?_
    refine F.ok sc_isTree (fun vs H Q E h => ?_) (fun cdv A outer s H vs Q E hr h => ?_)
    · obtain ⟨v, d, m, rfl, _⟩ := h
      rfl
    obtain ⟨v, d, m, rfl, hm, hd, hg, q⟩ := h
    refine ⟨_, PSs.nox (pss_cons (ps_if (PW.pt (pw_or (pt_cmp (pc_isN (pv 0))) (pw_or1 (pt_val (pe_callB call_isi (by rfl) T.isi boot_isinstance (pa_cons (pv 0) (pa_cons (pe_ty T.bool boot_bool) pa_nil))))))) (pss_one (ps_ret pe_bl)) pss_nil)
      (pss_cons (ps_if (pt_val (pe_callB call_isi (by rfl) T.isi boot_isinstance (pa_cons (pv 0) (pa_cons (pe_ty T.tuple boot_tuple) pa_nil)))) (pss_one (ps_ret (pe_and (pe_cmpR op_gt (pv 1) pe_int (nomark _)) (pe_one
          (pe_callB (cr_all rfl) (by rfl) T.all boot_all (pa_cons (pe_lc (own := [("part", 2)]) (g := gName 2) (tt := tYes) rfl sc_isTree.nd (pi_tup (pv 0)) (blkOk_by (N := nIsTree) (sc := dIsTree.scope) (own := [("part", 2)]) (by decide +kernel)) (fun _ _ _ _ _ => pg_name (i := 2) sc_isTree.nd rfl (Or.inl rfl)) (fun _ _ _ _ _ => pts_nil)
            (fun _ _ _ _ _ => pe_cal ih hr (Nat.le_refl _) pass0 (pa_cons (pv 2) (pa_cons (pe_op op_sub (pv 1) pe_int) pa_nil)))) pa_nil)))))) pss_nil)
      (pss_cons (ps_if (pt_val (pe_callB call_isi (by rfl) T.isi boot_isinstance (pa_cons (pv 0) (pa_cons (pe_ty T.str boot_str) pa_nil)))) (pss_one (ps_ret (pe_and (pe_cmpR op_le (pe_callB call_len_str (by rfl) T.len PySem.boot_len (pa_cons (pv 0) pa_nil)) (pe_mg (mg_int T.lets)) (nomark _)) (pe_one
          (pe_callB (cr_all rfl) (by rfl) T.all boot_all (pa_cons (pe_lc (own := [("letter", 3)]) (g := gName 3) (tt := tYes) rfl sc_isTree.nd (pi_str (pv 0)) (blkOk_by (N := nIsTree) (sc := dIsTree.scope) (own := [("letter", 3)]) (by decide +kernel)) (fun _ _ _ _ _ => pg_name (i := 3) sc_isTree.nd rfl (Or.inl rfl)) (fun _ _ _ _ _ => pts_nil)
            (fun _ _ _ _ _ => pe_cmpR op_in_sign (pv 3) (pe_mg (mg_str T.abc)) (by rfl))) pa_nil)))))) pss_nil)
      (pss_one (ps_ret (pe_cal cN hr (by omega) pass0 (pa_cons (pv 0) (pa_cons pe_int (pa_cons (pe_op op_add (pe_mg (mg_int T.numb)) pe_int) pa_nil))))))))), ?_⟩
    have e1 : m = n := by omega
    subst e1
    refine ⟨v, rfl, _, rfl, ?_⟩
    cases d with
    | none =>
      cases hd
      exact iteT (q H (Same.refl H))
    | bool b =>
      cases hd
      refine iteF ⟨_, rfl, ?_⟩
      refine ⟨_, _, _, _, true, rfl, .ty _, dp_ty (.bl b), kt "bool" "bool", ?_⟩
      exact ⟨true, rfl, iteT (q H (Same.refl H))⟩
    | int i =>
      cases hd
      refine iteF ⟨_, rfl, ?_⟩
      refine ⟨_, _, _, _, false, rfl, .ty _, dp_ty (.int i), kt "int" "bool", ?_⟩
      refine ⟨false, rfl, iteF ⟨_, rfl, ?_⟩⟩
      refine ⟨_, _, _, _, false, rfl, .ty _, dp_ty (.int i), kt "int" "tuple", ?_⟩
      refine ⟨false, rfl, iteF ⟨_, rfl, ?_⟩⟩
      refine ⟨_, _, _, _, false, rfl, .ty _, dp_ty (.int i), kt "int" "str", ?_⟩
      refine ⟨false, rfl, iteF ⟨_, rfl, ?_⟩⟩
      exact ⟨_, _, rfl, rfl, _, .int i, _, _, rfl, .int i, q H (Same.refl H)⟩
    | str x =>
      cases hd
      have hl : x.cps.toList.length ≤ 100 := (gs_str hg.s).1
      have hx : x.length = x.cps.toList.length := by simp [Str.length]
      refine iteF ⟨_, rfl, ?_⟩
      refine ⟨_, _, _, _, false, rfl, .ty _, dp_ty (.str x), kt "str" "bool", ?_⟩
      refine ⟨false, rfl, iteF ⟨_, rfl, ?_⟩⟩
      refine ⟨_, _, _, _, false, rfl, .ty _, dp_ty (.str x), kt "str" "tuple", ?_⟩
      refine ⟨false, rfl, iteF ⟨_, rfl, ?_⟩⟩
      refine ⟨_, _, _, _, true, rfl, .ty _, dp_ty (.str x), kt "str" "str", ?_⟩
      refine ⟨true, rfl, iteT ⟨_, rfl, ?_⟩⟩
      refine ⟨x, rfl, line60 (by omega), ?_⟩
      refine ⟨_, _, rfl, rfl, _, rfl, ?_⟩
      by_cases c : ((x.length : Nat) : Int) ≤ 8
      · rw [decide_eq_true c]
        refine iteT ⟨_, rfl, x, rfl, fun D hD => ?_⟩
        refine lc_it walk_str (Fill H D (x.cps.toList.map fun c => V.bl (decide (c ∈ ABC.cps.toList)))) (Fill.start hD) (fun _ _ _ _ => True.intro) (fun i y H1 H2 hi p hy => ?_) fun H1 p => ?_
        · obtain ⟨rfl, c0, hc0, rfl⟩ := hy
          refine ⟨rfl, _, rfl, c0, ABC, rfl, rfl, ?_⟩
          refine p.next hD (Same.refl _) ?_ (by rw [List.length_map]; exact line60 (by omega))
          rw [List.getElem?_map, Array.getElem?_toList, hc0]
          rfl
        · have hw := p.whole (by simp)
          refine ⟨D, x.cps.toList.map fun c => decide (c ∈ ABC.cps.toList), rfl, SqL.of (by rw [hw, List.map_map]; rfl), ?_⟩
          have e : isT (.str x) m = (x.cps.toList.map fun c => decide (c ∈ ABC.cps.toList)).all id := by
            rw [all_map_id]
            simp only [isT, abc_mem]
            have : decide (x.cps.toList.length ≤ 8) = true := decide_eq_true (by omega)
            rw [this, Bool.true_and]
          have q2 := q H1 p.1
          rw [e] at q2
          exact q2
      · rw [decide_eq_false c]
        have e : isT (.str x) m = false := by
          simp only [isT]
          have : decide (x.cps.toList.length ≤ 8) = false := decide_eq_false (by omega)
          rw [this, Bool.false_and]
        have q2 := q H (Same.refl H)
        rw [e] at q2
        exact iteF q2
    | list ds =>
      obtain ⟨a, rfl⟩ : ∃ a, v = .ref a := by cases hd; exact ⟨_, rfl⟩
      refine iteF ⟨_, rfl, ?_⟩
      refine ⟨_, _, _, _, false, rfl, .ty _, dp_ty hd, kt "list" "bool", ?_⟩
      refine ⟨false, rfl, iteF ⟨_, rfl, ?_⟩⟩
      refine ⟨_, _, _, _, false, rfl, .ty _, dp_ty hd, kt "list" "tuple", ?_⟩
      refine ⟨false, rfl, iteF ⟨_, rfl, ?_⟩⟩
      refine ⟨_, _, _, _, false, rfl, .ty _, dp_ty hd, kt "list" "str", ?_⟩
      refine ⟨false, rfl, iteF ⟨_, rfl, ?_⟩⟩
      exact ⟨_, _, rfl, rfl, _, .list ds, _, _, rfl, hd, q H (Same.refl H)⟩
    | tuple ds =>
      obtain ⟨a, rfl⟩ : ∃ a, v = .ref a := by cases hd; exact ⟨_, rfl⟩
      refine iteF ⟨_, rfl, ?_⟩
      refine ⟨_, _, _, _, false, rfl, .ty _, dp_ty hd, kt "tuple" "bool", ?_⟩
      refine ⟨false, rfl, iteF ⟨_, rfl, ?_⟩⟩
      refine ⟨_, _, _, _, true, rfl, .ty _, dp_ty hd, kt "tuple" "tuple", ?_⟩
      refine ⟨true, rfl, iteT ⟨_, rfl, ?_⟩⟩
      refine ⟨_, _, rfl, rfl, _, rfl, ?_⟩
      cases hd with
      | @tup _ xs _ hs ha =>
      have hlen := dpA_len ha
      have hl60 := hg.len
      by_cases c : (0 : Int) < m
      · rw [decide_eq_true c]
        refine iteT ⟨_, rfl, a, rfl, ⟨_, hs⟩, fun D hD => ?_⟩
        refine lc_tup (K := K) (a := a) (xs := xs) (Fill H D (ds.map fun d => V.bl (isT d (m - 1)))) (Fill.start hD) (fun i H1 _ p => ?_) (fun i y H1 hy p => ?_) fun H1 p => ?_
        · rcases hs with (z | ⟨o, z⟩) | z
          · exact .inl (.inl (p.1 _ _ z))
          · exact .inl (.inr ⟨o, p.1 _ _ z⟩)
          · exact .inr z
        · obtain ⟨d, hdi, hdd⟩ := dpA_get ha hy
          refine ⟨rfl, _, rfl, _, rfl, _, _, rfl, rfl, ?_⟩
          refine ⟨y, d, m - 1, by show [y, V.int ((m : Int) - 1)] = _; rw [show ((m : Int) - 1) = ((m - 1 : Nat) : Int) by omega], by omega, dp_same p.1 _ _ hdd, hg.mem d (List.mem_of_getElem? hdi), fun H2 e2 => ?_⟩
          exact p.next hD e2 (by rw [List.getElem?_map, hdi]; rfl) (by rw [List.length_map]; exact line60 hl60)
        · have hw := p.whole (by simp [hlen])
          refine ⟨D, ds.map fun d => isT d (m - 1), rfl, SqL.of (by rw [hw, List.map_map]; rfl), ?_⟩
          have e : isT (.tuple ds) m = (ds.map fun d => isT d (m - 1)).all id := by
            rw [all_map_id]
            simp only [isT, isTAll_all]
            have : decide (0 < m) = true := decide_eq_true (by omega)
            rw [this, Bool.true_and]
          have q2 := q H1 p.1
          rw [e] at q2
          exact q2
      · rw [decide_eq_false c]
        have e : isT (.tuple ds) m = false := by
          simp only [isT]
          have : decide (0 < m) = false := decide_eq_false (by omega)
          rw [this, Bool.false_and]
        have q2 := q H (Same.refl H)
        rw [e] at q2
        exact iteF q2
    | dict ds => cases hd
end
end K17

set_option Elab.async false
set_option linter.all false
set_option maxRecDepth 100000
set_option maxHeartbeats 4000000
set_option autoImplicit false
namespace K17
open PySem PySem.Spec PyProof.Rows L2
/-! ### plain words on cells -/
def ivs (l : List Int) : List V := l.map V.int
theorem ivs_app (a b : List Int) : ivs (a ++ b) = ivs a ++ ivs b := List.map_append
theorem ivs_len (a : List Int) : (ivs a).length = a.length := List.length_map _
theorem celAll_take {ds : List PyData} {i : Nat} {d : PyData} (h : ds[i]? = some d) : celAll (ds.take (i + 1)) = celAll (ds.take i) ++ cel d := by
  rw [celAll_flat, celAll_flat, ← take_snoc h, List.map_append, List.flatten_append]
  simp
theorem flat_len_le : ∀ (l : List (List Int)) (i : Nat), ((l.take i).flatten).length ≤ l.flatten.length
  | [], i => by simp
  | a :: r, 0 => by simp
  | a :: r, i + 1 => by
    have := flat_len_le r i
    simp only [List.take_succ_cons, List.flatten_cons, List.length_append]
    omega
theorem celAll_take_len (ds : List PyData) (i : Nat) : (celAll (ds.take i)).length ≤ (celAll ds).length := by
  rw [celAll_flat, celAll_flat, List.map_take]
  exact flat_len_le _ i
theorem strR_snoc : ∀ (l : List Nat) (c : Nat), strR (l ++ [c]) = (l.map fun c : Nat => (c : Int) - 96) ++ [(c : Int) - 64]
  | [], c => rfl
  | [a], c => rfl
  | a :: b :: r, c => by
    have ih := strR_snoc (b :: r) c
    simp only [List.cons_append, strR, List.map_cons] at ih ⊢
    rw [ih]
theorem cutV_but (xs : List V) (v : V) : cutV (xs ++ [v]) none (some (-1)) = xs := by
  unfold cutV
  have e : HT.sIx (xs ++ [v]).length (xs ++ [v]).length (some (-1)) = xs.length := by
    have := HT.clip_eq (-1) (xs ++ [v]).length (xs ++ [v]).length
    rw [if_pos (by decide)] at this
    simp only [List.length_append, List.length_cons, List.length_nil] at this ⊢
    omega
  rw [e]
  show ((xs ++ [v]).drop 0).take (xs.length - 0) = xs
  simp
theorem set_get {σ : L2.St} {i : Nat} {x y : Option V} (h : σ[i]? = some y) : (σ.set i x)[i]? = some x := List.getElem?_set_self (List.getElem?_eq_some_iff.mp h).1
theorem set_other {σ : L2.St} {i j : Nat} {x : Option V} (h : i ≠ j) : (σ.set i x)[j]? = σ[j]? := List.getElem?_set_ne h
theorem one_line : (1 : Nat) ≤ sizeLine := by rw [sizeLine_eq]; decide
/-- what stands above the digits that the loop has yet to write -/
def hiC (t : Int) : List Int := if t < 32 then [] else if t < 1024 then [t / 32 + 32] else [t / 1024 + 32, t / 32 % 32 + 32]
theorem numC_hi (n : Int) (h0 : 0 ≤ n) : numC n = hiC n ++ [n % 32] := by
  unfold numC hiC
  by_cases c1 : n < 32
  · have : n % 32 = n := by omega
    simp [if_pos c1, this]
  · by_cases c2 : n < 1024
    · simp [if_neg c1, if_pos c2]
    · simp [if_neg c1, if_neg c2]
theorem hiC_step (t : Int) (h0 : 32 ≤ t) (h1 : t < 32768) : hiC t = hiC (t / 32) ++ [t / 32 % 32 + 32] := by
  unfold hiC
  rw [if_neg (show ¬ t < 32 by omega)]
  by_cases c2 : t < 1024
  · have : t / 32 % 32 = t / 32 := by omega
    rw [if_pos c2, if_pos (show t / 32 < 32 by omega), this]
    rfl
  · have e : t / 32 / 32 = t / 1024 := by omega
    rw [if_neg c2, if_neg (show ¬ t / 32 < 32 by omega), if_pos (show t / 32 < 1024 by omega), e]
    rfl
theorem hiC_done (t : Int) (h : t < 32) : hiC t = [] := by
  unfold hiC
  rw [if_pos h]
theorem idx_abc (c : Nat) (h1 : 97 ≤ c) (h2 : c ≤ 122) : Txt.index0 ABC ⟨#[c]⟩ = some (c - 97) := by
  have key : ∀ k : _root_.Fin 26, Txt.index0 ABC ⟨#[97 + k.val]⟩ = some k.val := by decide +kernel
  have := key ⟨c - 97, by omega⟩
  have e : 97 + (c - 97) = c := by omega
  simpa [e] using this
/-! ### cells_in -/
def spCells (K : PySem.W.Frag) (n : Nat) : Sp := fun vs H Q _ => ∃ (v : V) (d : PyData) (m : Nat), vs = [v] ∧ m + 1 = n ∧ Dp K H v d ∧ isT d m = true ∧ nd d ≤ 60000 ∧ ∀ p H', Same H H' → H p = none → H' p = some (.lst (ivs (cel d))) → Q (.ref p) H'
abbrev nCells : List Str := ["tree", "part", "cell", "letter", "letters", "digits"]
theorem sc_cells : FnScope nCells ["tree"] dCellsIn.scope := ⟨rfl, rfl, rfl, by decide +kernel, rfl, by decide +kernel, by decide +kernel⟩
theorem sq_same {K : PySem.W.Frag} {H H' : Hp} {a : Addr} {xs : List V} (e : Same H H') (hs : SqT K H a xs) : SqT K H' a xs := by
  rcases hs with (z | ⟨o, z⟩) | z
  · exact .inl (.inl (e _ _ z))
  · exact .inl (.inr ⟨o, e _ _ z⟩)
  · exact .inr z
theorem isT_mem {ds : List PyData} {m : Nat} (h : isT (.tuple ds) m = true) : 0 < m ∧ ∀ d ∈ ds, isT d (m - 1) = true := by
  simp only [isT, Bool.and_eq_true, decide_eq_true_eq] at h
  exact ⟨h.1, isTAll_iff.mp h.2⟩
section
variable {P : Program} {w : World} {K : PySem.W.Frag} {mg : Str → Option Value} {base : Heap}
theorem ok_cells (T : Tx K mg) (D : Dn K mg dCellsIn) : ∀ n : Nat, Cal P w K mg base CX0 n "cells_in" (spCells K n)
  | 0 => by
    obtain ⟨fd, F⟩ := D.fn
    exact cal_of F D.gl (F.bindsN (ps := ["tree"]) fun _ _ _ _ _ _ us hl => match us, hl with | [_], _ => rfl) (fn_absurd fun vs H Q E h => by obtain ⟨_, _, m, _, z, _⟩ := h; omega)
  | n + 1 => by
    have ih := ok_cells T D n
    obtain ⟨fd, F⟩ := D.fn
    refine cal_of F D.gl (F.bindsN (ps := ["tree"]) fun _ _ _ _ _ _ us hl => match us, hl with | [_], _ => rfl) ?_
    refine F.ok sc_cells (fun vs H Q E h => ?_) (fun cdv A outer s H vs Q E hr h => ?_)
    · obtain ⟨v, d, m, rfl, _⟩ := h
      rfl
    obtain ⟨v, d, m, rfl, hm, hd, ht, hn, q⟩ := h
    have nd' := sc_cells.nd
    refine ⟨_, PSs.nox (pss_cons (ps_if (pt_cmp (pc_isN (pv 0))) (pss_one (ps_ret (pe_lst (pa_cons pe_int pa_nil)))) pss_nil)
      (pss_cons (ps_if (pt_val (pe_callB call_isi (by rfl) T.isi boot_isinstance (pa_cons (pv 0) (pa_cons (pe_ty T.bool boot_bool) pa_nil)))) (pss_one (ps_ret (pe_lst (pa_cons (pe_ifExp (pt_truth (pv 0) (by intro _; rfl)) pe_int pe_int) pa_nil)))) pss_nil)
      (pss_cons (ps_if (pt_val (pe_callB call_isi (by rfl) T.isi boot_isinstance (pa_cons (pv 0) (pa_cons (pe_ty T.tuple boot_tuple) pa_nil)))) (pss_one (ps_ret (pe_op op_cat (pe_op op_cat (pe_lst (pa_cons pe_int pa_nil))
          (pe_lc2 (own := [("part", 1), ("cell", 2)]) (vs1 := [2]) (wi1 := iList K (tCall (spCells K n) [] E0 (tCons (tVar 1) tNil))) (te := tVar 2) (g := gName 1) (g1 := gName 2) (tt := tYes) (tt1 := tYes) rfl nd' (pi_tup (pv 0)) (blkOk_by (N := nCells) (sc := dCellsIn.scope) (own := [("part", 1), ("cell", 2)]) (by decide +kernel)) (by decide)
            (fun _ _ _ _ _ => pg_name (i := 1) nd' rfl (Or.inl rfl)) (fun _ _ _ _ _ => pts_nil) (fun _ _ _ _ _ => pi_list (pe_cal ih hr (Nat.le_refl _) pass0 (pa_cons (pv 1) pa_nil)))
            (fun _ _ _ _ _ => pg_name (i := 2) nd' rfl (Or.inl rfl)) (fun _ _ _ _ _ => pts_nil) (fun _ _ _ _ _ => pv 2))) (pe_lst (pa_cons pe_int pa_nil))))) pss_nil)
      (pss_cons (ps_if (pt_cmpR op_eq (pv 0) pe_str (nomark _)) (pss_one (ps_ret (pe_lst (pa_cons pe_int pa_nil)))) pss_nil)
      (pss_cons (ps_if (pt_val (pe_callB call_isi (by rfl) T.isi boot_isinstance (pa_cons (pv 0) (pa_cons (pe_ty T.str boot_str) pa_nil))))
        (pss_cons (ps_setLc (i := 4) (own := [("letter", 3)]) (te := tOp (rI0 fun i j => .int (i + j)) (tBMS K "str" (rIndexX fun _ _ _ _ => False) (tC (.str ABC)) (tCons (tVar 3) tNil)) (tC (.int 1))) (g := gName 3) (tt := tYes) rfl nd' rfl rfl (sw_true rfl rfl rfl (by decide +kernel)) (pi_str (pv 0)) (blkOk_by (N := nCells) (sc := dCellsIn.scope) (own := [("letter", 3)]) (by decide +kernel))
            (fun _ _ _ _ _ => pg_name (i := 3) nd' rfl (Or.inl rfl)) (fun _ _ _ _ _ => pts_nil)
            (fun _ _ _ _ _ => pe_op op_add (pe_bmS PySem.F.plainAttrs_str PySem.F.slot_str_index PySem.F.type_str_index (mt_indexX rfl L2.takes0) (pe_mg (mg_str T.abc)) (pa_cons (pv 3) pa_nil)) pe_int))
        (pss_one (ps_ret (pe_op op_cat (pe_slice sl_list (pv 4) po_none (po_some (pe_un un_neg pe_int))) (pe_lst (pa_cons (pe_op op_add (pe_ix ix_list (pv 4) (pe_un un_neg pe_int) (fun _ _ => rfl)) pe_int) pa_nil)))))) pss_nil)
      (pss_cons (ps_set (i := 5) nd' rfl (.inl rfl) (pe_lst (pa_cons (pe_op op_mod (pv 0) pe_int) pa_nil)))
      (pss_cons (ps_while PassesOwn.never (pt_cmpR op_ge (pv 0) pe_int (nomark _)) (pss_cons (ps_set (i := 0) nd' rfl (.inl rfl) (pe_op op_fdiv (pv 0) pe_int))
          (pss_one (ps_set (i := 5) nd' rfl (.inl rfl) (pe_op op_cat (pe_lst (pa_cons (pe_op op_add (pe_op op_mod (pv 0) pe_int) pe_int) pa_nil)) (pv 5))))))
      (pss_one (ps_ret (pe_op op_cat (pe_lst (pa_cons pe_int pa_nil)) (pv 5)))))))))))
      , ?_⟩
    have e1 : m = n := by omega
    subst e1
    refine ⟨v, rfl, _, rfl, ?_⟩
    cases d with
    | none =>
      cases hd
      exact iteT ⟨by show 1 ≤ sizeLine; decide, fun p hp => q p _ (same_new hp _) hp (by rw [upd_same]; rfl)⟩
    | bool b =>
      cases hd
      refine iteF ⟨_, rfl, ?_⟩
      refine ⟨_, _, _, _, true, rfl, .ty _, dp_ty (.bl b), kt "bool" "bool", ?_⟩
      refine ⟨true, rfl, iteT ⟨_, rfl, b, rfl, ?_⟩⟩
      cases b
      · exact iteF ⟨by show 1 ≤ sizeLine; decide, fun p hp => q p _ (same_new hp _) hp (by rw [upd_same]; rfl)⟩
      · exact iteT ⟨by show 1 ≤ sizeLine; decide, fun p hp => q p _ (same_new hp _) hp (by rw [upd_same]; rfl)⟩
    | int i =>
      cases hd
      simp only [isT, Bool.and_eq_true, decide_eq_true_eq] at ht
      refine iteF ⟨_, rfl, ?_⟩
      refine ⟨_, _, _, _, false, rfl, .ty _, dp_ty (.int i), kt "int" "bool", ?_⟩
      refine ⟨false, rfl, iteF ⟨_, rfl, ?_⟩⟩
      refine ⟨_, _, _, _, false, rfl, .ty _, dp_ty (.int i), kt "int" "tuple", ?_⟩
      refine ⟨false, rfl, iteF ⟨_, rfl, rfl, false, rfl, iteF ⟨_, rfl, ?_⟩⟩⟩
      refine ⟨_, _, _, _, false, rfl, .ty _, dp_ty (.int i), kt "int" "str", ?_⟩
      refine ⟨false, rfl, iteF ⟨_, rfl, _, _, rfl, rfl, (by show (0 : Int) < 32; decide), one_line, fun p hp => ?_⟩⟩
      have l3 := numC_len i
      refine ⟨fun k σ H' => ∃ (t : Int) (L : List Int) (p : Addr), k = t.toNat ∧ 0 ≤ t ∧ t < 32768 ∧ σ[0]? = some (some (.int t)) ∧ σ[5]? = some (some (.ref p)) ∧ Same H H' ∧ H' p = some (.lst (ivs L)) ∧ numC i = hiC t ++ L,
        ⟨_, i, [i % 32], p, rfl, ht.1, ht.2, rfl, rfl, same_new hp _, by rw [upd_same]; rfl, numC_hi i ht.1⟩, ?_⟩
      rintro k σ H1 ⟨t, L, p1, rfl, t0, t1, s0, s5, e, hL, hc⟩
      have lL : L.length ≤ 3 := by have := congrArg List.length hc; rw [List.length_append] at this; omega
      refine ⟨_, s0, _, _, rfl, rfl, _, rfl, ?_⟩
      by_cases c : (32 : Int) ≤ t
      · rw [decide_eq_true c]
        refine iteT ⟨_, fun _ _ z => z, _, s0, _, _, rfl, rfl, ⟨by decide, by decide⟩, ?_⟩
        refine ⟨_, set_get s0, _, _, rfl, rfl, (by show (0 : Int) < 32; decide), _, _, rfl, rfl, one_line, fun p2 hp2 => ?_⟩
        have n2 : p1 ≠ p2 := ne_of_none hL hp2
        refine ⟨_, (set_other (by decide)).trans s5, _, _, _, _, rfl, rfl, upd_same, by rw [upd_ne n2]; exact hL, ?_, fun p3 hp3 => ?_⟩
        · rw [ivs_len, sizeLine_eq]
          simp only [List.length_cons, List.length_nil]
          omega
        · have e2 : Same H (upd H1 p2 (.lst [V.int (t / 32 % 32 + 32)])) := e.trans (same_new hp2 _)
          refine ⟨(t / 32).toNat, by omega, t / 32, (t / 32 % 32 + 32) :: L, p3, rfl, by omega, by omega, (set_other (by decide)).trans (set_get s0), set_get ((set_other (by decide)).trans s5), e2.trans (same_new hp3 _), by rw [upd_same]; rfl, ?_⟩
          rw [hc, hiC_step t c t1, List.append_assoc]
          rfl
      · rw [decide_eq_false c]
        rw [hiC_done t (by omega), List.nil_append] at hc
        refine iteF ⟨one_line, fun p2 hp2 => ?_⟩
        have n2 : p1 ≠ p2 := ne_of_none hL hp2
        refine ⟨_, s5, _, _, _, _, rfl, rfl, upd_same, by rw [upd_ne n2]; exact hL, ?_, fun p3 hp3 => ?_⟩
        · rw [ivs_len, sizeLine_eq]
          simp only [List.length_cons, List.length_nil]
          omega
        · have e2 : Same H (upd H1 p2 (.lst [V.int 59])) := e.trans (same_new hp2 _)
          refine q p3 _ (e2.trans (same_new hp3 _)) (e2.free hp3) ?_
          rw [upd_same]
          show _ = some (HO.lst (ivs (59 :: numC i)))
          rw [hc]
          rfl
    | str x =>
      cases hd
      simp only [isT, Bool.and_eq_true, decide_eq_true_eq, List.all_eq_true] at ht
      refine iteF ⟨_, rfl, ?_⟩
      refine ⟨_, _, _, _, false, rfl, .ty _, dp_ty (.str x), kt "str" "bool", ?_⟩
      refine ⟨false, rfl, iteF ⟨_, rfl, ?_⟩⟩
      refine ⟨_, _, _, _, false, rfl, .ty _, dp_ty (.str x), kt "str" "tuple", ?_⟩
      refine ⟨false, rfl, iteF ⟨_, rfl, rfl, _, rfl, ?_⟩⟩
      rcases List.eq_nil_or_concat x.cps.toList with hx | ⟨l, c, hx⟩
      · have ex : x = ("" : Str) := by
          obtain ⟨⟨l⟩⟩ := x
          have : l = [] := hx
          subst this
          decide +kernel
        subst ex
        exact iteT ⟨one_line, fun p hp => q p _ (same_new hp _) hp (by rw [upd_same]; rfl)⟩
      · have ex : ¬ (V.str x = V.str ("" : Str)) := fun z => by
          rw [V.str.inj z] at hx
          have h0 : ("" : Str).cps.toList = [] := by decide +kernel
          rw [h0] at hx
          simp at hx
        rw [decide_eq_false ex]
        refine iteF ⟨_, rfl, ?_⟩
        refine ⟨_, _, _, _, true, rfl, .ty _, dp_ty (.str x), kt "str" "str", ?_⟩
        refine ⟨true, rfl, iteT ⟨_, rfl, x, rfl, fun D hD => ?_⟩⟩
        have hx' : x.cps.toList = l ++ [c] := by rw [hx]; simp
        have lx : x.cps.toList.length = l.length + 1 := by rw [hx']; simp
        refine lc_it walk_str (Fill H D (ivs (x.cps.toList.map fun c : Nat => (c : Int) - 96))) (Fill.start hD) (fun _ _ _ _ => True.intro) (fun i y H1 H2 hi p hy => ?_) fun H1 p => ?_
        · obtain ⟨rfl, c0, hc0, rfl⟩ := hy
          have hm : c0 ∈ x.cps.toList := by
            have : x.cps.toList[i]? = some c0 := by rw [Array.getElem?_toList]; exact hc0
            exact List.mem_of_getElem? this
          have hr0 := ht.2 c0 hm
          refine ⟨rfl, ⟨rfl, ⟨_, rfl, ABC, ⟨#[c0]⟩, rfl, rfl, fun k hk => ?_, fun hk => ?_⟩⟩⟩
          · rw [idx_abc c0 hr0.1 hr0.2] at hk
            have ek : k = c0 - 97 := (Option.some.inj hk).symm
            refine ⟨_, _, rfl, rfl, ?_⟩
            refine p.next hD (Same.refl _) ?_ (by rw [ivs_len, List.length_map]; exact line60 (by omega))
            show (List.map V.int _)[i]? = some (V.int ((k : Int) + 1))
            rw [List.getElem?_map, List.getElem?_map, Array.getElem?_toList, hc0, ek]
            show some (V.int ((c0 : Int) - 96)) = some (V.int (((c0 - 97 : Nat) : Int) + 1))
            have : (c0 : Int) - 96 = ((c0 - 97 : Nat) : Int) + 1 := by omega
            rw [this]
          · rw [idx_abc c0 hr0.1 hr0.2] at hk
            cases hk
        · have hw := p.whole (by rw [ivs_len, List.length_map]; simp)
          have hw2 : H1 D = some (.lst (ivs (l.map fun c : Nat => (c : Int) - 96) ++ [V.int ((c : Int) - 96)])) := by
            rw [hw, hx', List.map_append, ivs_app]
            rfl
          refine ⟨_, rfl, _, rfl, _, rfl, D, _, rfl, SqL.of hw2, fun p2 hp2 => ?_⟩
          rw [cutV_but]
          have n2 : D ≠ p2 := ne_of_none hw2 hp2
          have n0 : p2 ≠ D := fun z => n2 z.symm
          refine ⟨_, rfl, _, rfl, D, _, _, _, rfl, rfl, SqL.of (by rw [upd_ne n2]; exact hw2), atI_last _ _, _, _, rfl, rfl, one_line, fun p3 hp3 => ?_⟩
          have n3 : p2 ≠ p3 := fun z => by rw [← z, upd_same] at hp3; cases hp3
          refine ⟨_, _, _, _, rfl, rfl, by rw [upd_ne n3, upd_same], upd_same, ?_, fun p4 hp4 => ?_⟩
          · rw [ivs_len, List.length_map, sizeLine_eq]
            simp only [List.length_cons, List.length_nil]
            omega
          · have e3 := (p.1.trans (same_new hp2 _)).trans (same_new hp3 (.lst [V.int ((c : Int) - 96 + 32)]))
            refine q p4 _ (e3.trans (same_new hp4 _)) (e3.free hp4) ?_
            rw [upd_same]
            have ec : cel (.str x) = (l.map fun c : Nat => (c : Int) - 96) ++ [(c : Int) - 64] := by
              show strC x.cps.toList = _
              rw [hx', ← strR_snoc]
              cases l <;> rfl
            rw [ec, ivs_app]
            show _ = some (HO.lst (_ ++ [V.int ((c : Int) - 64)]))
            have : (c : Int) - 64 = (c : Int) - 96 + 32 := by omega
            rw [this]
    | list ds => simp [isT] at ht
    | tuple ds =>
      obtain ⟨a, rfl⟩ : ∃ a, v = .ref a := by cases hd; exact ⟨_, rfl⟩
      obtain ⟨m0, hmem⟩ := isT_mem ht
      refine iteF ⟨_, rfl, ?_⟩
      refine ⟨_, _, _, _, false, rfl, .ty _, dp_ty hd, kt "tuple" "bool", ?_⟩
      refine ⟨false, rfl, iteF ⟨_, rfl, ?_⟩⟩
      refine ⟨_, _, _, _, true, rfl, .ty _, dp_ty hd, kt "tuple" "tuple", ?_⟩
      refine ⟨true, rfl, iteT ⟨one_line, fun p hp => ⟨_, rfl, a, rfl, ?_⟩⟩⟩
      have lc := cel_len _ _ ht
      cases hd with
      | @tup _ xs _ hs ha =>
      have hlen := dpA_len ha
      simp only [cel, List.length_cons, List.length_append, List.length_nil] at lc
      have e0 : Same H (upd H p (.lst [V.int 27])) := same_new hp _
      refine ⟨⟨xs, sq_same e0 hs⟩, fun D hD => ?_⟩
      generalize hH0 : upd H p (.lst [V.int 27]) = H0 at *
      refine ⟨fun i k H1 => k = xs.length - i ∧ i ≤ xs.length ∧ Same H0 H1 ∧ H1 D = some (.lst (ivs (celAll (ds.take i)))), ⟨xs.length, by simp, Nat.zero_le _, same_new hD _, by rw [upd_same]; rfl⟩, ?_⟩
      rintro i k H1 ⟨rfl, hi, e1, h1⟩
      by_cases hlt : i < xs.length
      · refine .inr ⟨⟨xs, xs[i], sq_same (e0.trans e1) hs, by simp [hlt]⟩, fun H2 => Same H0 H2 ∧ H2 D = some (.lst (ivs (celAll (ds.take (i + 1))))), fun H2 z => ⟨xs.length - (i + 1), by omega, rfl, hlt, z⟩, ?_⟩
        rintro x H2 ⟨rfl, hx⟩
        have hx := hx xs (sq_same (e0.trans e1) hs)
        obtain ⟨d, hdi, hdd⟩ := dpA_get ha hx
        have lt1 := celAll_take_len ds (i + 1)
        rw [celAll_take hdi, List.length_append] at lt1
        refine ⟨rfl, _, rfl, x, d, m - 1, rfl, by omega, dp_same (e0.trans e1) _ _ hdd, hmem d (List.mem_of_getElem? hdi), ?_, fun l H3 e3 nl hl => ?_⟩
        · have := ndAll_mem d (List.mem_of_getElem? hdi)
          simp only [nd] at hn
          omega
        refine ⟨l, rfl, ⟨_, SqL.of hl⟩, ?_⟩
        have nlD : D ≠ l := ne_of_none h1 nl
        have h3D := e3 _ _ h1
        refine ⟨fun j k H4 => k = (cel d).length - j ∧ j ≤ (cel d).length ∧ Same H0 H4 ∧ H4 l = some (.lst (ivs (cel d))) ∧ H4 D = some (.lst (ivs (celAll (ds.take i) ++ (cel d).take j))), ⟨_, rfl, Nat.zero_le _, e1.trans e3, hl, by rw [h3D]; simp⟩, ?_⟩
        rintro j k H4 ⟨rfl, hj, e4, hl4, h4D⟩
        by_cases hjl : j < (cel d).length
        · refine .inr ⟨⟨_, V.int (cel d)[j], SqL.of hl4, by simp [ivs, hjl]⟩, fun H5 => Same H0 H5 ∧ H5 l = some (.lst (ivs (cel d))) ∧ H5 D = some (.lst (ivs (celAll (ds.take i) ++ (cel d).take (j + 1)))), fun H5 z => ⟨(cel d).length - (j + 1), by omega, rfl, hjl, z⟩, ?_⟩
          rintro y H5 ⟨rfl, hy⟩
          have hy := hy _ (SqL.of hl4)
          have hy2 : (cel d)[j]? = some (cel d)[j] := by simp [hjl]
          have ey : y = V.int (cel d)[j] := by
            unfold ivs at hy
            rw [List.getElem?_map, hy2] at hy
            exact (Option.some.inj hy).symm
          refine ⟨rfl, _, rfl, _, h4D, ?_, same_upd e4 hD _, by rw [upd_ne (Ne.symm nlD)]; exact hl4, ?_⟩
          · rw [ivs_len, List.length_append, List.length_take, sizeLine_eq]
            omega
          · rw [upd_same, ← take_snoc hy2, ← List.append_assoc, ivs_app (celAll (ds.take i) ++ (cel d).take j) [(cel d)[j]], ey]
            rfl
        · have ej : j = (cel d).length := by omega
          subst ej
          refine .inl ⟨⟨_, SqL.of hl4, by rw [ivs_len]; exact Nat.le_refl _⟩, e4, ?_⟩
          rw [h4D, List.take_length, celAll_take hdi]
      · have ei : i = xs.length := by omega
        subst ei
        refine .inl ⟨⟨xs, sq_same (e0.trans e1) hs, Nat.le_refl _⟩, ?_⟩
        rw [hlen, List.take_length] at h1
        have hp0 : H0 p = some (.lst [V.int 27]) := by rw [← hH0, upd_same]
        refine ⟨_, _, _, _, rfl, rfl, e1 _ _ hp0, h1, ?_, fun p2 hp2 => ⟨one_line, fun p3 hp3 => ?_⟩⟩
        · rw [ivs_len, sizeLine_eq]
          simp only [List.length_cons, List.length_nil]
          omega
        · have n3 : p2 ≠ p3 := fun z => by rw [← z, upd_same] at hp3; cases hp3
          refine ⟨_, _, _, _, rfl, rfl, by rw [upd_ne n3, upd_same], upd_same, ?_, fun p4 hp4 => ?_⟩
          · rw [List.length_append, ivs_len, sizeLine_eq]
            simp only [List.length_cons, List.length_nil]
            omega
          · have e3 := (((e0.trans e1).trans (same_new hp2 _)).trans (same_new hp3 (.lst [V.int 28])))
            refine q p4 _ (e3.trans (same_new hp4 _)) (e3.free hp4) ?_
            rw [upd_same]
            show _ = some (HO.lst (ivs (27 :: (celAll ds ++ [28]))))
            rw [show (27 :: (celAll ds ++ [28])) = ([27] ++ celAll ds) ++ [28] from rfl, ivs_app, ivs_app]
            rfl
    | dict ds => cases hd
end
end K17

set_option Elab.async false
set_option linter.all false
set_option maxRecDepth 100000
set_option maxHeartbeats 4000000
set_option autoImplicit false
namespace K17
open PySem PySem.Spec PyProof.Rows L2
/-! ### tree_cells -/
def spTreeCells (K : PySem.W.Frag) : Sp := fun vs H Q E => ∃ (v : V) (d : PyData), vs = [v] ∧ Dp K H v d ∧ Gd d ∧
  (isT d 12 = true → ∀ p H', Same H H' → H p = none → H' p = some (.tup (ivs (cel d))) → Q (.ref p) H') ∧ (isT d 12 = false → ∀ H', Same H H' → E (.ref (He.ga K "BadTree")) none H')
theorem sc_treeCells : FnScope ["tree"] ["tree"] dTreeCells.scope := ⟨rfl, rfl, rfl, by decide +kernel, rfl, by decide +kernel, by decide +kernel⟩
section
variable {P : Program} {w : World} {K : PySem.W.Frag} {mg : Str → Option Value} {base : Heap}
theorem ok_treeCells (T : Tx K mg) (D : Dn K mg dTreeCells) (cT : Cal P w K mg base CX0 14 "is_tree" (spIsTree K 13)) (cC : Cal P w K mg base CX0 13 "cells_in" (spCells K 13)) : Cal P w K mg base (L2.CX P w) 15 "tree_cells" (spTreeCells K) := by
  obtain ⟨fd, F⟩ := D.fn
  refine cal_of F D.gl (F.bindsN (ps := ["tree"]) fun _ _ _ _ _ _ us hl => match us, hl with | [_], _ => rfl) ?_
  refine F.ok sc_treeCells (fun vs H Q E h => ?_) (fun cdv A outer s H vs Q E hr h => ?_)
  · obtain ⟨v, d, rfl, _⟩ := h
    rfl
  obtain ⟨v, d, rfl, hd, hg, q1, q2⟩ := h
  refine ⟨_, pss_cons (ps_if (pt_not (pt_val (pe_cal cT hr (by decide) pass0 (pa_cons (pv 0) (pa_cons (pe_mg (mg_int T.deep)) pa_nil)))))
      (pss_one (ps_raise rfl (takes_of rfl rfl rfl rfl) (pmk_own PySem.F.excBase_ValueError T.bt.ex T.bt.gl T.bt.kp (raises_own T.bt.sb T.bt.ty) rfl))) pss_nil)
    (pss_one (ps_ret (pe_callTy call_tuple_of (by rfl) T.tuple boot_tuple (pa_cons (pe_cal cC hr (by decide) pass0 (pa_cons (pv 0) pa_nil)) pa_nil)))), ?_⟩
  refine ⟨v, rfl, v, d, 12, rfl, rfl, hd, hg, fun H1 e1 => ⟨_, rfl, ?_⟩⟩
  cases hT : isT d 12 with
  | false =>
    refine iteT ?_
    exact q2 hT H1 e1
  | true =>
    refine iteF ⟨v, rfl, v, d, 12, rfl, rfl, dp_same e1 _ _ hd, hT, hg.n, fun p H2 e2 hp h2 => ?_⟩
    exact ⟨p, _, rfl, .inl ⟨SqL.of h2, fun l hl => q1 hT l _ ((e1.trans e2).trans (same_new hl _)) ((e1.trans e2).free hl) upd_same⟩⟩
end
end K17

set_option Elab.async false
set_option linter.all false
set_option maxRecDepth 100000
set_option maxHeartbeats 4000000
set_option autoImplicit false
namespace K17
open PySem PySem.Spec PyProof.Rows L2
/-! ### rules: x is a truth, data == data -/
def rIsB : R2 := fun x y H Q => ∃ b, y = .bl b ∧ Q (.bl (decide (x = .bl b))) H
section
variable {X : Cx}
theorem op_isB : OpR X (compareOp .Is) rIsB := by
  intro pins s σ H x y v u Q I rx ry h
  obtain ⟨b, rfl, q⟩ := h
  obtain rfl : u = Value.bool b := ry
  have other : ∀ (v : Value), plainIs v (.bool b) = true → v ≠ .bool b → decide (x = V.bl b) = false → wpAny (model X.prog X.w) X.A (compareOp .Is v (.bool b)) (EP X pins σ Q) X.xe s := fun v hp hn e =>
    wpAny_is_other hp hn ⟨.bl false, H, I, rfl, by rw [e] at q; exact q⟩
  cases x with
  | bl c =>
    obtain rfl : v = Value.bool c := rx
    refine wpAny_is_plain (by rfl) ⟨.bl _, H, I, rfl, ?_⟩
    have e : (Value.bool c == Value.bool b) = decide (V.bl c = V.bl b) := by cases b <;> cases c <;> rfl
    rw [e]
    exact q
  | non => obtain rfl : v = Value.none := rx; exact other _ rfl (fun z => by cases z) (decide_eq_false fun z => by cases z)
  | int i => obtain ⟨t, rfl⟩ := rx; exact other _ rfl (fun z => by cases z) (decide_eq_false fun z => by cases z)
  | str i => obtain ⟨t, rfl⟩ := rx; exact other _ rfl (fun z => by cases z) (decide_eq_false fun z => by cases z)
  | byt i => obtain ⟨t, rfl⟩ := rx; exact other _ rfl (fun z => by cases z) (decide_eq_false fun z => by cases z)
  | flt i => obtain ⟨t, rfl⟩ := rx; exact other _ rfl (fun z => by cases z) (decide_eq_false fun z => by cases z)
  | ref a => obtain rfl : v = Value.ref a := rx; exact other _ rfl (fun z => by cases z) (decide_eq_false fun z => by cases z)
  | ty n => obtain rfl : v = Value.type n := rx; exact other _ rfl (fun z => by cases z) (decide_eq_false fun z => by cases z)
def rEqC (K : PySem.W.Frag) : R2 := fun x y H Q => ∃ d e, Dp K H x d ∧ Dp K H y e ∧ d.canLay0 = true ∧ e.canLay0 = true ∧ min d.depth e.depth ≤ 64 ∧ Q (.bl (PyData.eqv d e)) H
def rNeC (K : PySem.W.Frag) : R2 := fun x y H Q => ∃ d e, Dp K H x d ∧ Dp K H y e ∧ d.canLay0 = true ∧ e.canLay0 = true ∧ min d.depth e.depth ≤ 64 ∧ Q (.bl (!PyData.eqv d e)) H
theorem op_eqC (hu : X.A.units + 64 < cLine) : OpR X (compareOp .Eq) (rEqC X.K) := by
  intro pins s σ H x y v u Q I rx ry h
  obtain ⟨d, e, hd, he, sd, se, hm, q⟩ := h
  obtain ⟨as, r1⟩ := Dp.reads I d x v hd rx
  obtain ⟨bs, r2⟩ := Dp.reads I e y u he ry
  exact SeqAt.compareEq_reads r1 r2 sd se (by omega) ⟨.bl _, H, I, rfl, q⟩
theorem op_neC (hu : X.A.units + 64 < cLine) : OpR X (compareOp .NotEq) (rNeC X.K) := by
  intro pins s σ H x y v u Q I rx ry h
  obtain ⟨d, e, hd, he, sd, se, hm, q⟩ := h
  obtain ⟨as, r1⟩ := Dp.reads I d x v hd rx
  obtain ⟨bs, r2⟩ := Dp.reads I e y u he ry
  exact SeqAt.compareNe_reads r1 r2 sd se (by omega) ⟨.bl _, H, I, rfl, q⟩
end
theorem eqv_nil (l : List PyData) : PyData.eqv (.list l) (.list []) = l.isEmpty := by
  cases l <;> simp [PyData.eqv, PyData.eqvAll]
theorem depth_nil : (PyData.list []).depth ≤ 64 := by simp [PyData.depth, PyData.depthAll]
theorem lay_nil : (PyData.list []).canLay0 = true := by simp [PyData.canLay0, PyData.canLayAll0]
theorem dp_nil {K : PySem.W.Frag} {H : Hp} {p : Addr} (h : H p = some (.lst [])) : Dp K H (.ref p) (.list []) := .lst (SqL.of h) .nil
theorem lay_list {l : List PyData} (h : ∀ d ∈ l, d.canLay0 = true) : (PyData.list l).canLay0 = true := by
  simp only [PyData.canLay0]
  induction l with
  | nil => simp [PyData.canLayAll0]
  | cons d r ih =>
    simp only [PyData.canLayAll0, Bool.and_eq_true]
    exact ⟨h d (by simp), ih fun e he => h e (by simp [he])⟩
theorem dpA_snoc {K : PySem.W.Frag} {H : Hp} : ∀ {vs : List V} {ds : List PyData} {v : V} {d : PyData}, DpAll K H vs ds → Dp K H v d → DpAll K H (vs ++ [v]) (ds ++ [d])
  | _, _, _, _, .nil, h => .cons h .nil
  | _, _, _, _, .cons a b, h => .cons a (dpA_snoc b h)
theorem filter_take {α : Type} {l : List α} {i : Nat} {y : α} (f : α → Bool) (h : l[i]? = some y) : (l.take (i + 1)).filter f = (l.take i).filter f ++ (if f y = true then [y] else []) := by
  rw [← take_snoc h, List.filter_append]
  congr 1
  simp [List.filter_cons]
theorem filter_none_all {l : List PyData} (f : PyData → Bool) : (l.filter fun d => !f d).isEmpty = l.all f := by
  induction l with
  | nil => rfl
  | cons d r ih =>
    simp only [List.filter_cons, List.all_cons]
    cases f d <;> simp_all
/-! ### _law_is_number -/
theorem sc_lNumber : FnScope ["_law_thing", "_law_low", "_law_end"] ["_law_thing", "_law_low", "_law_end"] dLNumber.scope := ⟨rfl, rfl, rfl, by decide +kernel, rfl, by decide +kernel, by decide +kernel⟩
section
variable {P : Program} {w : World} {K : PySem.W.Frag} {mg : Str → Option Value} {base : Heap}
theorem ok_lNumber (T : Tx K mg) (D : Dn K mg dLNumber) : Cal P w K mg base CX0 1 "_law_is_number" (spNumber K) := by
  obtain ⟨fd, F⟩ := D.fn
  refine cal_of F D.gl (F.bindsN (ps := ["_law_thing", "_law_low", "_law_end"]) fun _ _ _ _ _ _ us hl => match us, hl with | [_, _, _], _ => rfl) ?_
  refine F.ok sc_lNumber (fun vs H Q E h => ?_) (fun cdv A outer s H vs Q E hr h => ?_)
  · obtain ⟨v, d, lo, hi, rfl, _⟩ := h
    rfl
  obtain ⟨v, d, lo, hi, rfl, hd, q⟩ := h
  refine ⟨_, PSs.nox (pss_one (ps_ret (pe_and (pe_callB call_isi (by rfl) T.isi boot_isinstance (pa_cons (pv 0) (pa_cons (pe_ty T.int boot_int) pa_nil)))
    (pe_and (pe_not (pe_callB call_isi (by rfl) T.isi boot_isinstance (pa_cons (pv 0) (pa_cons (pe_ty T.bool boot_bool) pa_nil))))
      (pe_one (pe_chain op_le op_lt (pv 1) (pv 0) (pv 2))))))), ?_⟩
  refine ⟨v, rfl, ?_⟩
  cases d with
  | int i =>
    cases hd
    refine ⟨_, _, _, _, true, rfl, .ty _, dp_ty (.int i), kt "int" "int", ?_⟩
    refine ⟨true, rfl, iteT ⟨_, rfl, ?_⟩⟩
    refine ⟨_, _, _, _, false, rfl, .ty _, dp_ty (.int i), kt "int" "bool", ?_⟩
    refine ⟨_, rfl, true, rfl, iteT ?_⟩
    refine ⟨_, rfl, _, rfl, _, _, rfl, rfl, _, rfl, ?_⟩
    by_cases c : lo ≤ i
    · rw [decide_eq_true c]
      refine iteT ⟨_, rfl, _, _, rfl, rfl, ?_⟩
      have e : isNum (.int i) lo hi = decide (i < hi) := by simp [isNum, c]
      rw [e] at q
      exact q
    · rw [decide_eq_false c]
      refine iteF ?_
      have e : isNum (.int i) lo hi = false := by simp [isNum, c]
      rw [e] at q
      exact q
  | bool b =>
    cases hd
    refine ⟨_, _, _, _, true, rfl, .ty _, dp_ty (.bl b), kt "bool" "int", ?_⟩
    refine ⟨true, rfl, iteT ⟨_, rfl, ?_⟩⟩
    (refine ⟨_, _, _, _, true, rfl, .ty _, dp_ty (.bl b), kt "bool" "bool", ?_⟩; exact ⟨_, rfl, false, rfl, iteF q⟩)
  | none =>
    cases hd
    (refine ⟨_, _, _, _, false, rfl, .ty _, dp_ty .non, kt "NoneType" "int", ?_⟩; exact ⟨false, rfl, iteF q⟩)
  | str x =>
    cases hd
    (refine ⟨_, _, _, _, false, rfl, .ty _, dp_ty (.str x), kt "str" "int", ?_⟩; exact ⟨false, rfl, iteF q⟩)
  | list ds => (refine ⟨_, _, _, _, false, rfl, .ty _, dp_ty hd, kt "list" "int", ?_⟩; exact ⟨false, rfl, iteF q⟩)
  | tuple ds => (refine ⟨_, _, _, _, false, rfl, .ty _, dp_ty hd, kt "tuple" "int", ?_⟩; exact ⟨false, rfl, iteF q⟩)
  | dict ds => cases hd
/-! ### _law_is_tree -/
abbrev nLIsTree : List Str := ["_law_thing", "_law_deep", "_law_part", "_law_sign"]
theorem sc_lIsTree : FnScope nLIsTree ["_law_thing", "_law_deep"] dLIsTree.scope := ⟨rfl, rfl, rfl, by decide +kernel, rfl, by decide +kernel, by decide +kernel⟩
/-- a comprehension with a test that picks data -/
structure Pick (K : PySem.W.Frag) (H0 : Hp) (D : Addr) (ds : List PyData) (f : PyData → Bool) (i : Nat) (H : Hp) : Prop where
  s : Same H0 H
  l : ∃ acc, H D = some (.lst acc) ∧ DpAll K H0 acc ((ds.take i).filter f) ∧ acc.length ≤ i
theorem ok_lIsTree (T : Tx K mg) (D : Dn K mg dLIsTree) (cN : Cal P w K mg base CX0 1 "_law_is_number" (spNumber K)) : ∀ n : Nat, Cal P w K mg base CX0 (n + 1) "_law_is_tree" (spIsTree K n)
  | 0 => by
    obtain ⟨fd, F⟩ := D.fn
    exact cal_of F D.gl (F.bindsN (ps := ["_law_thing", "_law_deep"]) fun _ _ _ _ _ _ us hl => match us, hl with | [_, _], _ => rfl) (fn_absurd fun vs H Q E h => by obtain ⟨_, _, m, _, z, _⟩ := h; omega)
  | n + 1 => by
    have ih := ok_lIsTree T D cN n
    obtain ⟨fd, F⟩ := D.fn
    refine cal_of F D.gl (F.bindsN (ps := ["_law_thing", "_law_deep"]) fun _ _ _ _ _ _ us hl => match us, hl with | [_, _], _ => rfl) ?_
    refine F.ok sc_lIsTree (fun vs H Q E h => ?_) (fun cdv A outer s H vs Q E hr h => ?_)
    · obtain ⟨v, d, m, rfl, _⟩ := h
      rfl
    obtain ⟨v, d, m, rfl, hm, hd, hg, q⟩ := h
    refine ⟨_, PSs.nox (
      pss_cons (ps_if (pt_val (pe_callB call_isi (by rfl) T.isi boot_isinstance (pa_cons (pv 0) (pa_cons (pe_ty T.tuple boot_tuple) pa_nil)))) (pss_one (ps_ret (pe_and (pe_cmpR op_gt (pv 1) pe_int (nomark _)) (pe_one
          (pe_cmpR (op_eqC hr.units) (pe_lc (own := [("_law_part", 2)]) (g := gName 2) (tt := tNot (tB (tCall (spIsTree K n) [] E0 (tCons (tVar 2) (tCons (tOp (rI0 fun i j => .int (i - j)) (tVar 1) (tC (.int 1))) tNil))))) rfl sc_lIsTree.nd (pi_tup (pv 0)) (blkOk_by (N := nLIsTree) (sc := dLIsTree.scope) (own := [("_law_part", 2)]) (by decide +kernel)) (fun _ _ _ _ _ => pg_name (i := 2) sc_lIsTree.nd rfl (Or.inl rfl))
            (fun _ _ _ _ _ => pts_one (pt_not (pt_val (pe_cal ih hr (Nat.le_refl _) pass0 (pa_cons (pv 2) (pa_cons (pe_op op_sub (pv 1) pe_int) pa_nil))))))
            (fun _ _ _ _ _ => pv 2)) (pe_lst pa_nil) (nomark _)))))) pss_nil)
      (pss_cons (ps_if (pt_val (pe_callB call_isi (by rfl) T.isi boot_isinstance (pa_cons (pv 0) (pa_cons (pe_ty T.str boot_str) pa_nil)))) (pss_one (ps_ret (pe_and (pe_cmpR op_le (pe_callB call_len_str (by rfl) T.len PySem.boot_len (pa_cons (pv 0) pa_nil)) pe_int (nomark _)) (pe_one
          (pe_cmpR (op_eqC hr.units) (pe_lc (own := [("_law_sign", 3)]) (g := gName 3) (tt := tTest (tOp (fun x y H Q => ∃ (c : Nat) (z : Str), x = .str ⟨#[c]⟩ ∧ y = .str z ∧ Q (.bl (!decide (c ∈ z.cps.toList))) H) (tVar 3) (tC (.str ABC)))) rfl sc_lIsTree.nd (pi_str (pv 0)) (blkOk_by (N := nLIsTree) (sc := dLIsTree.scope) (own := [("_law_sign", 3)]) (by decide +kernel)) (fun _ _ _ _ _ => pg_name (i := 3) sc_lIsTree.nd rfl (Or.inl rfl))
            (fun _ _ _ _ _ => pts_one (pt_cmpR op_notIn_sign (pv 3) pe_str (by rfl)))
            (fun _ _ _ _ _ => pv 3)) (pe_lst pa_nil) (nomark _)))))) pss_nil)
      (pss_one (ps_ret (pe_or (pe_cmp (pc_isN (pv 0))) (pe_or (pe_cmpR op_isB (pv 0) pe_bl (nomark _)) (pe_or (pe_cmpR op_isB (pv 0) pe_bl (nomark _)) (pe_one
        (pe_cal cN hr (by omega) pass0 (pa_cons (pv 0) (pa_cons pe_int (pa_cons pe_int pa_nil)))))))))))), ?_⟩
    have e1 : m = n := by omega
    subst e1
    refine ⟨v, rfl, ?_⟩
    cases d with
    | none =>
      cases hd
      refine ⟨_, _, _, _, false, rfl, .ty _, dp_ty .non, kt "NoneType" "tuple", ?_⟩
      refine ⟨false, rfl, iteF ⟨_, rfl, ?_⟩⟩
      refine ⟨_, _, _, _, false, rfl, .ty _, dp_ty .non, kt "NoneType" "str", ?_⟩
      refine ⟨false, rfl, iteF ⟨_, rfl, true, rfl, iteT (q H (Same.refl H))⟩⟩
    | bool b =>
      cases hd
      refine ⟨_, _, _, _, false, rfl, .ty _, dp_ty (.bl b), kt "bool" "tuple", ?_⟩
      refine ⟨false, rfl, iteF ⟨_, rfl, ?_⟩⟩
      refine ⟨_, _, _, _, false, rfl, .ty _, dp_ty (.bl b), kt "bool" "str", ?_⟩
      refine ⟨false, rfl, iteF ⟨_, rfl, false, rfl, iteF ⟨_, rfl, _, rfl, ?_⟩⟩⟩
      cases b
      · exact ⟨false, rfl, iteF ⟨_, rfl, _, rfl, true, rfl, iteT (q H (Same.refl H))⟩⟩
      · exact ⟨true, rfl, iteT (q H (Same.refl H))⟩
    | int i =>
      cases hd
      refine ⟨_, _, _, _, false, rfl, .ty _, dp_ty (.int i), kt "int" "tuple", ?_⟩
      refine ⟨false, rfl, iteF ⟨_, rfl, ?_⟩⟩
      refine ⟨_, _, _, _, false, rfl, .ty _, dp_ty (.int i), kt "int" "str", ?_⟩
      refine ⟨false, rfl, iteF ⟨_, rfl, false, rfl, iteF ⟨_, rfl, _, rfl, false, rfl, iteF ⟨_, rfl, _, rfl, false, rfl, iteF ?_⟩⟩⟩⟩
      exact ⟨_, rfl, _, .int i, _, _, rfl, .int i, q H (Same.refl H)⟩
    | str x =>
      cases hd
      have hl : x.cps.toList.length ≤ 100 := (gs_str hg.s).1
      have hx : x.length = x.cps.toList.length := by simp [Str.length]
      refine ⟨_, _, _, _, false, rfl, .ty _, dp_ty (.str x), kt "str" "tuple", ?_⟩
      refine ⟨false, rfl, iteF ⟨_, rfl, ?_⟩⟩
      refine ⟨_, _, _, _, true, rfl, .ty _, dp_ty (.str x), kt "str" "str", ?_⟩
      refine ⟨true, rfl, iteT ⟨_, rfl, ?_⟩⟩
      refine ⟨x, rfl, line60 (by omega), ?_⟩
      refine ⟨_, _, rfl, rfl, _, rfl, ?_⟩
      by_cases c : ((x.length : Nat) : Int) ≤ 8
      · rw [decide_eq_true c]
        refine iteT ⟨_, rfl, x, rfl, fun D hD => ?_⟩
        refine lc_it walk_str (Pick K H D (x.cps.toList.map fun c => PyData.str ⟨#[c]⟩) (fun d => !isT d 0)) ⟨same_new hD _, [], upd_same, .nil, Nat.le_refl _⟩ (fun _ _ _ _ => True.intro) (fun i y H1 H2 hi p hy => ?_) fun H1 p => ?_
        · obtain ⟨rfl, c0, hc0, rfl⟩ := hy
          have hci : (x.cps.toList.map fun c => PyData.str ⟨#[c]⟩)[i]? = some (PyData.str ⟨#[c0]⟩) := by
            rw [List.getElem?_map, Array.getElem?_toList, hc0]
            rfl
          obtain ⟨ps, acc, h1, h2, h3⟩ := p
          have ef : (!isT (PyData.str ⟨#[c0]⟩) 0) = (!decide (c0 ∈ ABC.cps.toList)) := by
            rw [abc_mem]
            simp [isT]
          have hi' : i < 100 := by
            have : x.cps.toList.length = x.cps.size := by simp
            omega
          refine ⟨rfl, _, rfl, c0, ABC, rfl, rfl, _, rfl, ?_⟩
          have ft := filter_take (fun d => !isT d 0) hci
          cases hb : (!decide (c0 ∈ ABC.cps.toList)) with
          | true =>
            refine iteT ⟨_, rfl, acc, h1, by rw [sizeLine_eq]; omega, ?_⟩
            rw [ef, hb, if_pos rfl] at ft
            refine ⟨same_upd ps hD _, _, upd_same, ?_, by simp; omega⟩
            rw [ft]
            exact dpA_snoc h2 (.str _)
          | false =>
            refine iteF ?_
            rw [ef, hb, if_neg (by decide), List.append_nil] at ft
            exact ⟨ps, acc, h1, by rw [ft]; exact h2, by omega⟩
        · obtain ⟨ps, acc, h1, h2, h3⟩ := p
          rw [List.take_of_length_le (by simp)] at h2
          refine ⟨by rw [sizeLine_eq]; simp, fun p hp => ?_⟩
          refine ⟨_, _, .lst (SqL.of (by rw [upd_ne (ne_of_none h1 hp)]; exact h1)) (dpA_same (ps.trans (same_new hp _)) _ _ h2), dp_nil upd_same, lay_list fun d hd => ?_, lay_nil, ?_, ?_⟩
          · have := (List.mem_filter.mp hd).1
            simp only [List.mem_map] at this
            obtain ⟨c, hc, rfl⟩ := this
            simp only [PyData.canLay0]
            refine strOk_small fun c' hc' => ?_
            have : c' = c := by simpa using hc'
            rw [this]
            exact (gs_str hg.s).2 c hc
          · have := depth_nil; omega
          · rw [eqv_nil, filter_none_all]
            have e : isT (.str x) m = (x.cps.toList.map fun c => PyData.str ⟨#[c]⟩).all fun d => isT d 0 := by
              rw [List.all_map]
              simp only [isT]
              have : decide (x.cps.toList.length ≤ 8) = true := decide_eq_true (by omega)
              rw [this, Bool.true_and]
              exact List.all_congr rfl fun c => by simp [isT]
            have q2 := q _ (ps.trans (same_new hp (.lst [])))
            rw [e] at q2
            exact q2
      · rw [decide_eq_false c]
        have e : isT (.str x) m = false := by
          simp only [isT]
          have : decide (x.cps.toList.length ≤ 8) = false := decide_eq_false (by omega)
          rw [this, Bool.false_and]
        have q2 := q H (Same.refl H)
        rw [e] at q2
        exact iteF q2
    | list ds =>
      obtain ⟨a, rfl⟩ : ∃ a, v = .ref a := by cases hd; exact ⟨_, rfl⟩
      refine ⟨_, _, _, _, false, rfl, .ty _, dp_ty hd, kt "list" "tuple", ?_⟩
      refine ⟨false, rfl, iteF ⟨_, rfl, ?_⟩⟩
      refine ⟨_, _, _, _, false, rfl, .ty _, dp_ty hd, kt "list" "str", ?_⟩
      refine ⟨false, rfl, iteF ⟨_, rfl, false, rfl, iteF ⟨_, rfl, _, rfl, false, rfl, iteF ⟨_, rfl, _, rfl, false, rfl, iteF ?_⟩⟩⟩⟩
      exact ⟨_, rfl, _, .list ds, _, _, rfl, hd, q H (Same.refl H)⟩
    | tuple ds =>
      obtain ⟨a, rfl⟩ : ∃ a, v = .ref a := by cases hd; exact ⟨_, rfl⟩
      refine ⟨_, _, _, _, true, rfl, .ty _, dp_ty hd, kt "tuple" "tuple", ?_⟩
      refine ⟨true, rfl, iteT ⟨_, rfl, ?_⟩⟩
      refine ⟨_, _, rfl, rfl, _, rfl, ?_⟩
      cases hd with
      | @tup _ xs _ hs ha =>
      have hlen := dpA_len ha
      have hl60 := hg.len
      by_cases c : (0 : Int) < m
      · rw [decide_eq_true c]
        refine iteT ⟨_, rfl, a, rfl, ⟨_, hs⟩, fun D hD => ?_⟩
        refine lc_tup (K := K) (a := a) (xs := xs) (Pick K H D ds (fun d => !isT d (m - 1))) ⟨same_new hD _, [], upd_same, .nil, Nat.le_refl _⟩ (fun i H1 _ p => sq_same p.s hs) (fun i y H1 hy p => ?_) fun H1 p => ?_
        · obtain ⟨d, hdi, hdd⟩ := dpA_get ha hy
          obtain ⟨ps, acc, h1, h2, h3⟩ := p
          have hmem := List.mem_of_getElem? hdi
          have hil := (List.getElem?_eq_some_iff.mp hdi).1
          refine ⟨rfl, ?_⟩
          refine ⟨_, rfl, _, rfl, _, _, rfl, rfl, y, d, m - 1, by show [y, V.int ((m : Int) - 1)] = _; rw [show ((m : Int) - 1) = ((m - 1 : Nat) : Int) by omega], by omega, dp_same ps _ _ hdd, hg.mem d hmem, fun H2 e2 => ⟨_, rfl, ?_⟩⟩
          have ft := filter_take (fun d => !isT d (m - 1)) hdi
          cases hb : isT d (m - 1) with
          | false =>
            refine iteT ⟨_, rfl, acc, e2 _ _ h1, by rw [sizeLine_eq]; omega, ?_⟩
            rw [hb, if_pos (by rfl)] at ft
            refine ⟨same_upd (ps.trans e2) hD _, _, upd_same, ?_, by simp; omega⟩
            rw [ft]
            exact dpA_snoc h2 hdd
          | true =>
            refine iteF ?_
            rw [hb, if_neg (by decide), List.append_nil] at ft
            exact ⟨ps.trans e2, acc, e2 _ _ h1, by rw [ft]; exact h2, by omega⟩
        · obtain ⟨ps, acc, h1, h2, h3⟩ := p
          rw [List.take_of_length_le (by omega)] at h2
          refine ⟨by rw [sizeLine_eq]; simp, fun p hp => ?_⟩
          refine ⟨_, _, .lst (SqL.of (by rw [upd_ne (ne_of_none h1 hp)]; exact h1)) (dpA_same (ps.trans (same_new hp _)) _ _ h2), dp_nil upd_same, lay_list fun d hd => ?_, lay_nil, ?_, ?_⟩
          · exact gs_lay d (hg.mem d (List.mem_filter.mp hd).1).s
          · have := depth_nil; omega
          · rw [eqv_nil, filter_none_all]
            have e : isT (.tuple ds) m = ds.all fun d => isT d (m - 1) := by
              simp only [isT, isTAll_all]
              have : decide (0 < m) = true := decide_eq_true (by omega)
              rw [this, Bool.true_and]
            have q2 := q _ (ps.trans (same_new hp (.lst [])))
            rw [e] at q2
            exact q2
      · rw [decide_eq_false c]
        have e : isT (.tuple ds) m = false := by
          simp only [isT]
          have : decide (0 < m) = false := decide_eq_false (by omega)
          rw [this, Bool.false_and]
        have q2 := q H (Same.refl H)
        rw [e] at q2
        exact iteF q2
    | dict ds => cases hd
end
end K17

set_option Elab.async false
set_option linter.all false
set_option maxRecDepth 100000
set_option maxHeartbeats 4000000
set_option autoImplicit false
namespace K17
open PySem PySem.Spec PyProof.Rows L2
/-! ### _law_tree_cells -/
abbrev sABC : Str := " abcdefghijklmnopqrstuvwxyz"
theorem idx_sabc (c : Nat) (h1 : 97 ≤ c) (h2 : c ≤ 122) : Txt.index0 sABC ⟨#[c]⟩ = some (c - 96) := by
  have key : ∀ k : _root_.Fin 26, Txt.index0 sABC ⟨#[97 + k.val]⟩ = some (k.val + 1) := by decide +kernel
  have := key ⟨c - 97, by omega⟩
  have e : 97 + (c - 97) = c := by omega
  have e2 : c - 96 = c - 97 + 1 := by omega
  rw [e2]
  simpa [e] using this
abbrev nLCells : List Str := ["_law_tree_here", "_law_cells", "_law_part", "_law_letters", "_law_sign", "_law_high"]
theorem sc_lCells : FnScope nLCells ["_law_tree_here"] dLCells.scope := ⟨rfl, rfl, rfl, by decide +kernel, rfl, by decide +kernel, by decide +kernel⟩
theorem two_line : (2 : Nat) ≤ sizeLine := by rw [sizeLine_eq]; decide
def tFin : TE := tOp rCat (tOp rCat (tLst (tCons (tC (.int 59)) tNil)) (tVar 5))
  (tLst (tCons (tOp (rI (fun _ j => 0 < j) fun i j => .int (i % j)) (tCB (fun xs H Q => (∃ i, xs = [.int i] ∧ Q (.int i) H) ∨ ∃ k, xs = [.bl k] ∧ Q (.int (if k then 1 else 0)) H) (tCons (tVar 0) tNil)) (tC (.int 32))) tNil))
section
variable {P : Program} {w : World} {K : PySem.W.Frag} {mg : Str → Option Value} {base : Heap}
theorem ok_lCells (T : Tx K mg) (D : Dn K mg dLCells) : ∀ n : Nat, Cal P w K mg base CX0 n "_law_tree_cells" (spCells K n)
  | 0 => by
    obtain ⟨fd, F⟩ := D.fn
    exact cal_of F D.gl (F.bindsN (ps := ["_law_tree_here"]) fun _ _ _ _ _ _ us hl => match us, hl with | [_], _ => rfl) (fn_absurd fun vs H Q E h => by obtain ⟨_, _, m, _, z, _⟩ := h; omega)
  | n + 1 => by
    have ih := ok_lCells T D n
    obtain ⟨fd, F⟩ := D.fn
    refine cal_of F D.gl (F.bindsN (ps := ["_law_tree_here"]) fun _ _ _ _ _ _ us hl => match us, hl with | [_], _ => rfl) ?_
    refine F.ok sc_lCells (fun vs H Q E h => ?_) (fun cdv A outer s H vs Q E hr h => ?_)
    · obtain ⟨v, d, m, rfl, _⟩ := h
      rfl
    obtain ⟨v, d, m, rfl, hm, hd, ht, hn, q⟩ := h
    have nd' := sc_lCells.nd
    refine ⟨_, PSs.nox (pss_cons (ps_if (PW.pt (pw_or (pt_cmp (pc_isN (pv 0))) (pw_or (pt_cmpR op_isB (pv 0) pe_bl (nomark _)) (pw_or1 (pt_cmpR op_isB (pv 0) pe_bl (nomark _))))))
        (pss_one (ps_ret (pe_lst (pa_cons (pe_ifExp (pt_cmp (pc_isN (pv 0))) pe_int (pe_ifExp (pt_truth (pv 0) (by intro _; rfl)) pe_int pe_int)) pa_nil)))) pss_nil)
      (pss_cons (ps_if (pt_val (pe_callB call_isi (by rfl) T.isi boot_isinstance (pa_cons (pv 0) (pa_cons (pe_ty T.tuple boot_tuple) pa_nil))))
        (pss_cons (ps_set (i := 1) nd' rfl (.inl rfl) (pe_lst (pa_cons pe_int pa_nil)))
        (pss_cons (ps_for PassesOwn.never rfl (pi_tup (pv 0)) (pg_name (i := 2) nd' rfl (Or.inl rfl)) (pss_one (ps_set (i := 1) nd' rfl (.inl rfl) (pe_op op_cat (pv 1) (pe_cal ih hr (Nat.le_refl _) pass0 (pa_cons (pv 2) pa_nil))))))
        (pss_one (ps_ret (pe_op op_cat (pv 1) (pe_lst (pa_cons pe_int pa_nil))))))) pss_nil)
      (pss_cons (ps_if (pt_val (pe_callB call_isi (by rfl) T.isi boot_isinstance (pa_cons (pv 0) (pa_cons (pe_ty T.str boot_str) pa_nil))))
        (pss_cons (ps_setLc (i := 3) (own := [("_law_sign", 4)]) (te := tBMS K "str" (rIndexX fun _ _ _ _ => False) (tC (.str sABC)) (tCons (tVar 4) tNil)) (g := gName 4) (tt := tYes) rfl nd' rfl rfl (sw_true rfl rfl rfl (by decide +kernel)) (pi_str (pv 0)) (blkOk_by (N := nLCells) (sc := dLCells.scope) (own := [("_law_sign", 4)]) (by decide +kernel))
            (fun _ _ _ _ _ => pg_name (i := 4) nd' rfl (Or.inl rfl)) (fun _ _ _ _ _ => pts_nil)
            (fun _ _ _ _ _ => pe_bmS PySem.F.plainAttrs_str PySem.F.slot_str_index PySem.F.type_str_index (mt_indexX rfl L2.takes0) pe_str (pa_cons (pv 4) pa_nil)))
        (pss_one (ps_ret (pe_ifExp (pt_cmpR op_ne (pv 0) pe_str (nomark _)) (pe_op op_cat (pe_slice sl_list (pv 3) po_none (po_some (pe_un un_neg pe_int))) (pe_lst (pa_cons (pe_op op_add (pe_ix ix_list (pv 3) (pe_un un_neg pe_int) (fun _ _ => rfl)) pe_int) pa_nil))) (pe_lst (pa_cons pe_int pa_nil)))))) pss_nil)
      (pss_cons (ps_set (i := 5) nd' rfl (.inl rfl) (pe_ifExp (pt_cmpR op_ge (pv 0) pe_int (nomark _))
          (pe_lst (pa_cons (pe_op op_add (pe_op op_fdiv (pv 0) pe_int) pe_int) (pa_cons (pe_op op_add (pe_op op_mod (pe_op op_fdiv (pv 0) pe_int) pe_int) pe_int) pa_nil)))
          (pe_ifExp (pt_cmpR op_ge (pv 0) pe_int (nomark _)) (pe_lst (pa_cons (pe_op op_add (pe_op op_fdiv (pv 0) pe_int) pe_int) pa_nil)) (pe_lst pa_nil))))
      (pss_one (ps_ret (pe_op op_cat (pe_op op_cat (pe_lst (pa_cons pe_int pa_nil)) (pv 5)) (pe_lst (pa_cons (pe_op op_mod (pe_callTy call_int1 (by rfl) T.int boot_int (pa_cons (pv 0) pa_nil)) pe_int) pa_nil)))))))))
      , ?_⟩
    have e1 : m = n := by omega
    subst e1
    refine ⟨v, rfl, _, rfl, ?_⟩
    cases d with
    | none =>
      cases hd
      refine iteT ⟨_, rfl, _, rfl, iteT ?_⟩
      exact ⟨one_line, fun p hp => q p _ (same_new hp _) hp (by rw [upd_same]; rfl)⟩
    | bool b =>
      cases hd
      refine iteF ⟨_, rfl, _, rfl, ?_⟩
      cases b
      · refine ⟨false, rfl, iteF ⟨_, rfl, _, rfl, true, rfl, iteT ⟨_, rfl, _, rfl, iteF ⟨_, rfl, false, rfl, iteF ?_⟩⟩⟩⟩
        exact ⟨one_line, fun p hp => q p _ (same_new hp _) hp (by rw [upd_same]; rfl)⟩
      · refine ⟨true, rfl, iteT ⟨_, rfl, _, rfl, iteF ⟨_, rfl, true, rfl, iteT ?_⟩⟩⟩
        exact ⟨one_line, fun p hp => q p _ (same_new hp _) hp (by rw [upd_same]; rfl)⟩
    | int i =>
      cases hd
      simp only [isT, Bool.and_eq_true, decide_eq_true_eq] at ht
      refine iteF ⟨_, rfl, _, rfl, false, rfl, iteF ⟨_, rfl, _, rfl, false, rfl, iteF ⟨_, rfl, ?_⟩⟩⟩
      refine ⟨_, _, _, _, false, rfl, .ty _, dp_ty (.int i), kt "int" "tuple", ?_⟩
      refine ⟨false, rfl, iteF ⟨_, rfl, ?_⟩⟩
      refine ⟨_, _, _, _, false, rfl, .ty _, dp_ty (.int i), kt "int" "str", ?_⟩
      refine ⟨false, rfl, iteF ⟨_, rfl, _, _, rfl, rfl, _, rfl, ?_⟩⟩
      have fin : ∀ (p1 : Addr) (H1 : Hp) (σ : L2.St) (L : List Int), Same H H1 → H1 p1 = some (.lst (ivs L)) → L.length ≤ 2 → numC i = L ++ [i % 32] → σ[0]? = some (some (.int i)) → σ[5]? = some (some (.ref p1)) → tFin σ H1 Q := by
        intro p1 H1 σ L e1 h1 hL hc s0 s5
        refine ⟨one_line, fun p2 hp2 => ⟨_, s5, ?_⟩⟩
        have n2 : p1 ≠ p2 := ne_of_none h1 hp2
        refine ⟨_, _, _, _, rfl, rfl, upd_same, by rw [upd_ne n2]; exact h1, ?_, fun p3 hp3 => ?_⟩
        · rw [ivs_len, sizeLine_eq]
          simp only [List.length_cons, List.length_nil]
          omega
        refine ⟨_, s0, .inl ⟨_, rfl, _, _, rfl, rfl, (by show (0 : Int) < 32; decide), one_line, fun p4 hp4 => ?_⟩⟩
        have n3 : p3 ≠ p4 := fun z => by rw [← z, upd_same] at hp4; cases hp4
        refine ⟨_, _, _, _, rfl, rfl, by rw [upd_ne n3, upd_same], upd_same, ?_, fun p5 hp5 => ?_⟩
        · rw [List.length_append, ivs_len, sizeLine_eq]
          simp only [List.length_cons, List.length_nil]
          omega
        have e5 := (((e1.trans (same_new hp2 _)).trans (same_new hp3 _)).trans (same_new hp4 (.lst [V.int (i % 32)])))
        refine q p5 _ (e5.trans (same_new hp5 _)) (e5.free hp5) ?_
        rw [upd_same]
        show _ = some (HO.lst (ivs (59 :: numC i)))
        rw [hc, show (59 :: (L ++ [i % 32])) = ([59] ++ L) ++ [i % 32] from rfl, ivs_app, ivs_app]
        rfl
      by_cases c1 : (1024 : Int) ≤ i
      · rw [decide_eq_true c1]
        refine iteT ⟨_, rfl, _, _, rfl, rfl, ⟨by decide, by decide⟩, _, _, rfl, rfl, _, rfl, _, _, rfl, rfl, ⟨by decide, by decide⟩, _, _, rfl, rfl, (by show (0 : Int) < 32; decide), _, _, rfl, rfl, two_line, fun p hp => ?_⟩
        refine fin p _ _ [i / 1024 + 32, i / 32 % 32 + 32] (same_new hp _) (by rw [upd_same]; rfl) (by simp) ?_ rfl rfl
        unfold numC
        rw [if_neg (by omega), if_neg (by omega)]
        rfl
      · rw [decide_eq_false c1]
        refine iteF ⟨_, rfl, _, _, rfl, rfl, _, rfl, ?_⟩
        by_cases c2 : (32 : Int) ≤ i
        · rw [decide_eq_true c2]
          refine iteT ⟨_, rfl, _, _, rfl, rfl, ⟨by decide, by decide⟩, _, _, rfl, rfl, one_line, fun p hp => ?_⟩
          refine fin p _ _ [i / 32 + 32] (same_new hp _) (by rw [upd_same]; rfl) (by simp) ?_ rfl rfl
          unfold numC
          rw [if_neg (by omega), if_pos (by omega)]
          rfl
        · rw [decide_eq_false c2]
          refine iteF ⟨by rw [sizeLine_eq]; simp, fun p hp => ?_⟩
          refine fin p _ _ [] (same_new hp _) (by rw [upd_same]; rfl) (by simp) ?_ rfl rfl
          unfold numC
          rw [if_pos (by omega), show i % 32 = i by omega]
          rfl
    | str x =>
      cases hd
      simp only [isT, Bool.and_eq_true, decide_eq_true_eq, List.all_eq_true] at ht
      refine iteF ⟨_, rfl, _, rfl, false, rfl, iteF ⟨_, rfl, _, rfl, false, rfl, iteF ⟨_, rfl, ?_⟩⟩⟩
      refine ⟨_, _, _, _, false, rfl, .ty _, dp_ty (.str x), kt "str" "tuple", ?_⟩
      refine ⟨false, rfl, iteF ⟨_, rfl, ?_⟩⟩
      refine ⟨_, _, _, _, true, rfl, .ty _, dp_ty (.str x), kt "str" "str", ?_⟩
      refine ⟨true, rfl, iteT ⟨_, rfl, x, rfl, fun D hD => ?_⟩⟩
      have hl100 : x.cps.toList.length ≤ 8 := ht.1
      refine lc_it walk_str (Fill H D (ivs (x.cps.toList.map fun c : Nat => (c : Int) - 96))) (Fill.start hD) (fun _ _ _ _ => True.intro) (fun i y H1 H2 hi p hy => ?_) fun H1 p => ?_
      · obtain ⟨rfl, c0, hc0, rfl⟩ := hy
        have hm : c0 ∈ x.cps.toList := by
          have : x.cps.toList[i]? = some c0 := by rw [Array.getElem?_toList]; exact hc0
          exact List.mem_of_getElem? this
        have hr0 := ht.2 c0 hm
        refine ⟨rfl, ⟨rfl, ⟨_, rfl, sABC, ⟨#[c0]⟩, rfl, rfl, fun k hk => ?_, fun hk => ?_⟩⟩⟩
        · rw [idx_sabc c0 hr0.1 hr0.2] at hk
          have ek : k = c0 - 96 := (Option.some.inj hk).symm
          refine p.next hD (Same.refl _) ?_ (by rw [ivs_len, List.length_map]; exact line60 (by omega))
          show (List.map V.int _)[i]? = some (V.int (k : Int))
          rw [List.getElem?_map, List.getElem?_map, Array.getElem?_toList, hc0, ek]
          show some (V.int ((c0 : Int) - 96)) = some (V.int ((c0 - 96 : Nat) : Int))
          have : (c0 : Int) - 96 = ((c0 - 96 : Nat) : Int) := by omega
          rw [this]
        · rw [idx_sabc c0 hr0.1 hr0.2] at hk
          cases hk
      · have hw := p.whole (by rw [ivs_len, List.length_map]; simp)
        rcases List.eq_nil_or_concat x.cps.toList with hx | ⟨l, c, hx⟩
        · have ex : x = ("" : Str) := by
            obtain ⟨⟨l⟩⟩ := x
            have : l = [] := hx
            subst this
            decide +kernel
          subst ex
          refine ⟨_, rfl, rfl, false, rfl, iteF ⟨one_line, fun p2 hp2 => ?_⟩⟩
          exact q p2 _ (p.1.trans (same_new hp2 _)) (p.1.free hp2) (by rw [upd_same]; rfl)
        · have ex : ¬ (V.str x = V.str ("" : Str)) := fun z => by
            rw [V.str.inj z] at hx
            have h0 : ("" : Str).cps.toList = [] := by decide +kernel
            rw [h0] at hx
            simp at hx
          have hx' : x.cps.toList = l ++ [c] := by rw [hx]; simp
          have lx : x.cps.toList.length = l.length + 1 := by rw [hx']; simp
          have hw2 : H1 D = some (.lst (ivs (l.map fun c : Nat => (c : Int) - 96) ++ [V.int ((c : Int) - 96)])) := by
            rw [hw, hx', List.map_append, ivs_app]
            rfl
          refine ⟨_, rfl, rfl, _, rfl, ?_⟩
          rw [decide_eq_false ex]
          refine iteT ⟨_, rfl, _, rfl, _, rfl, D, _, rfl, SqL.of hw2, fun p2 hp2 => ?_⟩
          rw [cutV_but]
          have n2 : D ≠ p2 := ne_of_none hw2 hp2
          have n0 : p2 ≠ D := fun z => n2 z.symm
          refine ⟨_, rfl, _, rfl, D, _, _, _, rfl, rfl, SqL.of (by rw [upd_ne n2]; exact hw2), atI_last _ _, _, _, rfl, rfl, one_line, fun p3 hp3 => ?_⟩
          have n3 : p2 ≠ p3 := fun z => by rw [← z, upd_same] at hp3; cases hp3
          refine ⟨_, _, _, _, rfl, rfl, by rw [upd_ne n3, upd_same], upd_same, ?_, fun p4 hp4 => ?_⟩
          · rw [ivs_len, List.length_map, sizeLine_eq]
            simp only [List.length_cons, List.length_nil]
            omega
          · have e3 := (p.1.trans (same_new hp2 _)).trans (same_new hp3 (.lst [V.int ((c : Int) - 96 + 32)]))
            refine q p4 _ (e3.trans (same_new hp4 _)) (e3.free hp4) ?_
            rw [upd_same]
            have ec : cel (.str x) = (l.map fun c : Nat => (c : Int) - 96) ++ [(c : Int) - 64] := by
              show strC x.cps.toList = _
              rw [hx', ← strR_snoc]
              cases l <;> rfl
            rw [ec, ivs_app]
            show _ = some (HO.lst (_ ++ [V.int ((c : Int) - 64)]))
            have : (c : Int) - 64 = (c : Int) - 96 + 32 := by omega
            rw [this]
    | list ds => simp [isT] at ht
    | tuple ds =>
      obtain ⟨a, rfl⟩ : ∃ a, v = .ref a := by cases hd; exact ⟨_, rfl⟩
      obtain ⟨m0, hmem⟩ := isT_mem ht
      have lc := cel_len _ _ ht
      refine iteF ⟨_, rfl, _, rfl, false, rfl, iteF ⟨_, rfl, _, rfl, false, rfl, iteF ⟨_, rfl, ?_⟩⟩⟩
      refine ⟨_, _, _, _, true, rfl, .ty _, dp_ty hd, kt "tuple" "tuple", ?_⟩
      refine ⟨true, rfl, iteT ⟨one_line, fun p hp => ⟨_, rfl, a, rfl, ?_⟩⟩⟩
      cases hd with
      | @tup _ xs _ hs ha =>
      have hlen := dpA_len ha
      simp only [cel, List.length_cons, List.length_append, List.length_nil] at lc
      have e0 : Same H (upd H p (.lst [V.int 27])) := same_new hp _
      refine ⟨⟨xs, sq_same e0 hs⟩, ?_⟩
      refine for_tup (K := K) (a := a) (xs := xs) (fun i σ H1 => ∃ p1, σ[0]? = some (some (.ref a)) ∧ (∃ z, σ[2]? = some z) ∧ σ[1]? = some (some (.ref p1)) ∧ Same H H1 ∧ H1 p1 = some (.lst (ivs (27 :: celAll (ds.take i))))) ⟨p, rfl, ⟨_, rfl⟩, rfl, e0, by rw [upd_same]; rfl⟩ (fun i σ H1 _ ⟨_, _, _, _, e1, _⟩ => sq_same e1 hs) (fun i x σ H1 hx ⟨p1, s0, ⟨z2, s2⟩, s1, e1, h1⟩ => ?_) (fun σ H1 ⟨p1, s0, _, s1, e1, h1⟩ => ?_)
      · obtain ⟨d, hdi, hdd⟩ := dpA_get ha hx
        have lt1 := celAll_take_len ds (i + 1)
        rw [celAll_take hdi, List.length_append] at lt1
        refine ⟨_, (set_other (by decide)).trans s1, _, set_get s2, x, d, m - 1, rfl, by omega, dp_same e1 _ _ hdd, hmem d (List.mem_of_getElem? hdi), ?_, fun l H3 e3 nl hl => ?_⟩
        · have := ndAll_mem d (List.mem_of_getElem? hdi)
          simp only [nd] at hn
          omega
        refine ⟨_, _, _, _, rfl, rfl, e3 _ _ h1, hl, ?_, fun p2 hp2 => ?_⟩
        · rw [ivs_len, ivs_len, List.length_cons, sizeLine_eq]
          omega
        have e4 := e1.trans e3
        refine ⟨p2, (set_other (by decide)).trans ((set_other (by decide)).trans s0), ⟨_, (set_other (by decide)).trans (set_get s2)⟩, set_get ((set_other (by decide)).trans s1), e4.trans (same_new hp2 _), ?_⟩
        rw [upd_same, celAll_take hdi, ← List.cons_append, ivs_app]
      · rw [hlen, List.take_length] at h1
        refine ⟨_, s1, one_line, fun p3 hp3 => ?_⟩
        have n3 : p1 ≠ p3 := ne_of_none h1 hp3
        refine ⟨_, _, _, _, rfl, rfl, by rw [upd_ne n3]; exact h1, upd_same, ?_, fun p4 hp4 => ?_⟩
        · rw [ivs_len, List.length_cons, sizeLine_eq]
          simp only [List.length_cons, List.length_nil]
          omega
        · have e3 := e1.trans (same_new hp3 (.lst [V.int 28]))
          refine q p4 _ (e3.trans (same_new hp4 _)) (e3.free hp4) ?_
          rw [upd_same]
          show _ = some (HO.lst (ivs (27 :: (celAll ds ++ [28]))))
          rw [show (27 :: (celAll ds ++ [28])) = (27 :: celAll ds) ++ [28] from rfl, ivs_app]
          rfl
    | dict ds => cases hd
end
end K17

set_option Elab.async false
set_option linter.all false
set_option maxRecDepth 100000
set_option maxHeartbeats 4000000
set_option autoImplicit false
namespace K17
open PySem PySem.Spec PyProof.Rows L2
/-! ### data without lists, small signs -/
mutual
def tl : PyData → Bool
  | .str x => x.cps.toList.all (fun c => decide (c ≤ 122))
  | .tuple ds => tlAll ds
  | .none => true
  | .bool _ => true
  | .int _ => true
  | .list _ => false
  | .dict _ => false
def tlAll : List PyData → Bool
  | [] => true
  | d :: r => tl d && tlAll r
end
theorem tlAll_app (a b : List PyData) : tlAll (a ++ b) = (tlAll a && tlAll b) := by
  induction a with
  | nil => simp [tlAll]
  | cons d r ih => simp [tlAll, ih, Bool.and_assoc]
mutual
theorem tl_lay : ∀ d : PyData, tl d = true → d.canLay0 = true
  | .none, _ => by simp [PyData.canLay0]
  | .bool _, _ => by simp [PyData.canLay0]
  | .int _, _ => by simp [PyData.canLay0]
  | .str x, h => by
    simp only [PyData.canLay0]
    exact strOk_small (by simpa only [tl, List.all_eq_true, decide_eq_true_eq] using h)
  | .tuple ds, h => by
    simp only [PyData.canLay0]
    exact tlAll_lay ds (by simpa only [tl] using h)
  | .list _, h => by simp [tl] at h
  | .dict _, h => by simp [tl] at h
theorem tlAll_lay : ∀ l : List PyData, tlAll l = true → PyData.canLayAll0 l = true
  | [], _ => by simp [PyData.canLayAll0]
  | d :: r, h => by
    simp only [tlAll, Bool.and_eq_true] at h
    simp only [PyData.canLayAll0, Bool.and_eq_true]
    exact ⟨tl_lay d h.1, tlAll_lay r h.2⟩
end
/-- tuples stay -/
def Kt (H H' : Hp) : Prop := ∀ a o, H a = some o → ((∃ xs, o = .tup xs) ∨ ∃ ob u, o = .frz ob u) → H' a = some o
theorem Kt.of {H H' : Hp} (e : Same H H') : Kt H H' := fun a o h _ => e a o h
theorem Kt.trans {H H1 H2 : Hp} (a : Kt H H1) (b : Kt H1 H2) : Kt H H2 := fun c o h n => b c o (a c o h n) n
theorem Kt.refl (H : Hp) : Kt H H := fun _ _ h _ => h
theorem kt_lst {H : Hp} {a : Addr} {xs : List V} {o : HO} (h : H a = some (.lst xs)) : Kt H (upd H a o) := fun b u hb n => by
  have hne : b ≠ a := fun z => by
    rw [z, h] at hb
    cases hb
    rcases n with ⟨_, n⟩ | ⟨_, _, n⟩ <;> cases n
  rw [upd_ne hne]
  exact hb
theorem kt_ins {H : Hp} {a C dx : Addr} {fs : List (Str × V)} {o : HO} (h : H a = some (.ins C dx fs)) : Kt H (upd H a o) := fun b u hb n => by
  have hne : b ≠ a := fun z => by
    rw [z, h] at hb
    cases hb
    rcases n with ⟨_, n⟩ | ⟨_, _, n⟩ <;> cases n
  rw [upd_ne hne]
  exact hb
section
variable {K : PySem.W.Frag} {H H' : Hp}
mutual
theorem dp_kt (e : Kt H H') : ∀ (d : PyData) (v : V), tl d = true → Dp K H v d → Dp K H' v d
  | .none, _, _, h => by cases h; exact .non
  | .bool _, _, _, h => by cases h; exact .bl _
  | .int _, _, _, h => by cases h; exact .int _
  | .str _, _, _, h => by cases h; exact .str _
  | .list ds, _, t, h => by simp [tl] at t
  | .tuple ds, _, t, h => by
    cases h with
    | tup hs ha =>
      refine .tup ?_ (dpA_kt e ds _ (by simpa only [tl] using t) ha)
      rcases hs with (z | ⟨o, z⟩) | z
      · exact .inl (.inl (e _ _ z (.inl ⟨_, rfl⟩)))
      · exact .inl (.inr ⟨o, e _ _ z (.inr ⟨_, _, rfl⟩)⟩)
      · exact .inr z
  | .dict _, _, t, h => by simp [tl] at t
theorem dpA_kt (e : Kt H H') : ∀ (ds : List PyData) (vs : List V), tlAll ds = true → DpAll K H vs ds → DpAll K H' vs ds
  | [], _, _, h => by cases h; exact .nil
  | d :: ds, _, t, h => by
    simp only [tlAll, Bool.and_eq_true] at t
    cases h with
    | cons h1 h2 => exact .cons (dp_kt e d _ t.1 h1) (dpA_kt e ds _ t.2 h2)
end
end
/-! ### the reading as it stands in the heap -/
def LetV (lv : V) : Option (List Nat) → Prop
  | none => lv = .non
  | some l => lv = .str ⟨l.toArray⟩ ∧ l.length ≤ 7 ∧ ∀ c ∈ l, c ≤ 122
def DigV (H : Hp) (t : Addr) (as : List Addr) (dv : V) : Option (List Int) → Prop
  | none => dv = .non
  | some ds => ∃ q, dv = .ref q ∧ H q = some (.lst (ivs ds)) ∧ q ∉ as ∧ q ≠ t ∧ ds.length ≤ 2 ∧ ∀ z ∈ ds, 0 ≤ z ∧ z < 32
def Lists (K : PySem.W.Frag) (H : Hp) : List Addr → List (List PyData) → Prop
  | [], [] => True
  | a :: as, l :: ls => (∃ xs, H a = some (.lst xs) ∧ DpAll K H xs l) ∧ Lists K H as ls
  | _, _ => False
structure RA (K : PySem.W.Frag) (C : Addr) (B H : Hp) (r : Addr) (S : RS) (n : Nat) (dx t : Addr) (as : List Addr) (lv dv : V) : Prop where
  sm : Same B H
  fr : B r = none
  ft : B t = none
  fa : ∀ a ∈ as, B a = none
  hr : H r = some (.ins C dx [("stack", .ref t), ("letters", lv), ("digits", dv)])
  ht : H t = some (.lst (as.reverse.map V.ref))
  pa : Lists K H as S.stack
  nd : as.Nodup
  ta : t ∉ as
  lo : ∀ l ∈ S.stack, l.length ≤ n ∧ tlAll l = true
  ne : as ≠ []
  le : as.length ≤ 13
  lv : LetV lv S.letters
  dv : DigV H t as dv S.digits
def RAt (K : PySem.W.Frag) (C : Addr) (B H : Hp) (r : Addr) (S : RS) (n : Nat) : Prop := ∃ dx t as lv dv, RA K C B H r S n dx t as lv dv
theorem lists_len {K : PySem.W.Frag} {H : Hp} : ∀ {as : List Addr} {ls : List (List PyData)}, Lists K H as ls → as.length = ls.length
  | [], [], _ => rfl
  | a :: as, l :: ls, h => by simp [lists_len h.2]
  | [], _ :: _, h => h.elim
  | _ :: _, [], h => h.elim
theorem lists_move {K : PySem.W.Frag} {H H' : Hp} (k : Kt H H') : ∀ {as : List Addr} {ls : List (List PyData)}, (∀ a ∈ as, H' a = H a) → (∀ l ∈ ls, tlAll l = true) → Lists K H as ls → Lists K H' as ls
  | [], [], _, _, _ => True.intro
  | a :: as, l :: ls, e, t, h => by
    obtain ⟨⟨xs, h1, h2⟩, h3⟩ := h
    exact ⟨⟨xs, by rw [e a (by simp)]; exact h1, dpA_kt k l xs (t l (by simp)) h2⟩, lists_move k (fun b hb => e b (by simp [hb])) (fun m hm => t m (by simp [hm])) h3⟩
  | [], _ :: _, _, _, h => h.elim
  | _ :: _, [], _, _, h => h.elim
theorem dig_move {H H' : Hp} {t : Addr} {as : List Addr} {dv : V} {o : Option (List Int)} (h : DigV H t as dv o) (e : ∀ q xs, H q = some (.lst xs) → q ∉ as → q ≠ t → H' q = some (.lst xs)) : DigV H' t as dv o := by
  cases o with
  | none => exact h
  | some ds =>
    obtain ⟨q, h1, h2, h3, h4, h5⟩ := h
    exact ⟨q, h1, e q _ h2 h3 h4, h3, h4, h5⟩
section
variable {K : PySem.W.Frag} {C : Addr} {B H H' : Hp} {r : Addr} {S : RS} {n : Nat} {dx t : Addr} {as : List Addr} {lv dv : V}
theorem RA.rt (R : RA K C B H r S n dx t as lv dv) : r ≠ t := fun z => by
  have := R.hr
  rw [z, R.ht] at this
  cases this
theorem lists_at {as : List Addr} {ls : List (List PyData)} (h : Lists K H as ls) : ∀ a ∈ as, ∃ xs, H a = some (.lst xs) := by
  induction as generalizing ls with
  | nil => intro a ha; cases ha
  | cons b bs ih =>
    cases ls with
    | nil => exact h.elim
    | cons l ls =>
      intro a ha
      obtain ⟨⟨xs, h1, _⟩, h2⟩ := h
      rcases List.mem_cons.mp ha with rfl | ha
      · exact ⟨xs, h1⟩
      · exact ih h2 a ha
theorem RA.ra (R : RA K C B H r S n dx t as lv dv) : r ∉ as := fun z => by
  obtain ⟨xs, h⟩ := lists_at R.pa r z
  rw [R.hr] at h
  cases h
/-- the heap grows -/
theorem RA.ext (R : RA K C B H r S n dx t as lv dv) (e : Same H H') : RA K C B H' r S n dx t as lv dv :=
  { R with sm := R.sm.trans e, hr := e _ _ R.hr, ht := e _ _ R.ht,
           pa := lists_move (Kt.of e) (fun a ha => by obtain ⟨xs, h⟩ := lists_at R.pa a ha; rw [h]; exact e _ _ h) (fun l hl => (R.lo l hl).2) R.pa,
           dv := dig_move R.dv fun q xs h _ _ => e _ _ h }
theorem RA.more (R : RA K C B H r S n dx t as lv dv) {m : Nat} (h : n ≤ m) : RA K C B H r S m dx t as lv dv :=
  { R with lo := fun l hl => ⟨Nat.le_trans (R.lo l hl).1 h, (R.lo l hl).2⟩ }
theorem RA.same_r (R : RA K C B H r S n dx t as lv dv) (o : HO) : Same B (upd H r o) := fun b u h => by
  rw [upd_ne (fun z => by rw [z, R.fr] at h; cases h)]
  exact R.sm _ _ h
/-- a field of the reading is set: letters, digits -/
theorem RA.setR (R : RA K C B H r S n dx t as lv dv) {lv' dv' : V} {lo : Option (List Nat)} {dg : Option (List Int)} (hl : LetV lv' lo) (hd : DigV H t as dv' dg) :
    RA K C B (upd H r (.ins C dx [("stack", .ref t), ("letters", lv'), ("digits", dv')])) r { S with letters := lo, digits := dg } n dx t as lv' dv' :=
  { R with sm := R.same_r _, hr := upd_same, ht := by rw [upd_ne (Ne.symm R.rt)]; exact R.ht,
           pa := lists_move (kt_ins R.hr) (fun a ha => upd_ne fun z => R.ra (z ▸ ha)) (fun l hl => (R.lo l hl).2) R.pa,
           lv := hl,
           dv := dig_move hd fun q xs h _ _ => by rw [upd_ne (fun z => by rw [z, R.hr] at h; cases h)]; exact h }
/-- a thing is laid on the top list -/
theorem RA.put {a : Addr} {as' : List Addr} {l : List PyData} {ls : List (List PyData)} {xs : List V} {v : V} {d : PyData} (R : RA K C B H r S n dx t (a :: as') lv dv) (hS : S.stack = l :: ls) (ha : H a = some (.lst xs)) (hv : Dp K H v d) (td : tl d = true) :
    RA K C B (upd H a (.lst (xs ++ [v]))) r { S with stack := push S.stack d } (n + 1) dx t (a :: as') lv dv := by
  have pa := R.pa
  rw [hS] at pa
  obtain ⟨⟨xs', h1, h2⟩, h3⟩ := pa
  rw [ha] at h1
  cases h1
  have nda := List.nodup_cons.mp R.nd
  have tl_ := fun l' (hl : l' ∈ S.stack) => (R.lo l' hl).2
  rw [hS] at tl_
  have k := kt_lst (o := .lst (xs ++ [v])) ha
  have tal := tl_ l (by simp)
  refine { R with sm := fun b u h => ?_, hr := ?_, ht := ?_, pa := ?_, lo := ?_, dv := dig_move R.dv fun q ys h hq _ => ?_ }
  · rw [upd_ne (fun z => by rw [z, R.fa a (by simp)] at h; cases h)]
    exact R.sm _ _ h
  · rw [upd_ne (fun z => R.ra (by rw [z]; simp))]
    exact R.hr
  · rw [upd_ne (fun z => R.ta (by rw [z]; simp))]
    exact R.ht
  · show Lists K _ (a :: as') (push S.stack d)
    rw [hS]
    refine ⟨⟨_, upd_same, dpA_snoc (dpA_kt k l xs tal h2) (dp_kt k d v td hv)⟩, lists_move k (fun b hb => upd_ne fun z => nda.1 (z ▸ hb)) (fun m hm => tl_ m (by simp [hm])) h3⟩
  · show ∀ l' ∈ push S.stack d, _
    rw [hS]
    intro l' hl
    rcases List.mem_cons.mp hl with rfl | hl
    · have := (R.lo l (by rw [hS]; simp))
      refine ⟨by simp; omega, ?_⟩
      rw [tlAll_app, tal]
      simp [tlAll, td]
    · have := R.lo l' (by rw [hS]; simp [hl])
      exact ⟨by omega, this.2⟩
  · rw [upd_ne (fun z => hq (by rw [z]; simp))]
    exact h
/-- a new list is laid on the stack -/
theorem RA.openL {p : Addr} (R : RA K C B H r S n dx t as lv dv) (hp : H p = none) (hl : as.length ≤ 12) :
    RA K C B (upd (upd H p (.lst [])) t (.lst (as.reverse.map V.ref ++ [.ref p]))) r { S with stack := [] :: S.stack } n dx t (p :: as) lv dv := by
  have e1 : Same H (upd H p (.lst [])) := same_new hp _
  have R1 := R.ext e1
  have pt : p ≠ t := fun z => by rw [z, R.ht] at hp; cases hp
  have pas : p ∉ as := fun z => by obtain ⟨xs, h⟩ := lists_at R.pa p z; rw [h] at hp; cases hp
  have pB : B p = none := by
    cases h : B p with
    | none => rfl
    | some o => rw [R.sm _ _ h] at hp; cases hp
  have k := kt_lst (o := .lst (as.reverse.map V.ref ++ [.ref p])) R1.ht
  refine { R1 with sm := fun b u h => ?_, fa := ?_, hr := ?_, ht := ?_, pa := ?_, nd := List.nodup_cons.mpr ⟨pas, R.nd⟩, ta := ?_, lo := ?_, ne := by simp, le := by simp; omega, dv := ?_ }
  · rw [upd_ne (fun z => by rw [z, R.ft] at h; cases h)]
    exact R1.sm _ _ h
  · intro a ha
    rcases List.mem_cons.mp ha with rfl | ha
    · exact pB
    · exact R.fa a ha
  · rw [upd_ne R.rt]
    exact R1.hr
  · rw [upd_same]
    simp
  · refine ⟨⟨[], ?_, .nil⟩, lists_move k (fun a ha => upd_ne fun z => R.ta (z ▸ ha)) (fun l hl => (R.lo l hl).2) R1.pa⟩
    rw [upd_ne pt, upd_same]
  · intro z
    rcases List.mem_cons.mp z with z | z
    · exact pt z.symm
    · exact R.ta z
  · intro l hl
    rcases List.mem_cons.mp hl with rfl | hl
    · exact ⟨Nat.zero_le _, rfl⟩
    · exact R.lo l hl
  · have h1 := R.dv
    cases hS : S.digits with
    | none => rw [hS] at h1; exact h1
    | some ds =>
      rw [hS] at h1
      obtain ⟨q, a1, a2, a3, a4, a5⟩ := h1
      have qp : q ≠ p := fun z => by rw [z, hp] at a2; cases a2
      exact ⟨q, a1, by rw [upd_ne a4, upd_ne qp]; exact a2, fun z => (List.mem_cons.mp z).elim qp a3, a4, a5⟩
/-- the top list is closed to a tuple -/
theorem RA.closeL {a b p : Addr} {as' : List Addr} {l l2 : List PyData} {ls : List (List PyData)} {xs ys : List V} (R : RA K C B H r S n dx t (a :: b :: as') lv dv) (hS : S.stack = l :: l2 :: ls) (ha : H a = some (.lst xs)) (hb : H b = some (.lst ys))
    (hp : upd H t (.lst ((b :: as').reverse.map V.ref)) p = none) :
    RA K C B (upd (upd (upd H t (.lst ((b :: as').reverse.map V.ref))) p (.tup xs)) b (.lst (ys ++ [.ref p]))) r { S with stack := (l2 ++ [.tuple l]) :: ls } (n + 1) dx t (b :: as') lv dv := by
  have pa := R.pa
  rw [hS] at pa
  obtain ⟨⟨xs', h1, h2⟩, ⟨ys', h3, h4⟩, h5⟩ := pa
  rw [ha] at h1
  cases h1
  rw [hb] at h3
  cases h3
  have tl_ := fun l' (hl : l' ∈ S.stack) => (R.lo l' hl).2
  rw [hS] at tl_
  have lo_ := fun l' (hl : l' ∈ S.stack) => (R.lo l' hl).1
  rw [hS] at lo_
  have nda := List.nodup_cons.mp R.nd
  have k := kt_lst (o := .lst ((b :: as').reverse.map V.ref)) R.ht
  have at_ : t ∉ a :: b :: as' := R.ta
  have tb : t ∉ b :: as' := fun z => at_ (List.mem_cons_of_mem _ z)
  -- the stack without its top
  have R1 : RA K C B (upd H t (.lst ((b :: as').reverse.map V.ref))) r { S with stack := l2 :: ls } n dx t (b :: as') lv dv :=
    { R with sm := fun c u h => by rw [upd_ne (fun z => by rw [z, R.ft] at h; cases h)]; exact R.sm _ _ h
             fa := fun c hc => R.fa c (List.mem_cons_of_mem _ hc)
             hr := by rw [upd_ne R.rt]; exact R.hr
             ht := upd_same
             pa := lists_move k (fun c hc => upd_ne fun z => tb (z ▸ hc)) (fun m hm => tl_ m (List.mem_cons_of_mem _ hm)) ⟨⟨ys, hb, h4⟩, h5⟩
             nd := nda.2
             ta := tb
             lo := fun m hm => R.lo m (by rw [hS]; exact List.mem_cons_of_mem _ hm)
             ne := by simp
             le := by have := R.le; simp only [List.length_cons] at this ⊢; omega
             dv := by
               have h1 := R.dv
               cases hD : S.digits with
               | none => rw [hD] at h1; exact h1
               | some ds =>
                 rw [hD] at h1
                 obtain ⟨q, a1, a2, a3, a4, a5⟩ := h1
                 exact ⟨q, a1, by rw [upd_ne a4]; exact a2, fun z => a3 (List.mem_cons_of_mem _ z), a4, a5⟩ }
  have e1 : Same (upd H t (.lst ((b :: as').reverse.map V.ref))) (upd (upd H t (.lst ((b :: as').reverse.map V.ref))) p (.tup xs)) := same_new hp _
  have R2 := R1.ext e1
  have bt : b ≠ t := fun z => tb (by rw [← z]; simp)
  have hb2 : (upd (upd H t (.lst ((b :: as').reverse.map V.ref))) p (.tup xs)) b = some (.lst ys) := e1 _ _ (by rw [upd_ne bt]; exact hb)
  have hd : Dp K (upd (upd H t (.lst ((b :: as').reverse.map V.ref))) p (.tup xs)) (.ref p) (.tuple l) := .tup (SqT.of upd_same) (dpA_kt (k.trans (Kt.of e1)) l xs (tl_ l (by simp)) h2)
  exact R2.put (S := { S with stack := l2 :: ls }) rfl hb2 hd (by simp only [tl]; exact tl_ l (by simp))
end
end K17

set_option Elab.async false
set_option linter.all false
set_option maxRecDepth 100000
set_option maxHeartbeats 4000000
set_option autoImplicit false
namespace K17
open PySem PySem.Spec PyProof.Rows L2
/-! ### the dict PLAIN of the top -/
def plV (c : Int) : Option Value := if c = 29 then some .none else if c = 30 then some (.bool false) else if c = 31 then some (.bool true) else none
structure PlD (K : PySem.W.Frag) (mg : Str → Option Value) (a : Addr) : Prop where
  gl : mg "PLAIN" = some (.ref a)
  lw : (a == sysModules) = false
  at_ : ∃ (es : Array DictEntry) (n : Nat) (t1 t2 t3 t4 t5 : Tok), K.lookup a = some ⟨.type "dict", none, .dict es n, #[]⟩ ∧
    es.toList = [⟨hashInt 29, .int 29 t1, .none⟩, ⟨hashInt 30, .int 30 t2, .bool false⟩, ⟨hashInt 31, .int 31 t3, .bool true⟩, ⟨hashInt 32, .int 32 t4, .str "" t5⟩]
/-- what PLAIN holds, as values -/
def dataV : PyData → V
  | .none => .non
  | .bool b => .bl b
  | .int i => .int i
  | .str x => .str x
  | _ => .non
theorem plain_map {P : Program} {w : World} {K : PySem.W.Frag} {mg : Str → Option Value} {a : Addr} {h : Heap} (T : PlD K mg a) (X : K.In h) :
    ∃ f : Int → Option Value, h.MapOf (intKind P w) a f ∧ ∀ c, RelO ((plainOf c).map dataV) (f c) := by
  obtain ⟨es, n, t1, t2, t3, t4, t5, hl, he⟩ := T.at_
  refine ⟨fun k => findBy Value.isInt es k, ⟨_, es, n, X _ _ hl, ⟨rfl, rfl, rfl⟩, rfl, fun e hm => ?_, fun _ => rfl⟩, fun c => ?_⟩
  · have hm' : e ∈ es.toList := Array.mem_toList_iff.mpr hm
    rw [he] at hm'
    simp only [List.mem_cons, List.not_mem_nil, or_false] at hm'
    rcases hm' with rfl | rfl | rfl | rfl
    · exact ⟨29, intKind_is P w 29 t1, rfl⟩
    · exact ⟨30, intKind_is P w 30 t2, rfl⟩
    · exact ⟨31, intKind_is P w 31 t3, rfl⟩
    · exact ⟨32, intKind_is P w 32 t4, rfl⟩
  · obtain ⟨l⟩ := es
    have he' : l = _ := he
    subst he'
    have ef : ∀ l : List DictEntry, findBy Value.isInt ⟨l⟩ c = (l.find? fun e => Value.isInt c e.key).map (·.val) := fun l => by
      unfold findBy
      rw [← List.toArray, List.find?_toArray]
    show RelO _ (findBy Value.isInt _ c)
    rw [ef]
    unfold plainOf
    simp only [List.find?_cons, Value.isInt, List.find?_nil]
    by_cases h1 : c = 29
    · subst h1; exact (rfl : Value.none = Value.none)
    by_cases h2 : c = 30
    · subst h2; exact (rfl : Value.bool false = Value.bool false)
    by_cases h3 : c = 31
    · subst h3; exact (rfl : Value.bool true = Value.bool true)
    by_cases h4 : c = 32
    · subst h4; exact ⟨t5, rfl⟩
    have e1 : ((29 : Int) == c) = false := by simpa using fun z => h1 z.symm
    have e2 : ((30 : Int) == c) = false := by simpa using fun z => h2 z.symm
    have e3 : ((31 : Int) == c) = false := by simpa using fun z => h3 z.symm
    have e4 : ((32 : Int) == c) = false := by simpa using fun z => h4 z.symm
    rw [if_neg h1, if_neg h2, if_neg h3, if_neg h4]
    first
      | (simp only [e1, e2, e3, e4]; exact True.intro)
      | trivial
theorem relO_some {v : V} {o : Option Value} (h : RelO (some v) o) : ∃ u, o = some u ∧ RelV v u := by
  cases o with
  | none => exact h.elim
  | some u => exact ⟨u, rfl, h⟩
theorem relO_isSome {v : Option V} {o : Option Value} (h : RelO v o) : o.isSome = v.isSome := by
  cases v <;> cases o <;> first | rfl | exact h.elim
section
variable {X : Cx} {a : Addr} {o i : Expr} {td ty : TE} {pos : Pos}
theorem op_in_pl (T : PlD X.K X.mg a) : OpR X (compareOp .In) (fun x y H Q => ∃ c, x = .int c ∧ y = .ref a ∧ Q (.bl (plainOf c).isSome) H) := by
  intro pins s σ H x y v u Q I rx ry h
  obtain ⟨c, rfl, rfl, q⟩ := h
  obtain ⟨t, rfl⟩ := rx
  cases ry
  obtain ⟨f, hm, hf⟩ := plain_map (P := X.prog) (w := X.w) T I.kIn
  refine wpAny_in_of (intKind_is X.prog X.w c t) T.lw hm ?_
  refine ⟨.bl _, H, I.tok _, rfl, ?_⟩
  rw [relO_isSome (hf c), Option.isSome_map]
  exact q
/-- PLAIN[cell] -/
def tPl (a : Addr) (td ty : TE) : TE := fun σ H Q => td σ H fun x H1 => ty σ H1 fun y H2 => ∃ c d, x = .ref a ∧ y = .int c ∧ plainOf c = some d ∧ Q (dataV d) H2
theorem pe_pl (T : PlD X.K X.mg a) (ho : PE X o td) (hi : PE X i ty) (hs : NoSl i) : PE X (.Subscript o i pos) (tPl a td ty) := by
  refine ⟨fun pins s σ H Q I h => ?_⟩
  refine subD_of PySem.F.slot_dict_getitem.lookup hs (thn (ho.run pins s σ H _ I h) fun u s1 ⟨x, H1, I1, rx, q1⟩ => thn (hi.run pins s1 σ H1 _ I1 q1) fun iv s2 ⟨y, H2, I2, ry, c, d, ex, ey, g, q2⟩ => ?_)
  subst ex
  subst ey
  obtain rfl : u = Value.ref a := rx
  obtain ⟨t, rfl⟩ := ry
  obtain ⟨f, hm, hf⟩ := plain_map (P := X.prog) (w := X.w) T I2.kIn
  have hc := hf c
  rw [g] at hc
  obtain ⟨u, hu, ru⟩ := relO_some hc
  exact ⟨hm.typeIs, wpAny_getItem_of (intKind_is X.prog X.w c t) hm hu ⟨_, H2, I2.tok _, ru, q2⟩⟩
end
theorem plain_dp {K : PySem.W.Frag} {H : Hp} {c : Int} {d : PyData} (h : plainOf c = some d) : Dp K H (dataV d) d ∧ tl d = true := by
  unfold plainOf at h
  by_cases h1 : c = 29
  · rw [if_pos h1] at h; cases h; exact ⟨.non, rfl⟩
  by_cases h2 : c = 30
  · rw [if_neg h1, if_pos h2] at h; cases h; exact ⟨.bl _, rfl⟩
  by_cases h3 : c = 31
  · rw [if_neg h1, if_neg h2, if_pos h3] at h; cases h; exact ⟨.bl _, rfl⟩
  by_cases h4 : c = 32
  · rw [if_neg h1, if_neg h2, if_neg h3, if_pos h4] at h; cases h; exact ⟨.str _, by simp [tl]⟩
  · rw [if_neg h1, if_neg h2, if_neg h3, if_neg h4] at h; cases h
/-! ### the class Reading -/
abbrev RC (K : PySem.W.Frag) : Addr := He.ga K "Reading"
/-- a method of Reading -/
structure Mn (K : PySem.W.Frag) (d : He.DefD) (m : Str) : Prop where
  fn : ∃ fd, FunD K d.name d.qual d.params d.body d.scope [] [] (He.ma K (RC K) m) fd
  mt : Meth K (RC K) m (He.ma K (RC K) m)
structure RdT (K : PySem.W.Frag) (mg : Str → Option Value) : Prop where
  cl : Cls K (RC K)
  mkr : Mk K (RC K) (He.ma K (RC K) "__init__")
  n1 : NoAttr K (RC K) "stack"
  n2 : NoAttr K (RC K) "letters"
  n3 : NoAttr K (RC K) "digits"
  gl : mg "Reading" = some (.ref (RC K))
  fi : ∃ fd, FunD K dInit.name dInit.qual dInit.params dInit.body dInit.scope [] [] (He.ma K (RC K) "__init__") fd
  whole : Mn K dWhole "is_whole"
  takes : Mn K dTakes "takes"
  letter : Mn K dLetter "takes_letter"
  digit : Mn K dDigit "takes_digit"
  pl : ∃ a, PlD K mg a
/-- a method that may be called -/
structure CalM (P : Program) (w : World) (K : PySem.W.Frag) (mg : Str → Option Value) (base : Heap) (CX : CXT) (k : Nat) (m : Str) (sp : Sp) : Prop where
  ex : ∃ (fd : FuncData) (ps : List Str), FnOk P w K mg base CX k (He.ma K (RC K) m) fd ps sp ∧ Binds K fd ps []
  mt : Meth K (RC K) m (He.ma K (RC K) m)
  cl : Cls K (RC K)
theorem CalM.mono {P : Program} {w : World} {K : PySem.W.Frag} {mg : Str → Option Value} {base : Heap} {CX : CXT} {j k : Nat} {m : Str} {sp : Sp} (c : CalM P w K mg base CX j m sp) (h : j ≤ k) : CalM P w K mg base CX k m sp := by
  obtain ⟨fd, ps, F, r⟩ := c.ex
  exact ⟨⟨fd, ps, F.mono h, r⟩, c.mt, c.cl⟩
section
variable {X : Cx} {CX : CXT} {k j : Nat} {m : Str} {sp : Sp} {p pos apos : Pos} {o e : Expr} {es : List Expr} {to : TE} {t : TA} {E : XK}
theorem pe_m {pl : Sem Bool} (c : CalM X.prog X.w X.K X.mg X.base CX k m sp) (hr : Room j X.A) (hk : k ≤ j) (hx : Passes CX X E) (ho : PE X o to) (ha : PA X (e :: es) t)
    (hst : starEach (e :: es) X.env = (false, eval e X.env) :: starEach es X.env := by rfl) (hpl : (backTo pos (starEach es X.env)).any (·.1) = false := by rfl)
    (ht : eval (.Call (.Attribute o m apos) (e :: es) [] pos) X.env = (do
      let ov ← eval o X.env
      standAt apos.atName
      let (f, first) ← holding [ov] (getMethod ov m pl)
      callWith pos f first (backTo pos (starEach (e :: es) X.env)) (backToKw pos (keywordEach [] X.env))) := by rfl) :
    PE X (.Call (.Attribute o m apos) (e :: es) [] pos) (tMeth (RC X.K) m sp [] E to t) := by
  obtain ⟨fd, ps, F, b⟩ := c.ex
  exact pe_meth ho c.cl c.mt F (hr.mono hk) b .nil hx ha hst hpl ht
theorem pe_m0 {pl : Sem Bool} (c : CalM X.prog X.w X.K X.mg X.base CX k m sp) (hr : Room j X.A) (hk : k ≤ j) (hx : Passes CX X E) (ho : PE X o to)
    (ht : eval (.Call (.Attribute o m apos) [] [] pos) X.env = (do
      let ov ← eval o X.env
      standAt apos.atName
      let (f, first) ← holding [ov] (getMethod ov m pl)
      callWith pos f first (backTo pos (starEach [] X.env)) (backToKw pos (keywordEach [] X.env))) := by rfl) :
    PE X (.Call (.Attribute o m apos) [] [] pos) (tMeth (RC X.K) m sp [] E to tNil) := by
  obtain ⟨fd, ps, F, b⟩ := c.ex
  exact pe_meth0 ho c.cl c.mt F (hr.mono hk) b .nil hx ht
end
/-! ### is_whole -/
def spWhole (K : PySem.W.Frag) : Sp := fun vs H Q _ => ∃ (r : Addr) (B : Hp) (S : RS) (n : Nat), vs = [.ref r] ∧ RAt K (RC K) B H r S n ∧ ∀ H', Same H H' → RAt K (RC K) B H' r S n → Q (.bl (whole S)) H'
theorem sc_whole : FnScope ["self"] ["self"] dWhole.scope := ⟨rfl, rfl, rfl, by decide +kernel, rfl, by decide +kernel, by decide +kernel⟩
section
variable {P : Program} {w : World} {K : PySem.W.Frag} {mg : Str → Option Value} {base : Heap}
theorem tlAll_of {l : List PyData} (h : tlAll l = true) : (PyData.list l).canLay0 = true := by
  simp only [PyData.canLay0]
  exact tlAll_lay l h
theorem ok_whole (T : Tx K mg) (R : RdT K mg) : CalM P w K mg base CX0 1 "is_whole" (spWhole K) := by
  obtain ⟨fd, F⟩ := R.whole.fn
  refine ⟨⟨fd, ["self"], ?_, F.bindsN (ps := ["self"]) fun _ _ _ _ _ _ us hl => match us, hl with | [_], _ => rfl⟩, R.whole.mt, R.cl⟩
  refine F.ok sc_whole (fun vs H Q E h => ?_) (fun cdv A outer s H vs Q E hr h => ?_)
  · obtain ⟨r, B, S, n, rfl, _⟩ := h
    rfl
  obtain ⟨r, B, S, n, rfl, ⟨dx, t, as, lv, dv, ra⟩, q⟩ := h
  refine ⟨_, PSs.nox (pss_one (ps_ret (pe_and (pe_cmpR op_eq (pe_callB call_len_seq (by rfl) T.len PySem.boot_len (pa_cons (pe_fld (pv 0) rfl) pa_nil)) pe_int (nomark _))
    (pe_and (pe_cmpR (op_neC hr.units) (pe_ix ix_list (pe_fld (pv 0) rfl) pe_int (fun _ _ => rfl)) (pe_lst pa_nil) (nomark _))
    (pe_and (pe_cmp (pc_isN (pe_fld (pv 0) rfl))) (pe_one (pe_cmp (pc_isN (pe_fld (pv 0) rfl))))))))), ?_⟩
  refine ⟨_, rfl, r, _, _, _, _, rfl, ra.hr, R.cl, R.n1, rfl, _, _, rfl, .inl (SqL.of ra.ht), rfl, _, rfl, ?_⟩
  have hlen := lists_len ra.pa
  cases as with
  | nil => exact absurd rfl ra.ne
  | cons a as' =>
  cases as' with
  | cons b as'' =>
    have hw : whole S = false := by
      obtain ⟨st, le, di⟩ := S
      cases st with
      | nil => simp at hlen
      | cons l1 ls =>
        cases ls with
        | nil => simp at hlen
        | cons l2 ls => rfl
    rw [show decide (V.int (((a :: b :: as'').reverse.map V.ref).length : Nat) = V.int 1) = false from decide_eq_false fun z => by
      have := V.int.inj z
      simp at this
      omega]
    have q2 := q H (Same.refl H) ⟨dx, t, _, lv, dv, ra⟩
    rw [hw] at q2
    exact iteF q2
  | nil =>
    obtain ⟨st, le, di⟩ := S
    cases st with
    | nil => simp at hlen
    | cons l1 ls =>
    cases ls with
    | cons l2 ls => simp at hlen
    | nil =>
    obtain ⟨xs, h1, h2⟩ := ra.pa.1
    refine iteT ⟨_, rfl, r, _, _, _, _, rfl, ra.hr, R.cl, R.n1, rfl, _, _, _, _, rfl, rfl, SqL.of ra.ht, rfl, ?_⟩
    refine ⟨by rw [sizeLine_eq]; simp, fun p hp => ?_⟩
    have e1 : Same H (upd H p (.lst [])) := same_new hp _
    have ra1 := ra.ext e1
    refine ⟨.list l1, .list [], .lst (SqL.of (e1 _ _ h1)) (dpA_same e1 _ _ h2), dp_nil upd_same, tlAll_of (ra.lo l1 (by simp)).2, lay_nil, ?_, _, rfl, ?_⟩
    · have := depth_nil; omega
    rw [eqv_nil]
    have q2 := q _ e1 ⟨dx, t, _, lv, dv, ra1⟩
    cases hl : l1.isEmpty with
    | true =>
      have hw : whole ⟨[l1], le, di⟩ = false := by
        have : l1 = [] := by simpa using hl
        subst this
        cases le <;> cases di <;> rfl
      rw [hw] at q2
      exact iteF q2
    | false =>
      refine iteT ⟨_, rfl, r, _, _, _, _, rfl, ra1.hr, R.cl, R.n2, rfl, ?_⟩
      have hlv := ra.lv
      have hdv := ra.dv
      cases le with
      | some z =>
        obtain ⟨hz, _⟩ := hlv
        have hw : whole ⟨[l1], some z, di⟩ = false := by cases di <;> rfl
        rw [hw] at q2
        rw [hz]
        exact ⟨false, rfl, iteF q2⟩
      | none =>
        have hz : lv = .non := hlv
        refine ⟨true, by rw [hz]; rfl, iteT ⟨_, rfl, r, _, _, _, _, rfl, ra1.hr, R.cl, R.n3, rfl, ?_⟩⟩
        cases di with
        | none =>
          have hz2 : dv = .non := hdv
          have hw : whole ⟨[l1], none, none⟩ = true := by show (!l1.isEmpty) = true; rw [hl]; rfl
          rw [hw] at q2
          rw [hz2]
          exact q2
        | some ds =>
          obtain ⟨qa, hz2, _⟩ := hdv
          have hw : whole ⟨[l1], none, some ds⟩ = false := rfl
          rw [hw] at q2
          rw [hz2]
          exact q2
end
end K17

set_option Elab.async false
set_option linter.all false
set_option maxRecDepth 100000
set_option maxHeartbeats 4000000
set_option autoImplicit false
namespace K17
open PySem PySem.Spec PyProof.Rows L2
/-! ### takes_letter, takes_digit -/
def spLetter (K : PySem.W.Frag) : Sp := fun vs H Q _ => ∃ (r : Addr) (c : Int) (B : Hp) (S : RS) (n : Nat), vs = [.ref r, .int c] ∧ RAt K (RC K) B H r S n ∧ n < 500000 ∧ S.digits = none ∧
  match stepL S c with
  | some S' => ∀ H', RAt K (RC K) B H' r S' (n + 1) → Q (.bl true) H'
  | none => ∀ H', Same B H' → Q (.bl false) H'
abbrev nLetter : List Str := ["self", "cell", "letters"]
theorem sc_letter : FnScope nLetter ["self", "cell"] dLetter.scope := ⟨rfl, rfl, rfl, by decide +kernel, rfl, by decide +kernel, by decide +kernel⟩
theorem abc_at {k : Nat} (h : k < 26) : ABC.cps.toList[k]? = some (97 + k) := by
  rw [abc_list]
  simp [List.getElem?_range', h]
theorem str_app (l : List Nat) (c : Nat) : ((⟨l.toArray⟩ : Str) ++ (⟨#[c]⟩ : Str)) = ⟨(l ++ [c]).toArray⟩ := by
  show (⟨l.toArray ++ #[c]⟩ : Str) = _
  simp
theorem abc_len : ABC.length ≤ sizeLine := by rw [sizeLine_eq]; decide +kernel
theorem pe_imp {X : Cx} {e : Expr} {t t' : TE} (h : PE X e t) (f : ∀ σ H Q, t' σ H Q → t σ H Q) : PE X e t' := ⟨fun pins s σ H Q I q => h.run pins s σ H Q I (f σ H Q q)⟩
theorem pt_imp {X : Cx} {e : Expr} {t t' : TT} (h : PT X e t) (f : ∀ σ H Q, t' σ H Q → t σ H Q) : PT X e t' := ⟨fun pins s σ H Q I q => h.run pins s σ H Q I (f σ H Q q)⟩
/-- lo <= x <= hi -/
def tRng (i : Nat) (lo hi : Int) : TT := fun σ H Q => ∃ c, σ[i]? = some (some (.int c)) ∧ Q (decide (lo ≤ c ∧ c ≤ hi)) H
theorem tRng_ok {i : Nat} {lo hi : Int} {σ : L2.St} {H : Hp} {Q : Bool → Hp → Prop} (h : tRng i lo hi σ H Q) : tTest (tChain (rI0 fun i j => .bl (decide (i ≤ j))) (rI0 fun i j => .bl (decide (i ≤ j))) (tC (.int lo)) (tVar i) (tC (.int hi))) σ H Q := by
  obtain ⟨c, hc, q⟩ := h
  refine ⟨_, hc, _, _, rfl, rfl, _, rfl, ?_⟩
  by_cases h1 : lo ≤ c
  · rw [decide_eq_true h1]
    refine iteT ⟨_, _, rfl, rfl, _, rfl, ?_⟩
    rw [show decide (c ≤ hi) = decide (lo ≤ c ∧ c ≤ hi) by simp [h1]]
    exact q
  · rw [decide_eq_false h1]
    refine iteF ⟨false, rfl, ?_⟩
    rw [show decide (lo ≤ c ∧ c ≤ hi) = false by simp [h1]] at q
    exact q
/-- the letters that are waiting -/
def tLetters (K : PySem.W.Frag) : TE := fun σ H Q => ∃ r C dx t lv dv lo, σ[0]? = some (some (.ref r)) ∧ H r = some (.ins C dx [("stack", t), ("letters", lv), ("digits", dv)]) ∧ Cls K C ∧ NoAttr K C "letters" ∧ LetV lv lo ∧ Q (.str ⟨(lo.getD []).toArray⟩) H
theorem tLetters_ok {K : PySem.W.Frag} {σ : L2.St} {H : Hp} {Q : VK} (h : tLetters K σ H Q) : tIf (tB (tIsN (tFld K (tVar 0) "letters"))) (tC (.str "")) (tFld K (tVar 0) "letters") σ H Q := by
  obtain ⟨r, C, dx, t, lv, dv, lo, h0, hr, hc, hn, hl, q⟩ := h
  refine ⟨_, h0, r, _, _, _, _, rfl, hr, hc, hn, rfl, ?_⟩
  cases lo with
  | none =>
    have hz : lv = .non := hl
    exact ⟨true, by rw [hz]; rfl, iteT q⟩
  | some z =>
    have hz : lv = .str ⟨z.toArray⟩ := hl.1
    exact ⟨false, by rw [hz]; rfl, iteF ⟨_, h0, r, _, _, _, _, rfl, hr, hc, hn, rfl, by rw [hz]; exact q⟩⟩
def tShortL : TT := fun σ H Q => ∃ (c : Int) (l : List Nat), σ[1]? = some (some (.int c)) ∧ σ[2]? = some (some (.str ⟨l.toArray⟩)) ∧ l.length ≤ 7 ∧ Q (decide ((1 ≤ c ∧ c ≤ 26) ∧ l.length + 1 < 8)) H
theorem shortL_ok {σ : L2.St} {H : Hp} {Q : Bool → Hp → Prop} (h : tShortL σ H Q) : tAnd (tTest (tChain (rI0 fun i j => .bl (decide (i ≤ j))) (rI0 fun i j => .bl (decide (i ≤ j))) (tC (.int 1)) (tVar 1) (tC (.int 26))))
    (tTest (tOp (rI0 fun i j => .bl (decide (i < j))) (tOp (rI0 fun i j => .int (i + j)) (tCB (fun xs H Q => ∃ z, xs = [.str z] ∧ z.length ≤ sizeLine ∧ Q (.int z.length) H) (tCons (tVar 2) tNil)) (tC (.int 1))) (tC (.int 8)))) σ H Q := by
  obtain ⟨c, l, h1, h2, hl, q⟩ := h
  refine tRng_ok ⟨c, h1, ?_⟩
  have hx : (⟨l.toArray⟩ : Str).length = l.length := by simp [Str.length]
  by_cases hc : 1 ≤ c ∧ c ≤ 26
  · rw [decide_eq_true hc]
    refine iteT ⟨_, h2, _, rfl, by rw [hx]; exact line60 (by omega), _, _, rfl, rfl, _, _, rfl, rfl, _, rfl, ?_⟩
    rw [show decide (((⟨l.toArray⟩ : Str).length : Int) + 1 < 8) = decide ((1 ≤ c ∧ c ≤ 26) ∧ l.length + 1 < 8) by rw [hx]; simp only [hc, true_and]; exact decide_eq_decide.mpr (by omega)]
    exact q
  · rw [decide_eq_false hc]
    refine iteF ?_
    rw [show decide ((1 ≤ c ∧ c ≤ 26) ∧ l.length + 1 < 8) = false by simp [hc]] at q
    exact q
section
variable {P : Program} {w : World} {K : PySem.W.Frag} {mg : Str → Option Value} {base : Heap}
theorem ok_letter (T : Tx K mg) (R : RdT K mg) : CalM P w K mg base CX0 1 "takes_letter" (spLetter K) := by
  obtain ⟨fd, F⟩ := R.letter.fn
  refine ⟨⟨fd, ["self", "cell"], ?_, F.bindsN (ps := ["self", "cell"]) fun _ _ _ _ _ _ us hl => match us, hl with | [_, _], _ => rfl⟩, R.letter.mt, R.cl⟩
  refine F.ok sc_letter (fun vs H Q E h => ?_) (fun cdv A outer s H vs Q E hr h => ?_)
  · obtain ⟨r, c, B, S, n, rfl, _⟩ := h
    rfl
  obtain ⟨r, c, B, S, n, rfl, ⟨dx, t, as, lv, dv, ra⟩, hn, hdi, q⟩ := h
  have nd' := sc_letter.nd
  refine ⟨_, PSs.nox (pss_cons (ps_set (i := 2) nd' rfl (.inl rfl) (pe_imp (pe_ifExp (pt_cmp (pc_isN (pe_fld (pv 0) rfl))) pe_str (pe_fld (pv 0) rfl)) fun _ _ _ => tLetters_ok))
    (pss_cons (ps_if (pt_imp (t' := tShortL) (PW.pt (pw_and (pt_chain op_le op_le pe_int (pv 1) pe_int) (pw_and1 (pt_cmpR op_lt (pe_op op_add (pe_callB call_len_str (by rfl) T.len PySem.boot_len (pa_cons (pv 2) pa_nil)) pe_int) (pe_mg (mg_int T.lets)) (nomark _))))) fun σ H Q => shortL_ok)
      (pss_cons (ps_fld (pv 0) (pe_op op_add_str (pv 2) (pe_ix ix_str (pe_mg (mg_str T.abc)) (pe_op op_sub (pv 1) pe_int) (fun _ _ => rfl))) rfl) (pss_one (ps_ret pe_bl))) pss_nil)
    (pss_cons (ps_if (pt_imp (pt_chain op_le op_le pe_int (pv 1) pe_int) fun _ _ _ => tRng_ok)
      (pss_cons (ps_expr (pe_bm PySem.F.plainAttrs_list PySem.F.slot_list_append PySem.F.type_list_append mt_append (pe_ix ix_list (pe_fld (pv 0) rfl) (pe_un un_neg pe_int) (fun _ _ => rfl)) (pa_cons (pe_op op_add_str (pv 2) (pe_ix ix_str (pe_mg (mg_str T.abc)) (pe_op op_sub (pv 1) pe_int) (fun _ _ => rfl))) pa_nil)))
      (pss_cons (ps_fld (pv 0) pe_non rfl) (pss_one (ps_ret pe_bl)))) pss_nil)
    (pss_one (ps_ret pe_bl))))), ?_⟩
  obtain ⟨st, le, di⟩ := S
  cases hdi
  refine ⟨r, _, _, _, _, _, le, rfl, ra.hr, R.cl, R.n2, ra.lv, ?_⟩
  generalize hL : le.getD [] = L
  have hL7 : L.length ≤ 7 ∧ ∀ x ∈ L, x ≤ 122 := by
    have := ra.lv
    cases le with
    | none => subst hL; exact ⟨by simp, by simp⟩
    | some z => subst hL; exact this.2
  have hxl : (⟨L.toArray⟩ : Str).length = L.length := by simp [Str.length]
  simp only [stepL, hL] at q
  refine ⟨c, L, rfl, rfl, hL7.1, ?_⟩
  by_cases c1 : (1 ≤ c ∧ c ≤ 26) ∧ L.length + 1 < 8
  · rw [decide_eq_true c1]
    rw [if_pos c1] at q
    obtain ⟨k, rfl⟩ : ∃ k : Nat, c = (k : Int) + 1 := ⟨(c - 1).toNat, by omega⟩
    refine iteT ⟨_, rfl, _, rfl, _, _, rfl, rfl, ABC, _, 97 + k, rfl, rfl, abc_len, ?_, _, _, rfl, rfl, ?_, _, rfl, r, _, _, _, rfl, ra.hr, R.cl, R.n2, by simp, ?_⟩
    · rw [show ((k : Int) + 1 - 1) = (k : Int) by omega]
      exact atI_nat (abc_at (by omega))
    · rw [hxl, sizeLine_eq]
      have : (⟨#[97 + k]⟩ : Str).length = 1 := rfl
      omega
    · rw [str_app]
      have e : ((k : Int) + 1 + 96).toNat = 97 + k := by omega
      rw [e] at q
      refine q _ ⟨dx, t, as, _, dv, (ra.setR (lo := some (L ++ [97 + k])) (dg := none) (lv' := .str ⟨(L ++ [97 + k]).toArray⟩) (dv' := dv) ⟨rfl, by simp; omega, fun x hx => ?_⟩ ra.dv).more (Nat.le_succ _)⟩
      rcases List.mem_append.mp hx with h | h
      · exact hL7.2 x h
      · have : x = 97 + k := by simpa using h
        omega
  · rw [decide_eq_false c1]
    rw [if_neg c1] at q
    refine iteF ⟨c, rfl, ?_⟩
    by_cases c2 : 33 ≤ c ∧ c ≤ 58
    · rw [decide_eq_true c2]
      rw [if_pos c2] at q
      obtain ⟨k, rfl⟩ : ∃ k : Nat, c = (k : Int) + 33 := ⟨(c - 33).toNat, by omega⟩
      obtain ⟨a, as', rfl⟩ : ∃ a as', as = a :: as' := by
        cases as with
        | nil => exact absurd rfl ra.ne
        | cons a as' => exact ⟨a, as', rfl⟩
      obtain ⟨l, ls, hS⟩ : ∃ l ls, st = l :: ls := by
        have := lists_len ra.pa
        cases st with
        | nil => simp at this
        | cons l ls => exact ⟨l, ls, rfl⟩
      subst hS
      obtain ⟨xs, ha, hxs⟩ := ra.pa.1
      have hlast : atI ((a :: as').reverse.map V.ref) (-1) = some (V.ref a) := by
        rw [List.reverse_cons, List.map_append]
        exact atI_last _ _
      have hlen : xs.length < sizeLine := by
        have h1 := dpA_len hxs
        have h2 := (ra.lo l (by simp)).1
        rw [sizeLine_eq]
        omega
      refine iteT ⟨_, rfl, r, _, _, _, _, rfl, ra.hr, R.cl, R.n1, rfl, _, rfl, _, _, _, _, rfl, rfl, SqL.of ra.ht, hlast, .inl ⟨rfl, _, SqL.of ha⟩, _, rfl, _, rfl, _, _, rfl, rfl, ABC, _, 97 + k, rfl, rfl, abc_len, ?_, _, _, rfl, rfl, ?_, a, xs, _, rfl, rfl, ha, hlen, ?_⟩
      · rw [show ((k : Int) + 33 - 33) = (k : Int) by omega]
        exact atI_nat (abc_at (by omega))
      · rw [hxl, sizeLine_eq]
        have : (⟨#[97 + k]⟩ : Str).length = 1 := rfl
        omega
      · have e : ((k : Int) + 33 + 64).toNat = 97 + k := by omega
        rw [e] at q
        rw [str_app]
        have rp := ra.put (d := .str ⟨(L ++ [97 + k]).toArray⟩) (v := .str ⟨(L ++ [97 + k]).toArray⟩) rfl ha (.str _) (by
          simp only [tl, List.all_eq_true, decide_eq_true_eq]
          intro x hx
          have hx' : x ∈ L ∨ x = 97 + k := by simpa using hx
          rcases hx' with h | h
          · exact hL7.2 x h
          · omega)
        refine ⟨_, rfl, r, _, _, _, rfl, rp.hr, R.cl, R.n2, by simp, ?_⟩
        exact q _ ⟨dx, t, _, _, _, rp.setR (lo := none) (dg := none) (lv' := .non) (dv' := dv) rfl rp.dv⟩
    · rw [decide_eq_false c2]
      rw [if_neg c2] at q
      exact iteF (q H ra.sm)
/-! ### takes_digit -/
def spDigit (K : PySem.W.Frag) : Sp := fun vs H Q _ => ∃ (r : Addr) (c : Int) (B : Hp) (S : RS) (n : Nat) (ds : List Int), vs = [.ref r, .int c] ∧ RAt K (RC K) B H r S n ∧ n < 500000 ∧ 0 ≤ c ∧ c < 64 ∧ S.digits = some ds ∧
  match stepD S ds c with
  | some S' => ∀ H', RAt K (RC K) B H' r S' (n + 1) → Q (.bl true) H'
  | none => ∀ H', Same B H' → Q (.bl false) H'
abbrev nDigit : List Str := ["self", "cell", "number", "digit"]
theorem sc_digit : FnScope nDigit ["self", "cell"] dDigit.scope := ⟨rfl, rfl, rfl, by decide +kernel, rfl, by decide +kernel, by decide +kernel⟩
theorem dpA_ivs {K : PySem.W.Frag} {H : Hp} : ∀ l : List Int, DpAll K H (ivs l) (l.map PyData.int)
  | [] => .nil
  | i :: r => .cons (.int i) (dpA_ivs r)
theorem lay_ints (l : List Int) : (PyData.list (l.map PyData.int)).canLay0 = true := lay_list fun d hd => by
  obtain ⟨i, _, rfl⟩ := List.mem_map.mp hd
  simp [PyData.canLay0]
theorem numOf_snoc (l : List Int) (a : Int) : numOf (l ++ [a]) = numOf l * 32 + a := by simp [numOf, List.foldl_append]
/-- enough digits, or a nought in front -/
def tDgT (K : PySem.W.Frag) : TT := fun σ H Q => ∃ (r : Addr) (c : Int) (B : Hp) (S : RS) (n : Nat) (ds : List Int), σ[0]? = some (some (.ref r)) ∧ σ[1]? = some (some (.int c)) ∧ RAt K (RC K) B H r S n ∧ S.digits = some ds ∧
  ∀ H', Same H H' → RAt K (RC K) B H' r S n → Q (decide (3 ≤ ds.length + 1 ∨ (ds = [] ∧ c = 32))) H'
theorem ok_digit (T : Tx K mg) (R : RdT K mg) : CalM P w K mg base CX0 1 "takes_digit" (spDigit K) := by
  obtain ⟨fd, F⟩ := R.digit.fn
  refine ⟨⟨fd, ["self", "cell"], ?_, F.bindsN (ps := ["self", "cell"]) fun _ _ _ _ _ _ us hl => match us, hl with | [_, _], _ => rfl⟩, R.digit.mt, R.cl⟩
  refine F.ok sc_digit (fun vs H Q E h => ?_) (fun cdv A outer s H vs Q E hr h => ?_)
  · obtain ⟨r, c, B, S, n, ds, rfl, _⟩ := h
    rfl
  obtain ⟨r, c, B, S, n, ds, rfl, hRA, hn, c0, c64, hdi, q⟩ := h
  have nd' := sc_digit.nd
  refine ⟨_, PSs.nox (pss_cons (ps_if (pt_cmpR op_ge (pv 1) pe_int (nomark _))
      (pss_cons (ps_if (pt_imp (t' := tDgT K) (PW.pt (pw_or (pt_cmpR op_ge (pe_op op_add (pe_callB call_len_seq (by rfl) T.len PySem.boot_len (pa_cons (pe_fld (pv 0) rfl) pa_nil)) pe_int) (pe_mg (mg_int T.digs)) (nomark _))
          (pw_or1 (PW.pt (pw_and (pt_cmpR (op_eqC hr.units) (pe_fld (pv 0) rfl) (pe_lst pa_nil) (nomark _)) (pw_and1 (pt_cmpR op_eq (pv 1) pe_int (nomark _)))))))) fun σ H Q h => by
            obtain ⟨r, c, B, S, n, ds, h0, h1, ⟨dx, t, as, lv, dv, ra⟩, hdi, q⟩ := h
            have hdv := ra.dv
            rw [hdi] at hdv
            obtain ⟨qa, rfl, hq, hqas, hqt, hl2, hrng⟩ := hdv
            refine ⟨_, h0, r, _, _, _, _, rfl, ra.hr, R.cl, R.n3, rfl, _, _, rfl, .inl (SqL.of hq), _, _, rfl, rfl, _, _, rfl, rfl, _, rfl, ?_⟩
            by_cases h3 : 3 ≤ ds.length + 1
            · rw [show decide ((((ivs ds).length : Nat) : Int) + 1 ≥ 3) = true from decide_eq_true (by rw [ivs_len]; omega)]
              have q2 := q H (Same.refl H) ⟨dx, t, as, lv, _, ra⟩
              rw [decide_eq_true (Or.inl h3)] at q2
              exact iteT q2
            · rw [show decide ((((ivs ds).length : Nat) : Int) + 1 ≥ 3) = false from decide_eq_false (by rw [ivs_len]; omega)]
              refine iteF ⟨_, h0, r, _, _, _, _, rfl, ra.hr, R.cl, R.n3, rfl, by rw [sizeLine_eq]; simp, fun p hp => ?_⟩
              have e1 : Same H (upd H p (.lst [])) := same_new hp _
              have q2 := q _ e1 ⟨dx, t, as, lv, _, ra.ext e1⟩
              refine ⟨_, _, .lst (SqL.of (e1 _ _ hq)) (dpA_ivs ds), dp_nil upd_same, lay_ints ds, lay_nil, by have := depth_nil; omega, _, rfl, ?_⟩
              rw [eqv_nil]
              cases ds with
              | cons z zs =>
                rw [show decide (3 ≤ (z :: zs).length + 1 ∨ (z :: zs = [] ∧ c = 32)) = false from decide_eq_false (fun y => y.elim h3 fun y => nomatch y.1)] at q2
                exact iteF q2
              | nil =>
                refine iteT ⟨_, h1, rfl, _, rfl, ?_⟩
                rw [show decide (3 ≤ ([] : List Int).length + 1 ∨ (([] : List Int) = [] ∧ c = 32)) = decide (V.int c = V.int 32) from decide_eq_decide.mpr ⟨fun y => y.elim (fun y => absurd y (by decide)) (fun y => by rw [y.2]), fun y => .inr ⟨rfl, V.int.inj y⟩⟩] at q2
                exact q2) (pss_one (ps_ret pe_bl)) pss_nil)
      (pss_cons (ps_fld (pv 0) (pe_op op_cat (pe_fld (pv 0) rfl) (pe_lst (pa_cons (pe_op op_sub (pv 1) pe_int) pa_nil))) rfl) (pss_one (ps_ret pe_bl)))) pss_nil)
    (pss_cons (ps_set (i := 2) nd' rfl (.inl rfl) pe_int)
    (pss_cons (ps_for PassesOwn.never rfl (pi_list (pe_op op_cat (pe_fld (pv 0) rfl) (pe_lst (pa_cons (pv 1) pa_nil)))) (pg_name (i := 3) nd' rfl (Or.inl rfl)) (pss_one (ps_set (i := 2) nd' rfl (.inl rfl) (pe_op op_add (pe_op op_mul (pv 2) pe_int) (pv 3)))))
    (pss_cons (ps_expr (pe_bm PySem.F.plainAttrs_list PySem.F.slot_list_append PySem.F.type_list_append mt_append (pe_ix ix_list (pe_fld (pv 0) rfl) (pe_un un_neg pe_int) (fun _ _ => rfl)) (pa_cons (pv 2) pa_nil)))
    (pss_cons (ps_fld (pv 0) pe_non rfl) (pss_one (ps_ret pe_bl))))))), ?_⟩
  refine ⟨_, rfl, _, _, rfl, rfl, _, rfl, ?_⟩
  simp only [stepD] at q
  by_cases h32 : 32 ≤ c
  · rw [show decide (c ≥ 32) = true from decide_eq_true h32]
    rw [if_pos h32] at q
    refine iteT ⟨r, c, B, S, n, ds, rfl, rfl, hRA, hdi, fun H1 e1 hRA1 => ?_⟩
    by_cases h3 : 3 ≤ ds.length + 1 ∨ (ds = [] ∧ c = 32)
    · rw [decide_eq_true h3]
      rw [if_pos h3] at q
      obtain ⟨dx, t, as, lv, dv, ra⟩ := hRA1
      exact iteT (q H1 ra.sm)
    · rw [decide_eq_false h3]
      rw [if_neg h3] at q
      obtain ⟨dx, t, as, lv, dv, ra⟩ := hRA1
      have hdv := ra.dv
      rw [hdi] at hdv
      obtain ⟨qa, rfl, hq, hqas, hqt, hl2, hrng⟩ := hdv
      refine iteF ⟨_, rfl, r, _, _, _, _, rfl, ra.hr, R.cl, R.n3, rfl, _, rfl, _, _, rfl, rfl, one_line, fun p1 hp1 => ?_⟩
      have n1 : qa ≠ p1 := ne_of_none hq hp1
      refine ⟨qa, p1, _, _, rfl, rfl, by rw [upd_ne n1]; exact hq, upd_same, ?_, fun p2 hp2 => ?_⟩
      · rw [ivs_len, sizeLine_eq]
        simp only [List.length_cons, List.length_nil]
        omega
      have e2 := (same_new hp1 (.lst [V.int (c - 32)])).trans (same_new hp2 (.lst (ivs ds ++ [V.int (c - 32)])))
      have ra2 := ra.ext e2
      refine ⟨_, rfl, r, _, _, _, rfl, ra2.hr, R.cl, R.n3, by simp, ?_⟩
      have hp2t : p2 ≠ t := fun z => by rw [z, (same_new hp1 _) _ _ ra.ht] at hp2; cases hp2
      have hp2as : p2 ∉ as := fun z => by
        obtain ⟨xs, h⟩ := lists_at ra.pa p2 z
        rw [(same_new hp1 _) _ _ h] at hp2
        cases hp2
      refine q _ ⟨dx, t, as, lv, .ref p2, (ra2.setR (lo := S.letters) (dg := some (ds ++ [c - 32])) ra2.lv ⟨p2, rfl, by rw [upd_same, ivs_app]; rfl, hp2as, hp2t, ?_, fun z hz => ?_⟩).more (Nat.le_succ _)⟩
      · simp only [List.length_append, List.length_cons, List.length_nil]
        omega
      · rcases List.mem_append.mp hz with h | h
        · exact hrng z h
        · have : z = c - 32 := by simpa using h
          omega
  · rw [show decide (c ≥ 32) = false from decide_eq_false h32]
    rw [if_neg h32] at q
    obtain ⟨dx, t, as, lv, dv, ra⟩ := hRA
    have hdv := ra.dv
    rw [hdi] at hdv
    obtain ⟨qa, rfl, hq, hqas, hqt, hl2, hrng⟩ := hdv
    refine iteF ⟨_, rfl, r, _, _, _, _, rfl, ra.hr, R.cl, R.n3, rfl, _, rfl, one_line, fun p1 hp1 => ?_⟩
    have n1 : qa ≠ p1 := ne_of_none hq hp1
    refine ⟨qa, p1, _, _, rfl, rfl, by rw [upd_ne n1]; exact hq, upd_same, ?_, fun p2 hp2 => ?_⟩
    · rw [ivs_len, sizeLine_eq]
      simp only [List.length_cons, List.length_nil]
      omega
    have e2 := (same_new hp1 (.lst [V.int c])).trans (same_new hp2 (.lst (ivs ds ++ [V.int c])))
    have ra2 := ra.ext e2
    have hl : upd (upd H p1 (.lst [V.int c])) p2 (.lst (ivs ds ++ [V.int c])) p2 = some (.lst (ivs (ds ++ [c]))) := by rw [upd_same, ivs_app]; rfl
    generalize hH2 : upd (upd H p1 (.lst [V.int c])) p2 (.lst (ivs ds ++ [V.int c])) = H2 at *
    have all32 : ∀ z ∈ ds ++ [c], 0 ≤ z ∧ z < 32 := fun z hz => by
      rcases List.mem_append.mp hz with h | h
      · exact hrng z h
      · have : z = c := by simpa using h
        omega
    refine ⟨p2, rfl, ⟨_, SqL.of hl⟩, ?_⟩
    refine for_list (K := K) (a := p2) (xs := ivs (ds ++ [c])) (fun i σ H' => H' = H2 ∧ σ[0]? = some (some (.ref r)) ∧ (∃ z, σ[3]? = some z) ∧ σ[2]? = some (some (.int (numOf ((ds ++ [c]).take i)))) ∧ 0 ≤ numOf ((ds ++ [c]).take i) ∧ numOf ((ds ++ [c]).take i) < 32 ^ i)
      ⟨rfl, rfl, ⟨_, rfl⟩, rfl, by simp [numOf], by simp [numOf]⟩ (fun i σ H' _ ⟨e, _⟩ => by rw [e]; exact SqL.of hl) (fun i x σ H' hx ⟨e, s0, ⟨z3, s3⟩, s2, b0, b1⟩ => ?_) (fun σ H' ⟨e, s0, _, s2, _⟩ => ?_)
    · subst e
      obtain ⟨y, hy, rfl⟩ : ∃ y, (ds ++ [c])[i]? = some y ∧ x = .int y := by
        unfold ivs at hx
        rw [List.getElem?_map] at hx
        cases h : (ds ++ [c])[i]? with
        | none => rw [h] at hx; cases hx
        | some y => rw [h] at hx; exact ⟨y, rfl, (Option.some.inj hx).symm⟩
      have hi : i < 3 := by
        have := (List.getElem?_eq_some_iff.mp hy).1
        simp only [List.length_append, List.length_cons, List.length_nil] at this
        omega
      have hy32 := all32 y (List.mem_of_getElem? hy)
      have hpow : (32 : Int) ^ i ≤ 1024 := by
        rcases i with _ | _ | _ | i <;> first | decide | omega
      refine ⟨_, (set_other (by decide)).trans s2, _, _, rfl, rfl, .inl ⟨by omega, by omega⟩, _, set_get s3, _, _, rfl, rfl, rfl, (set_other (by decide)).trans ((set_other (by decide)).trans s0), ⟨_, (set_other (by decide)).trans (set_get s3)⟩, ?_, ?_, ?_⟩
      · rw [set_get ((set_other (by decide)).trans s2), ← take_snoc hy, numOf_snoc]
      · rw [← take_snoc hy, numOf_snoc]; omega
      · rw [← take_snoc hy, numOf_snoc, Int.pow_succ]; omega
    · subst e
      rw [ivs_len, List.take_length] at s2
      obtain ⟨a, as', rfl⟩ : ∃ a as', as = a :: as' := by
        cases as with
        | nil => exact absurd rfl ra.ne
        | cons a as' => exact ⟨a, as', rfl⟩
      obtain ⟨st, le, di⟩ := S
      obtain ⟨l, ls, hS⟩ : ∃ l ls, st = l :: ls := by
        have := lists_len ra.pa
        cases st with
        | nil => simp at this
        | cons l ls => exact ⟨l, ls, rfl⟩
      subst hS
      obtain ⟨xs, ha, hxs⟩ := ra2.pa.1
      have hlast : atI ((a :: as').reverse.map V.ref) (-1) = some (V.ref a) := by
        rw [List.reverse_cons, List.map_append]
        exact atI_last _ _
      have hlen : xs.length < sizeLine := by
        have h1 := dpA_len hxs
        have h2 := (ra.lo l (by simp)).1
        rw [sizeLine_eq]
        omega
      have rp := ra2.put (d := .int (numOf (ds ++ [c]))) (v := .int (numOf (ds ++ [c]))) rfl ha (.int _) rfl
      refine ⟨_, s0, r, _, _, _, _, rfl, ra2.hr, R.cl, R.n1, rfl, _, rfl, _, _, _, _, rfl, rfl, SqL.of ra2.ht, hlast, .inl ⟨rfl, _, SqL.of ha⟩, _, s2, a, xs, _, rfl, rfl, ha, hlen, ?_⟩
      refine ⟨_, s0, r, _, _, _, rfl, rp.hr, R.cl, R.n3, by simp, ?_⟩
      exact q _ ⟨dx, t, _, _, _, rp.setR (lo := le) (dg := none) (lv' := lv) (dv' := .non) rp.lv rfl⟩
end
end K17

set_option Elab.async false
set_option linter.all false
set_option maxRecDepth 100000
set_option maxHeartbeats 4000000
set_option autoImplicit false
namespace K17
open PySem PySem.Spec PyProof.Rows L2
/-! ### takes -/
def spTakes (K : PySem.W.Frag) : Sp := fun vs H Q _ => ∃ (r : Addr) (c : Int) (B : Hp) (S : RS) (n : Nat), vs = [.ref r, .int c] ∧ RAt K (RC K) B H r S n ∧ n < 500000 ∧ 0 ≤ c ∧ c < 64 ∧
  match step S c with
  | some S' => ∀ H', RAt K (RC K) B H' r S' (n + 1) → Q (.bl true) H'
  | none => ∀ H', Same B H' → Q (.bl false) H'
/-- a letter's cell, or letters that wait -/
def tLetT (K : PySem.W.Frag) : TT := fun σ H Q => ∃ (r : Addr) (c : Int) (B : Hp) (S : RS) (n : Nat), σ[0]? = some (some (.ref r)) ∧ σ[1]? = some (some (.int c)) ∧ RAt K (RC K) B H r S n ∧ Q (decide (S.letters.isSome = true ∨ isLet c)) H
abbrev nTakes : List Str := ["self", "cell", "done"]
theorem sc_takes : FnScope nTakes ["self", "cell"] dTakes.scope := ⟨rfl, rfl, rfl, by decide +kernel, rfl, by decide +kernel, by decide +kernel⟩
section
variable {P : Program} {w : World} {K : PySem.W.Frag} {mg : Str → Option Value} {base : Heap}
theorem ok_takes (T : Tx K mg) (R : RdT K mg) (cW : CalM P w K mg base CX0 1 "is_whole" (spWhole K)) (cL : CalM P w K mg base CX0 1 "takes_letter" (spLetter K)) (cD : CalM P w K mg base CX0 1 "takes_digit" (spDigit K)) : CalM P w K mg base CX0 2 "takes" (spTakes K) := by
  obtain ⟨fd, F⟩ := R.takes.fn
  refine ⟨⟨fd, ["self", "cell"], ?_, F.bindsN (ps := ["self", "cell"]) fun _ _ _ _ _ _ us hl => match us, hl with | [_, _], _ => rfl⟩, R.takes.mt, R.cl⟩
  refine F.ok sc_takes (fun vs H Q E h => ?_) (fun cdv A outer s H vs Q E hr h => ?_)
  · obtain ⟨r, c, B, S, n, rfl, _⟩ := h
    rfl
  obtain ⟨r, c, B, S, n, rfl, hRA, hn, c0, c64, q⟩ := h
  obtain ⟨pa, PL⟩ := R.pl
  have nd' := sc_takes.nd
  have hpl : ∃ u, mg "PLAIN" = some u ∧ RelV (.ref pa) u := ⟨_, PL.gl, rfl⟩
  refine ⟨_, PSs.nox (pss_cons (ps_if (pt_cmp (pc_notN (pe_fld (pv 0) rfl))) (pss_one (ps_ret (pe_m cD hr (by decide) pass0 (pv 0) (pa_cons (pv 1) pa_nil)))) pss_nil)
    (pss_cons (ps_if (pt_imp (t' := tLetT K) (PW.pt (pw_or (pt_cmp (pc_notN (pe_fld (pv 0) rfl))) (pw_or (pt_imp (pt_chain op_le op_le pe_int (pv 1) pe_int) fun _ _ _ => tRng_ok) (pw_or1 (pt_imp (pt_chain op_le op_le pe_int (pv 1) pe_int) fun _ _ _ => tRng_ok))))) fun σ H Q h => by
        obtain ⟨r, c, B, S, n, h0, h1, ⟨dx, t, as, lv, dv, ra⟩, q⟩ := h
        refine ⟨_, h0, r, _, _, _, _, rfl, ra.hr, R.cl, R.n2, rfl, ?_⟩
        have hlv := ra.lv
        cases hS : S.letters with
        | some z =>
          rw [hS] at hlv q
          rw [hlv.1]
          refine ⟨true, rfl, iteT ?_⟩
          rw [show decide ((some z).isSome = true ∨ isLet c) = true from decide_eq_true (Or.inl rfl)] at q
          exact q
        | none =>
          rw [hS] at hlv q
          have hz : lv = .non := hlv
          rw [hz]
          refine ⟨false, rfl, iteF ⟨c, h1, ?_⟩⟩
          by_cases a1 : 1 ≤ c ∧ c ≤ 26
          · rw [decide_eq_true a1]
            rw [show decide ((none : Option (List Nat)).isSome = true ∨ isLet c) = true from decide_eq_true (Or.inr (Or.inl a1))] at q
            exact iteT q
          · rw [decide_eq_false a1]
            refine iteF ⟨c, h1, ?_⟩
            rw [show decide ((none : Option (List Nat)).isSome = true ∨ isLet c) = decide (33 ≤ c ∧ c ≤ 58) from decide_eq_decide.mpr ⟨fun y => y.elim (fun y => nomatch y) fun y => y.elim (fun y => absurd y a1) id, fun y => .inr (.inr y)⟩] at q
            exact q) (pss_one (ps_ret (pe_and (pe_not (pe_m0 cW hr (by decide) pass0 (pv 0))) (pe_one (pe_m cL hr (by decide) pass0 (pv 0) (pa_cons (pv 1) pa_nil)))))) pss_nil)
    (pss_cons (ps_if (pt_val (pe_m0 cW hr (by decide) pass0 (pv 0))) (pss_one (ps_ret pe_bl)) pss_nil)
    (pss_cons (ps_if (pt_cmpR (op_in_pl PL) (pv 1) (pe_mg hpl) (by rfl))
        (pss_one (ps_expr (pe_bm PySem.F.plainAttrs_list PySem.F.slot_list_append PySem.F.type_list_append mt_append (pe_ix ix_list (pe_fld (pv 0) rfl) (pe_un un_neg pe_int) (fun _ _ => rfl)) (pa_cons (pe_pl PL (pe_mg hpl) (pv 1) (fun _ _ => rfl)) pa_nil))))
      (pss_one (ps_if (pt_cmpR op_eq (pv 1) pe_int (nomark _)) (pss_one (ps_fld (pv 0) (pe_lst pa_nil) rfl))
      (pss_one (ps_if (PW.pt (pw_and (pt_cmpR op_eq (pv 1) pe_int (nomark _)) (pw_and1 (pt_cmpR op_le (pe_callB call_len_seq (by rfl) T.len PySem.boot_len (pa_cons (pe_fld (pv 0) rfl) pa_nil)) (pe_mg (mg_int T.deep)) (nomark _)))))
          (pss_one (ps_expr (pe_bm PySem.F.plainAttrs_list PySem.F.slot_list_append PySem.F.type_list_append mt_append (pe_fld (pv 0) rfl) (pa_cons (pe_lst pa_nil) pa_nil))))
      (pss_one (ps_if (PW.pt (pw_and (pt_cmpR op_eq (pv 1) pe_int (nomark _)) (pw_and1 (pt_cmpR op_gt (pe_callB call_len_seq (by rfl) T.len PySem.boot_len (pa_cons (pe_fld (pv 0) rfl) pa_nil)) pe_int (nomark _)))))
          (pss_cons (ps_set (i := 2) nd' rfl (.inl rfl) (pe_callTy call_tuple_of (by rfl) T.tuple boot_tuple (pa_cons (pe_bm0 PySem.F.plainAttrs_list PySem.F.slot_list_pop PySem.F.type_list_pop mt_pop (pe_fld (pv 0) rfl)) pa_nil)))
            (pss_one (ps_expr (pe_bm PySem.F.plainAttrs_list PySem.F.slot_list_append PySem.F.type_list_append mt_append (pe_ix ix_list (pe_fld (pv 0) rfl) (pe_un un_neg pe_int) (fun _ _ => rfl)) (pa_cons (pv 2) pa_nil)))))
      (pss_one (ps_ret pe_bl)))))))))
    (pss_one (ps_ret pe_bl)))))), ?_⟩
  obtain ⟨dx, t, as, lv, dv, ra⟩ := hRA
  refine ⟨_, rfl, r, _, _, _, _, rfl, ra.hr, R.cl, R.n3, rfl, ?_⟩
  have hdv := ra.dv
  unfold step at q
  cases hdi : S.digits with
  | some ds =>
    rw [hdi] at hdv
    simp only [hdi] at q
    obtain ⟨qa, hz, _⟩ := id hdv
    rw [hz]
    refine ⟨true, rfl, iteT ⟨_, rfl, r, _, _, rfl, ra.hr, rfl, _, rfl, ?_⟩⟩
    exact ⟨r, c, B, S, n, ds, rfl, ⟨dx, t, as, lv, dv, ra⟩, hn, c0, c64, hdi, q⟩
  | none =>
    rw [hdi] at hdv
    simp only [hdi] at q
    have hz : dv = .non := hdv
    rw [hz]
    refine ⟨false, rfl, iteF ⟨r, c, B, S, n, rfl, rfl, ⟨dx, t, as, lv, dv, ra⟩, ?_⟩⟩
    by_cases hlt : S.letters.isSome = true ∨ isLet c
    · rw [decide_eq_true hlt]
      rw [if_pos hlt] at q
      refine iteT ⟨_, rfl, r, _, _, rfl, ra.hr, rfl, r, B, S, n, rfl, ⟨dx, t, as, lv, dv, ra⟩, fun H1 e1 hRA1 => ?_⟩
      cases hw : whole S with
      | true =>
        rw [hw, if_pos rfl] at q
        exact ⟨true, rfl, false, rfl, iteF (q H1 (ra.sm.trans e1))⟩
      | false =>
        rw [hw, if_neg (by decide)] at q
        obtain ⟨dx1, t1, as1, lv1, dv1, ra1⟩ := id hRA1
        refine ⟨false, rfl, true, rfl, iteT ⟨_, rfl, r, _, _, rfl, ra1.hr, rfl, _, rfl, ?_⟩⟩
        exact ⟨r, c, B, S, n, rfl, hRA1, hn, hdi, q⟩
    · rw [decide_eq_false hlt]
      rw [if_neg hlt] at q
      refine iteF ⟨_, rfl, r, _, _, rfl, ra.hr, rfl, r, B, S, n, rfl, ⟨dx, t, as, lv, dv, ra⟩, fun H1 e1 hRA1 => ?_⟩
      cases hw : whole S with
      | true =>
        rw [hw, if_pos rfl] at q
        exact ⟨true, rfl, iteT (q H1 (ra.sm.trans e1))⟩
      | false =>
        rw [hw, if_neg (by decide)] at q
        refine ⟨false, rfl, iteF ⟨_, rfl, c, rfl, rfl, _, rfl, ?_⟩⟩
        clear ra
        obtain ⟨dx, t, as, lv, dv, ra⟩ := hRA1
        have hlen := lists_len ra.pa
        obtain ⟨a, as', rfl⟩ : ∃ a as', as = a :: as' := by
          cases as with
          | nil => exact absurd rfl ra.ne
          | cons a as' => exact ⟨a, as', rfl⟩
        obtain ⟨st, le, di⟩ := S
        obtain ⟨l, ls, hS⟩ : ∃ l ls, st = l :: ls := by
          cases st with
          | nil => simp at hlen
          | cons l ls => exact ⟨l, ls, rfl⟩
        subst hS
        cases hdi
        obtain ⟨xs, ha, hxs⟩ := ra.pa.1
        have hlast : ∀ (b : Addr) (bs : List Addr), atI ((b :: bs).reverse.map V.ref) (-1) = some (V.ref b) := fun b bs => by
          rw [List.reverse_cons, List.map_append]
          exact atI_last _ _
        have hlen1 : xs.length < sizeLine := by
          have h1 := dpA_len hxs
          have h2 := (ra.lo l (by simp)).1
          rw [sizeLine_eq]
          omega
        simp only [stepP] at q
        cases hpl' : plainOf c with
        | some d =>
          rw [hpl'] at q
          obtain ⟨hdp, htl⟩ := plain_dp (K := K) (H := H1) hpl'
          refine iteT ⟨_, rfl, r, _, _, _, _, rfl, ra.hr, R.cl, R.n1, rfl, _, rfl, _, _, _, _, rfl, rfl, SqL.of ra.ht, hlast _ _, .inl ⟨rfl, _, SqL.of ha⟩, _, rfl, c, d, rfl, rfl, hpl', a, xs, _, rfl, rfl, ha, hlen1, ?_⟩
          exact q _ ⟨dx, t, _, _, _, ra.put rfl ha hdp htl⟩
        | none =>
          rw [hpl'] at q
          refine iteF ⟨_, rfl, rfl, _, rfl, ?_⟩
          by_cases c59 : c = 59
          · subst c59
            simp only [if_pos] at q
            refine iteT ⟨by rw [sizeLine_eq]; simp, fun p hp => ?_⟩
            have ra2 := ra.ext (same_new hp (.lst []))
            have hpt : p ≠ t := fun z => by rw [z, ra.ht] at hp; cases hp
            have hpas : p ∉ a :: as' := fun z => by
              obtain ⟨ys, h⟩ := lists_at ra.pa p z
              rw [h] at hp
              cases hp
            refine ⟨_, rfl, r, _, _, _, rfl, ra2.hr, R.cl, R.n3, by simp, ?_⟩
            exact q _ ⟨dx, t, _, lv, .ref p, (ra2.setR (lo := le) (dg := some []) ra2.lv ⟨p, rfl, upd_same, hpas, hpt, by simp, by simp⟩).more (Nat.le_succ _)⟩
          · rw [decide_eq_false (fun z => c59 (V.int.inj z))]
            rw [if_neg c59] at q
            refine iteF ⟨_, rfl, rfl, _, rfl, ?_⟩
            by_cases c27 : c = 27
            · subst c27
              refine iteT ⟨_, rfl, r, _, _, _, _, rfl, ra.hr, R.cl, R.n1, rfl, _, _, rfl, .inl (SqL.of ra.ht), _, _, rfl, rfl, _, rfl, ?_⟩
              by_cases l12 : (a :: as').length ≤ 12
              · rw [show decide ((((a :: as').reverse.map V.ref).length : Int) ≤ 12) = true from decide_eq_true (by rw [List.length_map, List.length_reverse]; omega)]
                rw [if_pos ⟨rfl, by rw [← hlen]; exact l12⟩] at q
                refine iteT ⟨_, rfl, r, _, _, _, _, rfl, ra.hr, R.cl, R.n1, rfl, .inl ⟨rfl, _, SqL.of ra.ht⟩, by rw [sizeLine_eq]; simp, fun p hp => ?_⟩
                refine ⟨t, _, _, rfl, rfl, (same_new hp _) _ _ ra.ht, by rw [List.length_map, List.length_reverse, sizeLine_eq]; omega, ?_⟩
                exact q _ ⟨dx, t, _, _, _, (ra.openL hp l12).more (Nat.le_succ _)⟩
              · rw [show decide ((((a :: as').reverse.map V.ref).length : Int) ≤ 12) = false from decide_eq_false (by rw [List.length_map, List.length_reverse]; omega)]
                rw [if_neg (fun z => l12 (by rw [hlen]; exact z.2)), if_neg (by decide)] at q
                refine iteF ⟨_, rfl, rfl, false, rfl, iteF (iteF (q H1 ra.sm))⟩
            · rw [decide_eq_false (fun z => c27 (V.int.inj z))]
              rw [if_neg (fun z => c27 z.1)] at q
              refine iteF (iteF ⟨_, rfl, rfl, _, rfl, ?_⟩)
              by_cases c28 : c = 28
              · subst c28
                rw [if_pos rfl] at q
                refine iteT ⟨_, rfl, r, _, _, _, _, rfl, ra.hr, R.cl, R.n1, rfl, _, _, rfl, .inl (SqL.of ra.ht), _, _, rfl, rfl, _, rfl, ?_⟩
                cases as' with
                | nil =>
                  cases ls with
                  | cons l2 ls => simp at hlen
                  | nil => exact iteF (q H1 ra.sm)
                | cons b as' =>
                  cases ls with
                  | nil => simp at hlen
                  | cons l2 ls =>
                  rw [show decide ((((a :: b :: as').reverse.map V.ref).length : Int) > 1) = true from decide_eq_true (by rw [List.length_map, List.length_reverse]; simp only [List.length_cons]; omega)]
                  obtain ⟨ys, hb, hys⟩ := ra.pa.2.1
                  have hat : a ≠ t := fun z => ra.ta (by rw [← z]; simp)
                  have hrev : (a :: b :: as').reverse.map V.ref = (b :: as').reverse.map V.ref ++ [V.ref a] := by rw [List.reverse_cons, List.map_append]; rfl
                  refine iteT ⟨_, rfl, r, _, _, _, _, rfl, ra.hr, R.cl, R.n1, rfl, .inl ⟨rfl, _, SqL.of ra.ht⟩, t, _, .ref a, rfl, rfl, ra.ht, ?_, ?_⟩
                  · rw [hrev]
                    simp
                  rw [hrev, List.dropLast_concat]
                  refine ⟨a, xs, rfl, .inl ⟨SqL.of (by rw [upd_ne hat]; exact ha), fun p hp => ?_⟩⟩
                  have rc := ra.closeL rfl ha hb hp
                  have hbt : b ≠ t := fun z => ra.ta (by rw [← z]; simp)
                  have e3 := same_new hp (.tup xs)
                  have ht3 : (upd (upd H1 t (.lst ((b :: as').reverse.map V.ref))) p (.tup xs)) t = some (.lst ((b :: as').reverse.map V.ref)) := e3 _ _ upd_same
                  have hr3 : (upd (upd H1 t (.lst ((b :: as').reverse.map V.ref))) p (.tup xs)) r = some _ := e3 _ _ (by rw [upd_ne ra.rt]; exact ra.hr)
                  have hb3 : (upd (upd H1 t (.lst ((b :: as').reverse.map V.ref))) p (.tup xs)) b = some (.lst ys) := e3 _ _ (by rw [upd_ne hbt]; exact hb)
                  have hlen2 : ys.length < sizeLine := by
                    have h1 := dpA_len hys
                    have h2 := (ra.lo l2 (by simp)).1
                    rw [sizeLine_eq]
                    omega
                  refine ⟨_, rfl, r, _, _, _, _, rfl, hr3, R.cl, R.n1, rfl, _, rfl, _, _, _, _, rfl, rfl, SqL.of ht3, hlast _ _, .inl ⟨rfl, _, SqL.of hb3⟩, _, rfl, b, ys, _, rfl, rfl, hb3, hlen2, ?_⟩
                  exact q _ ⟨dx, t, _, _, _, rc⟩
              · rw [decide_eq_false (fun z => c28 (V.int.inj z))]
                rw [if_neg c28] at q
                exact iteF (iteF (q H1 ra.sm))
end
end K17

set_option Elab.async false
set_option linter.all false
set_option maxRecDepth 100000
set_option maxHeartbeats 4000000
set_option autoImplicit false
namespace K17
open PySem PySem.Spec PyProof.Rows L2
/-! ### Reading.__init__ -/
def spInit (K : PySem.W.Frag) : Sp := fun vs H Q _ => ∃ (r dx : Addr) (B : Hp), vs = [.ref r] ∧ Same B H ∧ B r = none ∧ H r = some (.ins (RC K) dx []) ∧ ∀ H', RAt K (RC K) B H' r RS.init 0 → Q .non H'
theorem sc_init : FnScope ["self"] ["self"] dInit.scope := ⟨rfl, rfl, rfl, by decide +kernel, rfl, by decide +kernel, by decide +kernel⟩
section
variable {P : Program} {w : World} {K : PySem.W.Frag} {mg : Str → Option Value} {base : Heap}
theorem ok_init (T : Tx K mg) (R : RdT K mg) : ∃ (fd : FuncData), FnOk P w K mg base CX0 1 (He.ma K (RC K) "__init__") fd ["self"] (spInit K) ∧ Binds K fd ["self"] [] := by
  obtain ⟨fd, F⟩ := R.fi
  refine ⟨fd, ?_, F.bindsN (ps := ["self"]) fun _ _ _ _ _ _ us hl => match us, hl with | [_], _ => rfl⟩
  refine F.ok sc_init (fun vs H Q E h => ?_) (fun cdv A outer s H vs Q E hr h => ?_)
  · obtain ⟨r, dx, B, rfl, _⟩ := h
    rfl
  obtain ⟨r, dx, B, rfl, hs, hBr, hr0, q⟩ := h
  refine ⟨_, PSs.nox (pss_cons (ps_fld (pv 0) (pe_lst (pa_cons (pe_lst pa_nil) pa_nil)) rfl) (pss_cons (ps_fld (pv 0) pe_non rfl) (pss_one (ps_fld (pv 0) pe_non rfl)))), ?_⟩
  refine ⟨by rw [sizeLine_eq]; simp, fun p1 hp1 => ⟨one_line, fun p2 hp2 => ?_⟩⟩
  have e2 := (same_new hp1 (.lst [])).trans (same_new hp2 (.lst [V.ref p1]))
  have n12 : p1 ≠ p2 := fun z => by rw [← z, upd_same] at hp2; cases hp2
  have r1 : r ≠ p1 := ne_of_none hr0 hp1
  have r2 : r ≠ p2 := ne_of_none ((same_new hp1 _) _ _ hr0) hp2
  refine ⟨_, rfl, r, RC K, dx, [], rfl, e2 _ _ hr0, R.cl, R.n1, by simp, ?_⟩
  refine ⟨_, rfl, r, RC K, dx, _, rfl, upd_same, R.cl, R.n2, (show (1 : Nat) < 1000 by decide), ?_⟩
  refine ⟨_, rfl, r, RC K, dx, _, rfl, upd_same, R.cl, R.n3, (show (2 : Nat) < 1000 by decide), ?_⟩
  have nB : ∀ p, H p = none → B p = none := fun p hp => by
    cases h : B p with
    | none => rfl
    | some o => rw [hs _ _ h] at hp; cases hp
  have hp2' : H p2 = none := by rw [upd_ne (Ne.symm n12)] at hp2; exact hp2
  refine q _ ⟨dx, p2, [p1], .non, .non, ?_⟩
  exact
    { sm := fun b u h => by
        have hbr : b ≠ r := fun z => by rw [z, hBr] at h; cases h
        rw [upd_ne hbr, upd_ne hbr, upd_ne hbr]
        exact e2 _ _ (hs _ _ h)
      fr := hBr
      ft := nB _ hp2'
      fa := fun a ha => by
        have : a = p1 := by simpa using ha
        rw [this]
        exact nB _ hp1
      hr := by rw [upd_same]; rfl
      ht := by rw [upd_ne (Ne.symm r2), upd_ne (Ne.symm r2), upd_ne (Ne.symm r2), upd_same]; rfl
      pa := ⟨⟨[], by rw [upd_ne (Ne.symm r1), upd_ne (Ne.symm r1), upd_ne (Ne.symm r1), upd_ne n12, upd_same], .nil⟩, True.intro⟩
      nd := by simp
      ta := fun z => n12 (by simpa using z : p2 = p1).symm
      lo := fun l hl => by
        have : l = [] := by simpa [RS.init] using hl
        subst this
        exact ⟨Nat.le_refl _, rfl⟩
      ne := by simp
      le := by simp
      lv := rfl
      dv := rfl }
end
end K17

set_option Elab.async false
set_option linter.all false
set_option maxRecDepth 100000
set_option maxHeartbeats 4000000
set_option autoImplicit false
namespace K17
open PySem PySem.Spec PyProof.Rows L2
/-! ### BadFile.__init__ -/
structure FlT (P : Program) (K : PySem.W.Frag) (mg : Str → Option Value) (C fI cda cc : Addr) : Prop where
  oex : OexC K C
  gl : mg "BadFile" = some (.ref C)
  ini : PySem.W.findIn K (.ref C) "__init__" = some (some (.ref fI))
  tfI : PySem.W.typeIn K (.ref fI) = some (.type "function")
  lk : ∃ (oc : Value) (od : Option Addr) (kV doc pm : Value) (an : Option Addr) (ct : Value) (osl : Array (Option Value)), K.lookup fI = some ⟨oc, od, .func (PySem.W.ksFn dFile.name dFile.qual dFile.params dFile.body dFile.scope .none kV doc pm an (.ref cda) ct cc), osl⟩
  cd : PySem.W.codeIn K (.ref cda) dFile.qual = true
  fl : ∃ (ccl : Value) (cdd : Option Addr) (vs : Array Value) (ccs : Array (Option Value)) (file : Str) (tf : Tok), K.lookup cda = some ⟨ccl, cdd, .fields vs, ccs⟩ ∧ vs[2]? = some (.str file tf) ∧ ((P.main.file : Str) == file) = true
  cl : ∃ (c : Value) (d : Option Addr) (s : Array (Option Value)), K.lookup cc = some ⟨c, d, .cell (some (.ref C)), s⟩
  mr : PySem.W.mroIn K C (.ref C) = some true
  sup : PySem.W.ks_superIn K C C "__init__" = some (some (.builtin "ValueError.__init__"))
  opq : PySem.W.nsIn K cStatics "thirdparty.any" = some none
  sVE : PySem.W.subIn K (.ref C) (.type "ValueError") = some true
  noat : PySem.W.findIn K (.ref C) "at" = some none
  top : (P.main.scope.names.lookup ("super" : Str)).isSome = false
def fCx (P : Program) (w : World) (K : PySem.W.Frag) (mg : Str → Option Value) (base : Heap) (fI cda cc : Addr) (A : Around) (outer : List Env) (s : Shared) (H : Hp) : Cx where
  prog := P
  w := w
  K := K
  mg := mg
  base := base
  A := A.deeper (PySem.W.ksEnv dFile.qual dFile.scope s.heap.objs.size fI (.ref cda) cc)
  N := ["self", "at"]
  s_0 := s
  H_0 := H
  env := PySem.W.ksEnv dFile.qual dFile.scope s.heap.objs.size fI (.ref cda) cc
  outer := outer
  stack := PySem.W.ksEnv dFile.qual dFile.scope s.heap.objs.size fI (.ref cda) cc :: outer
  ex := []
  fn := fun _ => false
  calm := true
  pn := []
  xe := fun _ _ => False
def spFile (K : PySem.W.Frag) (C : Addr) : Sp := fun vs H Q _ => ∃ (a : Addr) (i : Int), vs = [.ref a, .int i] ∧ H a = some (exo a C none) ∧ ∀ d, H d = none → d ≠ a → Q .non (upd (upd H d (exd d [("at", .int i)])) a (exo a C (some d)))
section
variable {P : Program} {w : World} {K : PySem.W.Frag} {mg : Str → Option Value} {base : Heap} {C fI cda cc : Addr}
theorem file_start {A : Around} {outer : List Env} {s : Shared} {H : Hp} {h0 : Heap} {a : Addr} {i : Int} {t : Tok} {tk : Nat} (F : FlT P K mg C fI cda cc) (hd : A.handled = none) (e0 : Env0 P w K mg base A outer s H)
    (hns : h0.Ns s.heap.objs.size fun x => ((["self", "at"] : List Str).zip [Value.ref a, Value.int i t]).reverse.lookup x) (hk : ∀ b o, s.heap.get? b = some o → h0.get? b = some o) :
    Inv (fCx P w K mg base fI cda cc A outer s H) [] [some (.ref a), some (.int i)] H { s with heap := h0, toks := tk } := by
  obtain ⟨c1, d1, s1, hcl⟩ := F.cl
  have hcb := e0.mod.kin _ _ hcl
  obtain ⟨hcs, hcn⟩ := e0.bs _ _ hcb
  have one : ∀ {y : Str} {c : Addr}, (fCx P w K mg base fI cda cc A outer s H).env.cells.lookup y = some c → y = "__class__" ∧ c = cc := fun {y c} h => by
    have h : List.lookup y [(("__class__" : Str), cc)] = some c := h
    by_cases hy : y = "__class__"
    · subst hy
      have : some cc = some c := h
      exact ⟨rfl, (Option.some.inj this).symm⟩
    · have e : (y == ("__class__" : Str)) = false := by simpa using hy
      simp [List.lookup, e] at h
  have noA : ∀ b : Addr, b ∉ (fCx P w K mg base fI cda cc A outer s H).ex := fun b z => absurd (show b ∈ ([] : List Addr) from z) (by simp)
  refine ⟨⟨e0.mod, by rfl, rfl, rfl, Nat.le_refl _, fun x y c h1 h2 => by rw [(one h1).1, (one h2).1], fun x hx => ?_, fun x c z _ => ?_, fun _ => hd, Around.frames_deeper e0.frames, .inr ⟨rfl, rfl⟩, fun b z => absurd z (noA b), e0.bs, e0.bsz, fun b _ _ => noA b, fun b z => absurd z (noA b), e0.funs, e0.frf⟩,
    rfl, e0.bare, Un.kept hk, ⟨_, hns, fun j x v h1 h2 h3 => ?_⟩, fun x c h => ?_, e0.hok.fresh (Nat.le_refl _), fun x c h => ?_, fun p hp => absurd (show p ∈ ([] : List (Addr × Obj)) from hp) (by simp), e0.hok.kept hk, rfl⟩
  · have key : ∀ p ∈ dFile.scope.names, (p.2 = NameKind.cell ∨ p.2 = NameKind.free) → p.1 = ("__class__" : Str) := by decide +kernel
    have hx' : dFile.scope.names.lookup x = some .cell ∨ dFile.scope.names.lookup x = some .free := hx
    have : x = "__class__" := by
      rcases hx' with h | h
      · exact key _ (PySem.mem_of_lookup h) (.inl rfl)
      · exact key _ (PySem.mem_of_lookup h) (.inr rfl)
    exact ⟨cc, by rw [this]; rfl⟩
  · have z : false = true := z
    cases z
  · match j, h1, h2 with
    | 0, h1, h2 =>
      have e1 : some ("self" : Str) = some x := h1
      cases e1
      have e2 : some (some (V.ref a)) = some (some v) := h2
      cases e2
      exact ⟨_, rfl, .inl ⟨by show dFile.scope.names.lookup ("self" : Str) = some .local; decide +kernel, by rfl⟩⟩
    | 1, h1, h2 =>
      have e1 : some ("at" : Str) = some x := h1
      cases e1
      have e2 : some (some (V.int i)) = some (some v) := h2
      cases e2
      exact ⟨_, ⟨t, rfl⟩, .inl ⟨by show dFile.scope.names.lookup ("at" : Str) = some .local; decide +kernel, by rfl⟩⟩
    | j + 2, h1, _ =>
      have e1 : (([] : List Str)[j]?) = some x := h1
      simp at e1
  · rw [(one h).2]
    exact ⟨_, _, hk _ _ hcs, rfl⟩
  · rw [(one h).2]
    exact hcn
open PySem.Calls in
/-- ValueError.__init__ called by its bound wrapper -/
theorem call_mw {A : Around} {s : Shared} {u a t0 : Addr} {rest : List Value} {Q : Value → Shared → Prop} {E : Value → Shared → Prop} (T : OexC K C) (X : K.In s.heap) (he : s.heap.get? a = some ({ cls := .ref C, dict := none, data := .fields #[.ref t0, .none, .none, .none, .bool false, .none] } : Obj)) (hu : s.heap.get? u = some (PySem.W.kxs_mw "ValueError.__init__" a)) (hrest : rest.length ≤ sizeLine)
    (hq : ∀ h' t1, (∀ b o, b ≠ a → s.heap.get? b = some o → h'.get? b = some o) → h'.get? a = some ({ cls := .ref C, dict := none, data := .fields #[.ref t1, .none, .none, .none, .bool false, .none] } : Obj) → Q .none { s with heap := h' }) :
    wpAny (model P w) A (call (.ref u) rest) Q E s := by
  obtain ⟨nm, q, N, bs, bm, sn, sub, ab, col, dd, k0, k1, k2, k3, k5, hC, hbm⟩ := T.cls
  have hC' := X _ _ hC
  obtain ⟨h, g, d, t, os⟩ := s
  refine wpAny_call (codeAny_of_tree ?_)
  show wpAny _ A.in1 (callAny (.ref u) ⟨rest, []⟩) _ _ _
  simp only [callAny]
  refine wpAny_bind (wpAny_load hu ?_)
  simp only [PySem.W.kxs_mw, show (Value.type "method-wrapper" == Value.type "method" || Value.type "method-wrapper" == Value.type "builtin_function_or_method" || Value.type "method-wrapper" == Value.type "method-wrapper") = true by decide, if_true]
  refine PySem.W.KFB.if_so (by decide) ?_
  refine wpAny_bind (PySem.W.check_bound_init F.excBase_ValueError.toExcCallFacts hC' he rfl ?_)
  refine wpAny_bind (wpAny_pure (wpAny_pure ?_))
  refine ⟨plainId_quiet F.excBase_ValueError.init.plain _, codeAny_builtin F.excBase_ValueError.initEntry ?_⟩
  exact PySem.W.exc_init_tree (cls := .ref C) (t0 := t0) (dv := none) (c2 := .none) (c3 := .none) (b4 := .bool false) he hrest fun h' k e1 _ => hq h' _ k e1
theorem ok_file (F : FlT P K mg C fI cda cc) (T : Tx K mg) : ∃ fd : FuncData, FnOk P w K mg base CX0 2 fI fd ["self", "at"] (spFile K C) ∧ Binds K fd ["self", "at"] [] := by
  obtain ⟨oc, od, kV, doc, pm, an, ct, osl, lk⟩ := F.lk
  refine ⟨PySem.W.ksFn dFile.name dFile.qual dFile.params dFile.body dFile.scope .none kV doc pm an (.ref cda) ct cc, ⟨fun vs H Q E h => ?_, fun A outer s H args us vs Q E hr e0 hb r hsp => ?_⟩, .all fun us hl => ?_⟩
  · obtain ⟨a, i, rfl, _⟩ := h
    rfl
  · obtain ⟨a, i, rfl, ha, q⟩ := hsp
    obtain ⟨u1, u2, rfl, r1, ⟨t2, rfl⟩⟩ := vals2 r
    obtain rfl : u1 = Value.ref a := r1
    have KX : K.In s.heap := e0.mod.kin.keeps fun b o e => (e0.bs b o e).1
    have lim : s.heap.NoLimit := e0.mod.nolimit.keeps fun b o e => (e0.bs b o e).1
    refine PySem.ks_codeAny_call_defAt (fd := PySem.W.ksFn dFile.name dFile.qual dFile.params dFile.body dFile.scope .none kV doc pm an (.ref cda) ct cc) (body := dFile.body) hr.depth (KX _ _ lk) rfl lim (PySem.W.codeRec_of KX F.cd) rfl hb (show ∀ x ∈ dFile.scope.names, x.2 ≠ .cell by decide +kernel) (fun x hx => ?_) (fun h0 hns hk => ?_)
    · have hx' : x.1 = "self" ∨ x.1 = "at" := by
        have hx2 : x ∈ [((("self" : Str)), Value.ref a), ((("at" : Str)), Value.int i t2)] := hx
        rcases List.mem_cons.mp hx2 with rfl | h
        · exact .inl rfl
        · have := List.mem_singleton.mp h
          rw [this]
          exact .inr rfl
      rcases hx' with h | h
      · rw [h]; show dFile.scope.names.lookup ("self" : Str) = some .local; decide +kernel
      · rw [h]; show dFile.scope.names.lookup ("at" : Str) = some .local; decide +kernel
    have I0 := file_start (w := w) (base := base) (tk := s.toks + 2) F hr.hd e0 hns hk
    obtain ⟨ccl, cdd, cvs, ccs, file, tf, hcode, hvs, hfile⟩ := F.fl
    obtain ⟨cl1, cl2, cl3, hcell⟩ := F.cl
    obtain ⟨nm, q0, Nn, bs, bm, sn, sub, ab, col, dd, k0, k1, k2, k3, k5, hC, hbm⟩ := F.oex.cls
    have X0 : K.In h0 := I0.kIn
    obtain ⟨t1, hobj⟩ := exo_at I0.hok ha
    have hxC : a ≠ C := fun z => by
      have h1 := X0 _ _ hC
      rw [← z] at h1
      have h2 := hobj.symm.trans h1
      cases h2
    obtain ⟨mb, hmb, hmb2⟩ := e0.mod.blt
    have bk0 : ∀ b o, base.get? b = some o → h0.get? b = some o := fun b o e => I0.bk b o e
    have hsubC : PySem.W.Looks (model P w) h0 (isSubtype (.ref C) (.ref C)) true := PySem.W.looks_mroIn X0 F.mr
    -- the second statement, from a state that keeps all but the exception's own record
    have second : ∀ (s4 : Shared), Inv (fCx P w K mg base fI cda cc A outer s H) [] [some (.ref a), some (.int i)] H s4 →
        PySem.wpAny (model P w) (A.deeper (PySem.W.ksEnv dFile.qual dFile.scope s.heap.objs.size fI (.ref cda) cc)) (execs (dFile.body.drop 1) (PySem.W.ksEnv dFile.qual dFile.scope s.heap.objs.size fI (.ref cda) cc))
          (fun f s' => CR CX0 outer P w H s Q E (.ok (.ret (match f with | .ret v => v | _ => .none))) s') (fun _ _ => False) s4 := by
      intro s4 I4
      have hp : PSs (fCx P w K mg base fI cda cc A outer s H) (dFile.body.drop 1) _ := pss_one (ps_ost (pe_var (i := 0) rfl (.inl (by show dFile.scope.names.lookup ("self" : Str) = some .local; decide +kernel))) (pe_var (i := 1) rfl (.inl (by show dFile.scope.names.lookup ("at" : Str) = some .local; decide +kernel))))
      refine thn (hp.run [] s4 _ H { nx := fun _ H' => Q .non H', rt := fun _ _ => False } I4 ⟨_, rfl, _, rfl, a, C, rfl, F.oex, F.noat, .inl ⟨ha, fun dx hdx hne => q dx hdx hne⟩⟩) fun fl s' hs => ?_
      cases fl with
      | next =>
        obtain ⟨σ', H', J, qq⟩ := hs
        exact ⟨.non, H', J.os, J.bare, J.base, J.hok, rfl, qq⟩
      | ret u =>
        obtain ⟨_, _, _, _, _, z⟩ := hs
        exact z.elim
      | brk =>
        obtain ⟨_, _, _, z⟩ := hs
        exact z.elim
      | cont =>
        obtain ⟨_, _, _, z⟩ := hs
        exact z.elim
    refine ks_wpAt_execs_cons (rest := dFile.body.drop 1) ?_
    refine ks_wpAt_Expr_any ?_
    refine ks_wpAt_MethodCall ?_
    refine ks_wpAt_super_base (env := PySem.W.ksEnv dFile.qual dFile.scope s.heap.objs.size fI (.ref cda) cc) (by show dFile.scope.names.lookup ("super" : Str) = some .globalImplicit; decide +kernel) (by show dFile.scope.names.lookup ("__class__" : Str) = some .free; decide +kernel)
      (by decide +kernel) rfl (X0 _ _ lk) rfl rfl rfl (X0 _ _ hcode) rfl hvs hfile F.top ?_
    refine PySem.W.ks_loadName_global (by rfl) (by show dFile.scope.names.lookup ("super" : Str) = some .globalImplicit; decide +kernel) (PySem.Calls.loadGlobal_builtin (env := PySem.W.ksEnv dFile.qual dFile.scope s.heap.objs.size fI (.ref cda) cc) (e0.mod.glob.keeps bk0) T.sup (hmb.keeps bk0) ((hmb2 _ (by decide +kernel)).trans (by decide +kernel : bootBuiltins "super" = some (.type "super"))) ⟨rfl, ?_⟩)
    refine wpAny_loadName_free (by rfl) (by show dFile.scope.names.lookup ("__class__" : Str) = some .free; decide +kernel) (by rfl) ⟨_, X0 _ _ hcell, rfl⟩ ?_
    refine wpAny_loadName_local (v := .ref a) (by rfl) (by show dFile.scope.names.lookup ("self" : Str) = some .local; decide +kernel) hns (by rfl) ?_
    refine ks_wpAny_isType_cls (X0 _ _ hC) rfl ⟨rfl, ?_⟩
    refine ks_wpAny_call_super (X0 _ _ hC) rfl hobj rfl (fun c e => by cases e) hsubC (fun h1 hso k1' => ?_)
    have X1 : K.In h1 := X0.keeps fun b o e => k1' b o e
    have hcd : PySem.W.clsIn K C = some { name := nm, bases := bs, mro := .ref C :: bm, ns := Nn, qualname := q0, hasDict := true, slotNames := sn, subclasses := sub, abstract := ab, collection := col, hasDel := false } := by unfold PySem.W.clsIn; rw [hC] <;> rfl
    have hsup := F.sup
    unfold PySem.W.ks_superIn at hsup
    rw [hcd] at hsup
    have hobj1 := k1' _ _ hobj
    have I1 : PySem.W.InstAt h1 a _ C none := ⟨hobj1, rfl, rfl, trivial⟩
    refine PySem.W.kxs_getMethod PySem.W.kxs_ValueError hso (PySem.W.looks_opaque X1 F.opq) (l₀ := .ref C :: bm) (fun A Q E s k qq => wpAny_bind ((PySem.W.looks_clsIn X1 hcd) A _ E s k (wpAny_pure qq))) rfl X1 hsup (I1.type.andThen (PySem.W.looks_subIn X1 F.sVE)) hxC (by decide +kernel) ?_
    have up2 : ∀ b o, h1.get? b = some o → (h1.push (PySem.W.kxs_mw "ValueError.__init__" a)).get? b = some o := fun b o e => Heap.get?_push_of_some _ e
    refine PySem.W.kxs_callWith (i := "ValueError.__init__") (x := a) (u := h1.objs.size) (by rfl) ?_
    refine PySem.Calls.evalArgs_plain (PySem.Calls.spliced_cons (PySem.Calls.Constant_str (k := 0) (pos := ⟨0, 0, 0, 0⟩) (PySem.Calls.spliced_nil ⟨Heap.get?_push_size _ rfl, ?_⟩)))
    refine call_mw (P := P) F.oex (X1.keeps up2) (up2 _ _ hobj1) (Heap.get?_push_size _ rfl) one_line fun h' t4 k4 e4 => ?_
    have kk : ∀ b o, b ≠ a → h0.get? b = some o → h'.get? b = some o := fun b o hb e => k4 b o hb (up2 _ _ (k1' _ _ e))
    have J := I0.write (t' := s.toks + 4) (x := a) (e := a) (o := exo a C none) (by rw [ha]; exact True.intro) (.inl rfl) kk ⟨_, e4⟩ (exo_ok e4)
    have eu : upd H a (exo a C none) = H := by
      funext b
      by_cases hb : b = a
      · rw [hb, upd_same, ha]
      · rw [upd_ne hb]
    rw [eu] at J
    refine wpAt_of_wpAny ?_
    exact wpAny_mono (second _ J) (fun _ _ z => z) fun _ _ z => z.elim
  · match us, hl with
    | [_, _], _ => rfl
end
end K17

set_option Elab.async false
set_option linter.all false
set_option maxRecDepth 100000
set_option maxHeartbeats 4000000
set_option autoImplicit false
namespace K17
open PySem PySem.Spec PyProof.Rows L2
/-! ### enumerate over a tuple -/
theorem meets_enumB {v : Value} {o : Obj} {H : Heap → Prop} (B : Begins v o H) :
    Meets (Builtin.«enumerate.__new__» ⟨[.type "enumerate", v], []⟩) (fun _ R s => H s.heap ∧
      R (.ok (.ret (.ref (s.heap.push o).objs.size))) { s with heap := (s.heap.push o).push { cls := .type "enumerate", data := .fields #[.none, .bool false, .ref s.heap.objs.size, rawInt 0, .none, .none] } }) :=
  .of_wp fun prog w A R s h => by
    obtain ⟨hp, g, d, tk, os⟩ := s; obtain ⟨h1, h⟩ := h
    have hsub := sub_enumerate
    have q1 : ∀ {A' : Around} {E : Value → Shared → Prop} {Q : Value → Shared → Prop}, Q (.ref hp.objs.size) ⟨hp.push o, g, d, tk, os⟩ → wpAny (model prog w) A' (pyIter v) Q E ⟨hp, g, d, tk, os⟩ :=
      fun q => B.iter prog w _ _ ⟨hp, g, d, tk, os⟩ _ h1 q
    wp_walk using q1
    refine wpAny_stack_any fun st => wpAny_pure ?_
    split
    · rename_i c _ _ _ _ _
      cases (c == Value.type "enumerate")
      · wp_walk using q1
        exact ⟨_, rfl, h⟩
      · wp_walk using q1
        exact ⟨_, rfl, h⟩
    · wp_walk using q1
      exact ⟨_, rfl, h⟩
section
variable {prog : Program} {w : World} {A : Around} {E : Value → Shared → Prop} {s : Shared}
theorem call_enumB {v : Value} {o : Obj} {H : Heap → Prop} {Q : Value → Shared → Prop} (B : Begins v o H) (h1 : H s.heap)
    (h : ∀ h', IsEnum h' (s.heap.objs.size + 1) s.heap.objs.size 0 .none → h'.get? s.heap.objs.size = some o → h'.objs.size = s.heap.objs.size + 2 →
      (∀ b o, s.heap.get? b = some o → h'.get? b = some o) → Q (.ref (s.heap.objs.size + 1)) { s with heap := h' }) :
    wpAny (model prog w) A (call (.type "enumerate") [v]) Q E s := by
  refine callType_new F.called_enumerate (by decide) (F.typeCall_enumerate_1 _) (F.newCall_enumerate_1 _) (fun obj => F.args_object_init_2 obj _) F.entry_enumerate_new
    (meets_enumB B) ⟨h1, ?_⟩
  have hz : (s.heap.push o).objs.size = s.heap.objs.size + 1 := Heap.size_push ..
  show _ ∧ _
  rw [hz]
  have he : IsEnum ((s.heap.push o).push { cls := .type "enumerate", data := .fields #[.none, .bool false, .ref s.heap.objs.size, rawInt 0, .none, .none] }) (s.heap.objs.size + 1) s.heap.objs.size 0 .none := by
    have := Heap.get?_push_size (s.heap.push o) (o := { cls := .type "enumerate", data := .fields #[.none, .bool false, .ref s.heap.objs.size, rawInt 0, .none, .none] }) rfl
    rw [hz] at this; exact this
  refine ⟨⟨_, he, rfl⟩, h _ he (Heap.get?_push_of_some _ (Heap.get?_push_size _ B.free)) (by rw [Heap.size_push, hz]) fun b o x => Heap.get?_push_of_some _ (Heap.get?_push_of_some _ x)⟩
end
/-- the tuple at a, each item in a new pair -/
def ItT (K : PySem.W.Frag) (a : Addr) : It :=
  ⟨fun i H => ∃ (xs : List V) (x : V), SqT K H a xs ∧ xs[i]? = some x, fun i H v H' => ∃ T x, v = .ref T ∧ H T = none ∧ H' = upd H T (.tup [.int (i : Nat), x]) ∧ ∀ xs, SqT K H a xs → xs[i]? = some x, fun i H => ∃ xs : List V, SqT K H a xs ∧ xs.length ≤ i⟩
theorem turn_enumT {P : Program} {w : World} {K : PySem.W.Frag} {elts : List Expr} {kk : Nat} {tpos : Pos} (a e it : Addr) :
    Turn P w K (.Tuple elts kk tpos) (ItT K a) [e, it] e (fun i h => (∃ old, IsEnum h e it ((i : Nat) : Int) old) ∧ h.IsTupleIter it a i ∧ e ≠ it) where
  mem := by simp
  obj := fun i h st b hb => by
    obtain ⟨⟨old, he⟩, ⟨o, ho, hc, hd⟩, _⟩ := st
    have e' : b = e ∨ b = it := by simpa using hb
    rcases e' with z | z
    · rw [z]; exact ⟨_, he, fun v q => nomatch q⟩
    · rw [z]; exact ⟨o, ho, fun v q => by rw [hd] at q; cases q⟩
  keep := fun i h h' st k => let ⟨⟨old, he⟩, hi, hne⟩ := st; ⟨⟨old, k e (by simp) _ he⟩, hi.at fun o q => k it (by simp) o q, hne⟩
  item := by
    intro X hP hw hK hc i pins s σ H E I hf st hg
    subst hP hw hK
    obtain ⟨⟨old, he⟩, hit, hne⟩ := st
    obtain ⟨xs, x, hq, hx⟩ := hg
    obtain ⟨its, rv, p, hz⟩ := I.tuple hq
    obtain ⟨u, hu, ru⟩ := rv.get hx
    have hel : e < s.heap.objs.size := Heap.lt_size he
    have hil : it < s.heap.objs.size := by obtain ⟨_, q, _⟩ := hit; exact Heap.lt_size q
    have pT : s.heap.IsTuple a its.toArray := p
    have hai : a ≠ it := fun z => by
      obtain ⟨o1, e1, c1, _⟩ := pT
      obtain ⟨o2, e2, c2, _⟩ := hit
      rw [z, e2] at e1
      cases e1
      rw [c2] at c1
      exact absurd (Value.type.inj c1) (by decide)
    have hea : e ≠ a := fun z => by
      obtain ⟨o1, e1, c1, _⟩ := pT
      rw [← z] at e1
      have e3 := he.symm.trans e1
      cases e3
      exact absurd (Value.type.inj c1) (by decide)
    have hlt : i < its.toArray.size := by
      have := (List.getElem?_eq_some_iff.mp hu).1
      simpa using this
    refine wpAny_pyNext_enum_itemD (Draws.tuple (A := X.A.in1) (I.ok.hd hc) it a hai its.toArray) he ⟨hit, pT⟩ hlt hne (by simp [hne, hea]) fun y h' tk hy ho hst hT hsz hk => ?_
    have ey : y = u := by
      have h1 : its[i]? = some y := by simpa using hy
      rw [hu] at h1
      exact (Option.some.inj h1).symm
    subst ey
    refine ⟨_, rfl, wpAny_letOwnedTupleGo_enum (s := { s with heap := h', toks := tk + 1 }) ho fun h'' he' sb => ?_⟩
    have hT2 : h''.get? s.heap.objs.size = some { cls := .type "tuple", data := .seq #[.int i tk, y] } := (sb.2 _ (Nat.ne_of_gt hel)).trans hT
    have new : ObjOk X.prog X.w (upd H s.heap.objs.size (.tup [.int (i : Nat), x])) h'' s.heap.objs.size (.tup [.int (i : Nat), x]) :=
      ⟨by show 2 ≤ sizeLine; decide, [.int i tk, y], .cons ⟨_, rfl⟩ (.cons ru .nil), ⟨_, hT2, rfl, _, rfl⟩⟩
    have I1 : Inv X pins σ (upd H s.heap.objs.size (.tup [.int (i : Nat), x])) { s with heap := h'', toks := tk + 1 } :=
      I.turnedNew (ch := [e, it]) (fun b ob hb q => (sb.2 b (fun z => hb (by simp [z]))).trans (hk b ob (fun z => hb (by simp [z])) (fun z => hb (by simp [z])) q)) hf (Nat.le_refl _) new
    refine ⟨.ref s.heap.objs.size, _, I1, rfl, ⟨_, x, rfl, I.hok.fresh (Nat.le_refl _), rfl, fun ys hy => by rw [I.tuple_inj hy hq]; exact hx⟩, ⟨⟨y, ?_⟩, hst.1.at fun o q => (sb.2 it (Ne.symm hne)).trans q, hne⟩, fun b hb => ?_⟩
    · have e1 : ((i + 1 : Nat) : Int) = (i : Int) + 1 := by omega
      rw [e1]; exact he'
    · have hb' : b < s.heap.objs.size := by
        have e' : b = e ∨ b = it := by simpa using hb
        rcases e' with z | z
        · rw [z]; exact hel
        · rw [z]; exact hil
      rw [upd_ne (Nat.ne_of_lt hb')]
      exact (hf b hb).1
  done := by
    intro X hP hw hK hc i pins s σ H E I hf st hg
    subst hP hw hK
    obtain ⟨⟨old, he⟩, hit, hne⟩ := st
    obtain ⟨xs, hq, hx⟩ := hg
    obtain ⟨its, rv, p, hz⟩ := I.tuple hq
    obtain ⟨f0, f1, f2, f3, f4, f5⟩ := hf it (by simp)
    have hl := rv.length
    have pT : s.heap.IsTuple a its.toArray := p
    have hT : s.TypeIs (.ref e) "enumerate" := ⟨_, he, rfl⟩
    unfold pyNext
    refine wpAny_bind (wpAny_attempt (wpAny_callSpecial?_slot (name := Str.ofString "__next__") hT F.slot_enumerate_next
      (wpAny_call_entry F.slot_enumerate_next hT F.entry_enumerate_next ?_ (F.args_enumerate_next_1 _))))
    show wpAny _ _ (field (.ref e) 2 >>= _) _ _ _
    refine wpAny_bind (wpAny_field he rfl (x := .ref it) rfl ?_)
    refine wpAny_bind (wpAny_nextOf_tuple_end (A := X.A.in1) (I.ok.hd hc) hit pT (by simp; omega) fun h' x he' hx' => ?_)
    obtain ⟨o, ho, hco⟩ := hx'
    refine wpAny_bind (wpAny_isInstance (T := "StopIteration") (b := true) ⟨o, ho, hco⟩ isSubtype_stop ?_)
    exact wpAny_pure ⟨rfl, I.turned (t' := s.toks) (fun b o hb q => he' b o hb q) f0 f1 f3 f4 f5⟩
  self := fun A i s Q E st h => let ⟨⟨_, he⟩, _⟩ := st; wpAny_pyIter_enum he h
theorem walk_enumT {K : PySem.W.Frag} {a : Addr} {xs : List V} : Walk (ItT K a) xs.length (fun H => SqT K H a xs) (YPair (fun i => some (.int (i : Nat))) (fun i => xs[i]?)) := by
  refine ⟨fun i _ hi q => ⟨xs, xs[i], q, by simp [hi]⟩, fun _ q => ⟨xs, q, Nat.le_refl _⟩, fun i H v H' _ q y => ?_⟩
  obtain ⟨T, x, h1, h2, h3, h4⟩ := y
  exact ⟨T, .int (i : Nat), x, h1, h2, h3, rfl, h4 xs q⟩
/-- a list's or a tuple's items, each in a new pair -/
def iEnT (K : PySem.W.Frag) (ta : TA) : TI := fun σ H R => ta σ H fun vs H1 => ∃ (a : Addr) (xs : List V) (Z : Hp → Prop), vs = [.ref a] ∧ (Z = (fun H => SqL K H a xs) ∨ Z = (fun H => SqT K H a xs)) ∧ Z H1 ∧
  ∀ J : It, Walk J xs.length Z (YPair (fun i => some (.int (i : Nat))) (fun i => xs[i]?)) → R J H1
theorem pi_enumT {X : Cx} {e : Expr} {ta : TA} {p pos tpos : Pos} {elts : List Expr} {kk : Nat} (hg : Gl X "enumerate") (hm : X.mg "enumerate" = none) (ha : PA X [e] ta) (hs : starEach [e] X.env = [(false, eval e X.env)] := by rfl) :
    PI X (.Tuple elts kk tpos) (.Call (.Name "enumerate" p) [e] [] pos) (iEnT X.K ta) := by
  refine ⟨fun pins s σ H R I h => ?_⟩
  refine Call_ (ld_blt I hg hm boot_enumerate (PyProof.Rows.callWith_type1 (thn (ha.run pos pins s σ H _ I h) fun us s1 ⟨vs, H1, I1, r1, q1⟩ => ?_) hs rfl))
  obtain ⟨a, xs, Z, ex, hZ, hq, q⟩ := q1
  subst ex
  cases r1 with
  | cons r rr =>
    cases rr
    cases r
    have fpo : ∀ {h' : Heap}, Inv X pins σ H1 { s1 with heap := h' } → ∀ b ∈ [s1.heap.objs.size + 1, s1.heap.objs.size], FpOk X pins H1 b := fun {h'} I2 b hb => by
      have e' : b = s1.heap.objs.size + 1 ∨ b = s1.heap.objs.size := by simpa using hb
      have hle : s1.heap.objs.size ≤ b := by
        rcases e' with z | z
        · rw [z]; exact Nat.le_add_right _ _
        · rw [z]; exact Nat.le_refl _
      exact I1.fpOk hle (I1.hok.fresh hle)
    rcases hZ with rfl | rfl
    · obtain ⟨its, rv, p', hz⟩ := I1.list hq
      refine call_enumerate_list p'.isList fun h' he hit hsz hk => wpAny_pyIter_enum he ?_
      have I2 : Inv X pins σ H1 { s1 with heap := h' } := I1.kept (t' := s1.toks) hk
      exact ⟨s1.heap.objs.size + 1, [s1.heap.objs.size + 1, s1.heap.objs.size], _, _, H1, rfl, I2, turn_enum a (s1.heap.objs.size + 1) s1.heap.objs.size, ⟨⟨.none, he⟩, hit, Nat.succ_ne_self _⟩, fpo I2, q _ walk_enum⟩
    · obtain ⟨its, rv, p', hz⟩ := I1.tuple hq
      refine call_enumB (begins_tuple a its.toArray) p' fun h' he hit hsz hk => wpAny_pyIter_enum he ?_
      have I2 : Inv X pins σ H1 { s1 with heap := h' } := I1.kept (t' := s1.toks) hk
      exact ⟨s1.heap.objs.size + 1, [s1.heap.objs.size + 1, s1.heap.objs.size], _, _, H1, rfl, I2, turn_enumT a (s1.heap.objs.size + 1) s1.heap.objs.size, ⟨⟨.none, he⟩, ⟨_, hit, rfl, rfl⟩, Nat.succ_ne_self _⟩, fpo I2, q _ walk_enumT⟩
end K17

set_option Elab.async false
set_option linter.all false
set_option maxRecDepth 100000
set_option maxHeartbeats 4000000
set_option autoImplicit false
namespace K17
open PySem PySem.Spec PyProof.Rows L2
/-! ### are_cells -/
/-- a row of cells, a list or a tuple -/
def Row (K : PySem.W.Frag) (H : Hp) (a : Addr) (cs : List Int) : Prop := SqL K H a (ivs cs) ∨ SqT K H a (ivs cs)
def spAre (K : PySem.W.Frag) : Sp := fun vs H Q _ => ∃ (a : Addr) (cs : List Int), vs = [.ref a] ∧ Row K H a cs ∧ cs.length ≤ 1000000 ∧ (∀ z ∈ cs, 0 ≤ z ∧ z < 64) ∧ ∀ H', Same H H' → Q (.bl true) H'
theorem sc_are : FnScope ["thing", "cell"] ["thing"] dAre.scope := ⟨rfl, rfl, rfl, by decide +kernel, rfl, by decide +kernel, by decide +kernel⟩
theorem sqL_same {K : PySem.W.Frag} {H H' : Hp} {a : Addr} {xs : List V} (e : Same H H') (hs : SqL K H a xs) : SqL K H' a xs := e.seq hs
theorem Row.same {K : PySem.W.Frag} {H H' : Hp} {a : Addr} {cs : List Int} (e : Same H H') (h : Row K H a cs) : Row K H' a cs := h.elim (fun h => .inl (sqL_same e h)) (fun h => .inr (sq_same e h))
theorem line1M {n : Nat} (h : n ≤ 1000000) : n ≤ sizeLine := by rw [sizeLine_eq]; omega
theorem ivs_get {cs : List Int} {i : Nat} {x : V} (h : (ivs cs)[i]? = some x) : ∃ y, cs[i]? = some y ∧ x = .int y := by
  unfold ivs at h
  rw [List.getElem?_map] at h
  cases e : cs[i]? with
  | none => rw [e] at h; cases h
  | some y => rw [e] at h; exact ⟨y, rfl, (Option.some.inj h).symm⟩
theorem sqL_dp {K : PySem.W.Frag} {H : Hp} {a : Addr} {cs : List Int} (h : SqL K H a (ivs cs)) : Dp K H (.ref a) (.list (cs.map PyData.int)) := .lst h (dpA_ivs cs)
theorem sqT_dp {K : PySem.W.Frag} {H : Hp} {a : Addr} {cs : List Int} (h : SqT K H a (ivs cs)) : Dp K H (.ref a) (.tuple (cs.map PyData.int)) := .tup h (dpA_ivs cs)
section
variable {P : Program} {w : World} {K : PySem.W.Frag} {mg : Str → Option Value} {base : Heap}
theorem ok_are (T : Tx K mg) (D : Dn K mg dAre) (cN : Cal P w K mg base CX0 1 "is_number" (spNumber K)) : Cal P w K mg base CX0 2 "are_cells" (spAre K) := by
  obtain ⟨fd, F⟩ := D.fn
  refine cal_of F D.gl (F.bindsN (ps := ["thing"]) fun _ _ _ _ _ _ us hl => match us, hl with | [_], _ => rfl) ?_
  refine F.ok sc_are (fun vs H Q E h => ?_) (fun cdv A outer s H vs Q E hr h => ?_)
  · obtain ⟨a, cs, rfl, _⟩ := h
    rfl
  obtain ⟨a, cs, rfl, hrow, hlen, hcs, q⟩ := h
  have nd' := sc_are.nd
  have fin : ∀ (D : Addr) (H0 H1 : Hp), Same H H0 → Fill H0 D (cs.map fun _ => V.bl true) cs.length H1 → (∃ (a' : Addr) (bs : List Bool), [V.ref D] = [V.ref a'] ∧ SqL K H1 a' (bs.map V.bl) ∧ Q (.bl (bs.all id)) H1) := fun D H0 H1 e p => by
    have hw := p.whole (by simp)
    refine ⟨D, cs.map fun _ => true, rfl, SqL.of (by rw [hw, List.map_map]; rfl), ?_⟩
    rw [show (cs.map fun _ => true).all id = true by simp]
    exact q H1 (e.trans p.1)
  rcases hrow with hs | hs
  · refine ⟨_, PSs.nox (pss_one (ps_ret (pe_and (pe_callB call_isiT (by rfl) T.isi boot_isinstance (pa_cons (pv 0) (pa_cons (pe_tup (pa_cons (pe_ty T.tuple boot_tuple) (pa_cons (pe_ty T.list boot_list) pa_nil))) pa_nil)))
      (pe_one (pe_callB (cr_all rfl) (by rfl) T.all boot_all (pa_cons (pe_lc (own := [("cell", 1)]) (g := gName 1) (tt := tYes) rfl nd' (pi_list (pv 0)) (blkOk_by (N := ["thing", "cell"]) (sc := dAre.scope) (own := [("cell", 1)]) (by decide +kernel)) (fun _ _ _ _ _ => pg_name (i := 1) nd' rfl (Or.inl rfl)) (fun _ _ _ _ _ => pts_nil)
        (fun _ _ _ _ _ => pe_cal cN hr (by decide) pass0 (pa_cons (pv 1) (pa_cons pe_int (pa_cons pe_int pa_nil))))) pa_nil)))))), ?_⟩
    refine ⟨_, rfl, by show 2 ≤ sizeLine; exact two_line, fun tp htp => ?_⟩
    have e1 := same_new htp (.tup [V.ty "tuple", V.ty "list"])
    have hs1 := sqL_same e1 hs
    refine ⟨_, tp, _, _, [.type "tuple", .type "list"], true, rfl, upd_same, .cons (.ty _) (.cons (.ty _) .nil), dp_ty (sqL_dp hs1), kitAny_cons (b := false) (kt "list" "tuple") (fun _ => kitAny_cons (b := true) (kt "list" "list") (fun z => nomatch z) fun _ => rfl) (fun z => nomatch z), true, rfl, iteT ?_⟩
    refine ⟨_, rfl, a, rfl, ⟨_, hs1⟩, fun D hD => ?_⟩
    refine lc_list (K := K) (a := a) (xs := ivs cs) (Fill _ D (cs.map fun _ => V.bl true)) (Fill.start hD) (fun i H1 _ p => sqL_same p.1 hs1) (fun i y H1 hy p => ?_) fun H1 p => fin D _ H1 e1 (by rw [ivs_len] at p; exact p)
    obtain ⟨z, hz, rfl⟩ := ivs_get hy
    refine ⟨rfl, _, rfl, _, .int z, _, _, rfl, .int z, ?_⟩
    have hz64 := hcs z (List.mem_of_getElem? hz)
    rw [show isNum (.int z) 0 64 = true by simp [isNum, hz64]]
    exact p.next hD (Same.refl _) (by rw [List.getElem?_map, hz]; rfl) (by rw [List.length_map]; exact line1M hlen)
  · refine ⟨_, PSs.nox (pss_one (ps_ret (pe_and (pe_callB call_isiT (by rfl) T.isi boot_isinstance (pa_cons (pv 0) (pa_cons (pe_tup (pa_cons (pe_ty T.tuple boot_tuple) (pa_cons (pe_ty T.list boot_list) pa_nil))) pa_nil)))
      (pe_one (pe_callB (cr_all rfl) (by rfl) T.all boot_all (pa_cons (pe_lc (own := [("cell", 1)]) (g := gName 1) (tt := tYes) rfl nd' (pi_tup (pv 0)) (blkOk_by (N := ["thing", "cell"]) (sc := dAre.scope) (own := [("cell", 1)]) (by decide +kernel)) (fun _ _ _ _ _ => pg_name (i := 1) nd' rfl (Or.inl rfl)) (fun _ _ _ _ _ => pts_nil)
        (fun _ _ _ _ _ => pe_cal cN hr (by decide) pass0 (pa_cons (pv 1) (pa_cons pe_int (pa_cons pe_int pa_nil))))) pa_nil)))))), ?_⟩
    refine ⟨_, rfl, by show 2 ≤ sizeLine; exact two_line, fun tp htp => ?_⟩
    have e1 := same_new htp (.tup [V.ty "tuple", V.ty "list"])
    have hs1 := sq_same e1 hs
    refine ⟨_, tp, _, _, [.type "tuple", .type "list"], true, rfl, upd_same, .cons (.ty _) (.cons (.ty _) .nil), dp_ty (sqT_dp hs1), kitAny_cons (b := true) (kt "tuple" "tuple") (fun z => nomatch z) (fun _ => rfl), true, rfl, iteT ?_⟩
    refine ⟨_, rfl, a, rfl, ⟨_, hs1⟩, fun D hD => ?_⟩
    refine lc_tup (K := K) (a := a) (xs := ivs cs) (Fill _ D (cs.map fun _ => V.bl true)) (Fill.start hD) (fun i H1 _ p => sq_same p.1 hs1) (fun i y H1 hy p => ?_) fun H1 p => fin D _ H1 e1 (by rw [ivs_len] at p; exact p)
    obtain ⟨z, hz, rfl⟩ := ivs_get hy
    refine ⟨rfl, _, rfl, _, .int z, _, _, rfl, .int z, ?_⟩
    have hz64 := hcs z (List.mem_of_getElem? hz)
    rw [show isNum (.int z) 0 64 = true by simp [isNum, hz64]]
    exact p.next hD (Same.refl _) (by rw [List.getElem?_map, hz]; rfl) (by rw [List.length_map]; exact line1M hlen)
end
end K17

set_option Elab.async false
set_option linter.all false
set_option maxRecDepth 100000
set_option maxHeartbeats 4000000
set_option autoImplicit false
namespace K17
open PySem PySem.Spec PyProof.Rows L2
/-! ### tree_of -/
def spTreeOf (K : PySem.W.Frag) (CF : Addr) : Sp := fun vs H Q E => ∃ (a : Addr) (cs : List Int), vs = [.ref a] ∧ Row K H a cs ∧ cs.length ≤ 400000 ∧ (∀ z ∈ cs, 0 ≤ z ∧ z < 64) ∧
  (∀ d, treeOf cs = .ok d → ∀ v H', Same H H' → Dp K H' v d → Q v H') ∧
  (∀ i, treeOf cs = .error i → ∀ dd H', Same H H' → H' dd = some (.xd [("at", .int (i : Nat))]) → E (.ref CF) (some dd) H')
abbrev nTreeOf : List Str := ["cells", "reading", "at", "cell"]
theorem sc_treeOf : FnScope nTreeOf ["cells"] dTreeOf.scope := ⟨rfl, rfl, rfl, by decide +kernel, rfl, by decide +kernel, by decide +kernel⟩
theorem whole_shape {S : RS} (h : whole S = true) : ∃ d r, S.stack = [d :: r] := by
  obtain ⟨st, le, di⟩ := S
  match st, le, di with
  | [t], none, none =>
    cases t with
    | nil => exact absurd h (by decide)
    | cons d r => exact ⟨d, r, rfl⟩
  | [], _, _ => exact absurd h (by simp [whole])
  | _ :: _ :: _, _, _ => exact absurd h (by simp [whole])
  | [_], some _, _ => exact absurd h (by simp [whole])
  | [_], none, some _ => exact absurd h (by simp [whole])
/-- what a raise of BadFile(i) leaves -/
theorem file_made {C : Addr} {H : Hp} {i : Int} {W : XK} (h : ∀ dd H', Same H H' → H' dd = some (.xd [("at", .int i)]) → W (.ref C) (some dd) H') (K : PySem.W.Frag) :
    ∀ a, H a = none → spFile K C (.ref a :: ([.int i] ++ [])) (upd H a (exo a C none))
      (fun v H2 => v = .non ∧ ∃ (d : Addr) (fs : List (Str × V)), H2 a = some (exo a C (some d)) ∧ H2 d = some (exd d fs) ∧ H d = none ∧ W (.ref C) (some d) (upd (del H2 a) d (.xd fs))) (fun _ _ _ => False) := by
  intro a ha
  refine ⟨a, i, rfl, upd_same, fun d hd hne => ⟨rfl, d, _, upd_same, by rw [upd_ne hne]; exact upd_same, by rw [upd_ne hne] at hd; exact hd, ?_⟩⟩
  have hd' : H d = none := by rw [upd_ne hne] at hd; exact hd
  refine h d _ (fun b u hb => ?_) upd_same
  have h1 : b ≠ d := fun z => by rw [z, hd'] at hb; cases hb
  have h2 : b ≠ a := fun z => by rw [z, ha] at hb; cases hb
  rw [upd_ne h1, del_ne h2, upd_ne h2, upd_ne h1, upd_ne h2]
  exact hb
section
variable {P : Program} {w : World} {K : PySem.W.Frag} {mg : Str → Option Value} {base : Heap} {C fI cda cc : Addr}
theorem ok_treeOf (T : Tx K mg) (R : RdT K mg) (F : FlT P K mg C fI cda cc) (D : Dn K mg dTreeOf) (cA : Cal P w K mg base CX0 2 "are_cells" (spAre K)) (cT : CalM P w K mg base CX0 2 "takes" (spTakes K)) (cW : CalM P w K mg base CX0 1 "is_whole" (spWhole K)) : Cal P w K mg base (L2.CX P w) 4 "tree_of" (spTreeOf K C) := by
  obtain ⟨fd, FD⟩ := D.fn
  obtain ⟨fdI, FI, bI⟩ := ok_init (P := P) (w := w) (base := base) T R
  obtain ⟨fdF, FF, bF⟩ := ok_file (w := w) (base := base) F T
  refine cal_of FD D.gl (FD.bindsN (ps := ["cells"]) fun _ _ _ _ _ _ us hl => match us, hl with | [_], _ => rfl) ?_
  refine FD.ok sc_treeOf (fun vs H Q E h => ?_) (fun cdv A outer s H vs Q E hr h => ?_)
  · obtain ⟨a, cs, rfl, _⟩ := h
    rfl
  obtain ⟨a, cs, rfl, hrow, hlen, hcs, q1, q2⟩ := h
  have nd' := sc_treeOf.nd
  refine ⟨_, pss_cons (ps_if (pt_not (pt_val (pe_cal cA hr (by decide) pass0 (pa_cons (pv 0) pa_nil)))) (pss_one ps_never) pss_nil)
    (pss_cons (ps_set (i := 1) nd' rfl (.inl rfl) (pe_make0 R.mkr FI (hr.mono (by decide)) rfl R.gl bI .nil pass0))
    (pss_cons (ps_for PassesOwn.leaving rfl (pi_enumT rfl T.enum (pa_cons (pv 0) pa_nil)) (pg_tup rfl (pgs_cons (pg_name (i := 2) nd' rfl (Or.inl rfl)) (pgs_cons (pg_name (i := 3) nd' rfl (Or.inl rfl)) pgs_nil)))
      (pss_one (ps_if (pt_not (pt_val (pe_m cT hr (by decide) pass0 (pv 1) (pa_cons (pv 3) pa_nil)))) (pss_one (ps_raise rfl (takes_of rfl rfl rfl rfl) (pmk_oex F.oex F.ini F.tfI FF (hr.mono (by decide)) bF .nil pass0 rfl F.gl (pa_cons (pv 2) pa_nil)))) pss_nil)))
    (pss_cons (ps_if (pt_not (pt_val (pe_m0 cW hr (by decide) pass0 (pv 1)))) (pss_one (ps_raise rfl (takes_of rfl rfl rfl rfl) (pmk_oex F.oex F.ini F.tfI FF (hr.mono (by decide)) bF .nil pass0 rfl F.gl (pa_cons (pe_callB call_len_seq (by rfl) T.len PySem.boot_len (pa_cons (pv 0) pa_nil)) pa_nil)))) pss_nil)
    (pss_one (ps_ret (pe_ix ix_list (pe_ix ix_list (pe_fld (pv 1) rfl) pe_int (fun _ _ => rfl)) pe_int (fun _ _ => rfl))))))), ?_⟩
  refine ⟨_, rfl, a, cs, rfl, hrow, by omega, hcs, fun H1 e1 => ⟨true, rfl, iteF ?_⟩⟩
  intro x dx hx hdx hne
  refine ⟨x, dx, H1, rfl, fun b u hb => ?_, hx, upd_same, fun H2 hRA => ⟨rfl, ?_⟩⟩
  · have n1 : b ≠ x := fun z => by rw [z, hx] at hb; cases hb
    have n2 : b ≠ dx := fun z => by rw [z, hdx] at hb; cases hb
    rw [upd_ne n1, upd_ne n2]
    exact hb
  have hrow1 := hrow.same e1
  obtain ⟨Z, hZ, hZ1, hZs⟩ : ∃ Z : Hp → Prop, (Z = (fun H => SqL K H a (ivs cs)) ∨ Z = (fun H => SqT K H a (ivs cs))) ∧ Z H1 ∧ ∀ H H', Same H H' → Z H → Z H' := by
    rcases hrow1 with h | h
    · exact ⟨_, .inl rfl, h, fun _ _ e h => sqL_same e h⟩
    · exact ⟨_, .inr rfl, h, fun _ _ e h => sq_same e h⟩
  have hsm : ∀ {H3 : Hp} {S : RS} {n : Nat}, RAt K (RC K) H1 H3 x S n → Same H1 H3 := fun ⟨_, _, _, _, _, ra⟩ => ra.sm
  refine ⟨_, rfl, a, ivs cs, Z, rfl, hZ, hZs _ _ (hsm hRA) hZ1, fun J W => ?_⟩
  have Tok : ∀ {o : HO} {p : Addr} {H3 : Hp} {S : RS} {n : Nat}, H3 p = none → RAt K (RC K) H1 H3 x S n → RAt K (RC K) H1 (upd H3 p o) x S n := fun {o p H3 S n} hp ⟨dx, t, as, lv, dv, ra⟩ => ⟨dx, t, as, lv, dv, ra.ext (same_new hp o)⟩
  refine for_it W (fun i σ H3 => ∃ S, runAt RS.init 0 cs = runAt S i (cs.drop i) ∧ RAt K (RC K) H1 H3 x S i ∧ σ[0]? = some (some (.ref a)) ∧ σ[1]? = some (some (.ref x)) ∧ (∃ z, σ[2]? = some z) ∧ (∃ z, σ[3]? = some z))
    ⟨RS.init, by simp, hRA, rfl, rfl, ⟨_, rfl⟩, ⟨_, rfl⟩⟩ (fun i σ H3 _ ⟨S, _, hR, _⟩ => hZs _ _ (hsm hR) hZ1) (fun i y σ H3 H4 hi ⟨S, hrun, hR, s0, s1, ⟨z2, s2⟩, ⟨z3, s3⟩⟩ hy => ?_) (fun σ H3 ⟨S, hrun, hR, s0, s1, _, _⟩ => ?_)
  · obtain ⟨Tp, u1, u2, rfl, hTp, rfl, e1', e2'⟩ := hy
    cases e1'
    obtain ⟨z, hz, rfl⟩ := ivs_get e2'
    have hzr := hcs z (List.mem_of_getElem? hz)
    have hdrop : cs.drop i = z :: cs.drop (i + 1) := by
      have := (List.getElem?_eq_some_iff.mp hz)
      obtain ⟨h1, h2⟩ := this
      rw [← h2]
      exact List.drop_eq_getElem_cons h1
    rw [hdrop] at hrun
    refine ⟨Tp, _, rfl, SqT.of upd_same, rfl, _, _, rfl, _, _, rfl, ?_⟩
    have hR4 := Tok (o := .tup [.int (i : Nat), .int z]) hTp hR
    have hi2 : i < 400000 := by rw [ivs_len] at hi; omega
    refine ⟨rfl, ?_⟩
    have t1 : ((σ.set 2 (some (V.int (i : Nat)))).set 3 (some (V.int z)))[1]? = some (some (.ref x)) := (set_other (by decide)).trans ((set_other (by decide)).trans s1)
    have t0 : ((σ.set 2 (some (V.int (i : Nat)))).set 3 (some (V.int z)))[0]? = some (some (.ref a)) := (set_other (by decide)).trans ((set_other (by decide)).trans s0)
    have t2 : ((σ.set 2 (some (V.int (i : Nat)))).set 3 (some (V.int z)))[2]? = some (some (.int (i : Nat))) := (set_other (by decide)).trans (set_get s2)
    have t3 : ((σ.set 2 (some (V.int (i : Nat)))).set 3 (some (V.int z)))[3]? = some (some (.int z)) := set_get ((set_other (by decide)).trans s3)
    obtain ⟨dx4, t4, as4, lv4, dv4, ra4⟩ := id hR4
    refine ⟨_, t1, x, _, _, rfl, ra4.hr, rfl, _, t3, x, z, H1, S, i, rfl, hR4, by omega, hzr.1, hzr.2, ?_⟩
    cases hst : step S z with
    | some S' =>
      intro H5 hR5
      refine ⟨true, rfl, iteF ⟨S', ?_, hR5, t0, t1, ⟨_, t2⟩, ⟨_, t3⟩⟩⟩
      rw [hrun]
      simp only [runAt, hst]
    | none =>
      intro H5 e5
      refine ⟨false, rfl, iteT ⟨_, t2, by simp, ?_⟩⟩
      refine file_made (fun dd H' e' hdd => ?_) K
      refine q2 i ?_ dd H' ((e1.trans e5).trans e') hdd
      unfold treeOf
      rw [hrun]
      simp only [runAt, hst]
  · rw [ivs_len] at hrun hR
    rw [List.drop_length] at hrun
    obtain ⟨dx4, t4, as4, lv4, dv4, ra4⟩ := id hR
    refine ⟨_, s1, x, _, _, rfl, ra4.hr, rfl, x, H1, S, cs.length, rfl, hR, fun H5 e5 hR5 => ?_⟩
    have ht : treeOf cs = if whole S = true then .ok (told S) else .error cs.length := by
      unfold treeOf
      rw [hrun]
      rfl
    cases hw : whole S with
    | true =>
      rw [hw, if_pos rfl] at ht
      obtain ⟨d, r, hS⟩ := whole_shape hw
      obtain ⟨dx5, t5, as5, lv5, dv5, ra5⟩ := hR5
      have pa := ra5.pa
      rw [hS] at pa
      obtain ⟨b, rfl⟩ : ∃ b, as5 = [b] := by
        have := lists_len pa
        match as5, this with
        | [b], _ => exact ⟨b, rfl⟩
      obtain ⟨xs, hb, hxs⟩ := pa.1
      cases hxs with
      | @cons v _ vr _ h1 h2 =>
      refine ⟨true, rfl, iteF ⟨_, s1, x, _, _, _, _, rfl, ra5.hr, R.cl, R.n1, rfl, _, _, _, _, rfl, rfl, SqL.of ra5.ht, rfl, _, _, _, _, rfl, rfl, SqL.of hb, atI_nat (j := 0) rfl, ?_⟩⟩
      refine q1 d ?_ v H5 (e1.trans ra5.sm) h1
      rw [ht]
      simp [told, hS]
    | false =>
      rw [hw, if_neg (by decide)] at ht
      refine ⟨false, rfl, iteT ⟨_, s0, a, _, rfl, hrow1.same (hsm hR5), by simp, ?_⟩⟩
      rw [ivs_len]
      exact file_made (fun dd H' e' hdd => q2 _ ht dd H' ((e1.trans (hsm hR5)).trans e') hdd) K
end
end K17

set_option Elab.async false
set_option linter.all false
set_option maxRecDepth 100000
set_option maxHeartbeats 4000000
set_option autoImplicit false
namespace K17
open PySem PySem.Spec PyProof.Rows L2
/-! ### a caught error that is kept as a value -/
/-- at a: an error of the class cls, its dict d -/
def xo (a : Addr) (cls : Value) (d : Option Addr) : HO := .ext fun h => ∃ (oe : Obj) (vs : Array Value), h.get? a = some oe ∧ Zc cls d oe ∧ oe.data = .fields vs
theorem xo_ok {P : Program} {w : World} {H : Hp} {h : Heap} {a : Addr} {cls : Value} {d : Option Addr} {oe : Obj} {vs : Array Value} (e : h.get? a = some oe) (z : Zc cls d oe) (hd : oe.data = .fields vs) : ObjOk P w H h a (xo a cls d) :=
  ⟨⟨oe, vs, e, z, hd⟩, ⟨oe, e⟩, fun h1 h2 y k => by
    obtain ⟨o2, vs2, y1, y2, y3⟩ := y
    exact ⟨o2, vs2, k _ y1, y2, y3⟩⟩
theorem xo_at {P : Program} {w : World} {H : Hp} {h : Heap} {a : Addr} {cls : Value} {d : Option Addr} (hok : HOk P w H h) (e : H a = some (xo a cls d)) : ∃ (oe : Obj) (vs : Array Value), h.get? a = some oe ∧ Zc cls d oe ∧ oe.data = .fields vs := by
  have x : ObjOk P w H h a (.ext fun h => ∃ (oe : Obj) (vs : Array Value), h.get? a = some oe ∧ Zc cls d oe ∧ oe.data = .fields vs) := hok a _ e
  exact x.1
section
variable {X : Cx} {pins : List (Addr × Obj)} {σ : L2.St} {H : Hp} {s : Shared}
theorem inv_track {a : Addr} {cls : Value} {d : Option Addr} {oe : Obj} {vs : Array Value} (I : Inv X pins σ H s) (ha : s.heap.get? a = some oe) (hz : Zc cls d oe) (hd : oe.data = .fields vs) (h0 : X.s_0.heap.get? a = none) (na : H a = none)
    (nL : a ≠ X.env.locals) (nP : ∀ p ∈ X.pn ++ pins, p.1 ≠ a) : Inv X pins σ (upd H a (xo a cls d)) s := by
  have other : ∀ {b : Addr} {o : HO}, H b = some o → b ≠ a := fun h z => by rw [z, na] at h; cases h
  refine ⟨I.ok, I.os, I.bare, ⟨I.base.keep, I.base.slot, fun b o e n x => ?_, I.base.there, fun b xs e => ?_, fun b o u e => ?_, fun b ps e => ?_⟩, I.loc, I.cell, ?_, fun y c e => ?_, fun p hp => ?_, fun b u e => ?_, I.len⟩
  · rw [upd_ne (fun z => by rw [z, h0] at e; cases e)]
    exact I.base.free b o e n x
  · have q := I.base.tups b xs e
    rw [upd_ne (other q)]
    exact q
  · have q := I.base.frzs b o u e
    rw [upd_ne (other q)]
    exact q
  · obtain ⟨more, q⟩ := I.base.tbls b ps e
    exact ⟨more, by rw [upd_ne (other q)]; exact q⟩
  · rw [upd_ne (Ne.symm nL)]
    exact I.free
  · obtain ⟨v, o, ho, hc⟩ := I.cell y c e
    have hca : c ≠ a := fun z => by
      rw [z, ha] at ho
      cases ho
      rw [hd] at hc
      cases hc
    rw [upd_ne hca]
    exact I.freeC y c e
  · obtain ⟨p1, p2, p3⟩ := I.pin p hp
    exact ⟨p1, by rw [upd_ne (nP p hp)]; exact p2, p3⟩
  · by_cases hb : b = a
    · subst hb
      rw [upd_same] at e
      cases e
      exact xo_ok ha hz hd
    · rw [upd_ne hb] at e
      exact (I.hok b u e).stay (fun _ _ _ q => q) (fun c q => by rw [upd_ne (other q)]; exact q) fun c xs q => by rw [upd_ne (other q)]; exact q
/-- what 'except x as n: suite' makes of an error that it catches for sure; the error stays told -/
def wKeep (K : PySem.W.Frag) (c : Value) (i n : Nat) (ts : TS) (D : Ends) : WX := fun cls d σ H => PySem.W.exmOne K cls c = some true ∧
  ∀ a, H a = none → σ.length = n → ts { nx := fun σ' H' => D.nx (σ'.set i none) H', rt := fun _ _ => False, bk := fun _ _ => False, ct := fun _ _ => False } (σ.set i (some (.ref a))) (upd H a (xo a cls d))
theorem ps_keep {x n : Str} {c : Value} {i : Nat} {body suite : List Stmt} {b₀ : Stmt} {np pos pos' : Pos} {tb : WX → TS} {ts : TS} (hs : X.stack = X.env :: X.outer) (hf : X.env.frame = some X.env.locals) (hex : X.ex = []) (hN : X.N.Nodup) (hi : X.N[i]? = some n) (hln : X.env.kindOf n = some .local) (hc : Names X x c)
    (hb : ∀ (W : WX) (pn : List (Addr × Obj)) (xe : Value → Shared → Prop), Takes (X.tr pn xe) W → PSs (X.tr pn xe) body (tb W))
    (hsu : ∀ (a : Addr) (pn : List (Addr × Obj)), PSs (X.suite a pn) (b₀ :: suite) ts) :
    PS X (.Try body [.ExceptHandler (some (.Name x np)) (some n) (b₀ :: suite) pos'] [] [] pos) (fun D σ H => tb (wKeep X.K c i X.N.length ts D) D σ H) := by
  constructor
  intro pins s σ H D I h
  have ok := I.ok
  have frA : X.A.frames = some (X.env :: X.outer) := ok.frames.trans (congrArg some hs)
  refine wpAny_Try_except (wpAny_mono ((hb (wKeep X.K c i X.N.length ts D) (X.pn ++ pins) _ ?_).run [] s σ H D (I.toTry _) h) (fun f s1 hsp => ?_) fun _ _ z => z)
  · intro u s' xx
    obtain ⟨a, B, sI, pins', σ', H', cls, d, rfl, J', nb, up, sky, na, os, ag, hm, hts⟩ := xx
    have J : Inv X pins σ' H' sI := J'.ofTry ok
    rw [show (X.tr (X.pn ++ pins) _).stack = X.env :: X.outer from hs] at sky
    refine Sky.land Zc.steady frA hf sky fun h3 fl3 up3 => ?_
    have J3 := J.landed (s' := { s' with heap := h3 }) nb fl3.1 (up.trans up3) os ag
    obtain ⟨oe3, vs3, he3, hz3, hd3⟩ := fl3.there
    have nfr : a ∉ frs (X.env :: X.outer) := fun hmem => by
      obtain ⟨_, o', e', hnf⟩ := fl3.2.2.1.mem hmem
      rw [he3] at e'
      cases e'
      exact hnf _ hd3
    have nL : a ≠ X.env.locals := fun z => nfr (List.mem_filterMap.mpr ⟨X.env, List.mem_cons_self, by rw [hf, z]⟩)
    have nB : B.get? a = none := fl3.2.1
    have nsI : sI.heap.get? a = none := by
      cases e : sI.heap.get? a with
      | none => rfl
      | some o =>
        have z := nb a o e (by rw [show (X.tr (X.pn ++ pins) _).stack = X.env :: X.outer from hs]; exact nfr)
        rw [nB] at z
        cases z
    have ns0 : X.s_0.heap.get? a = none := by
      cases e : X.s_0.heap.get? a with
      | none => rfl
      | some o =>
        obtain ⟨o', z⟩ := J.base.there a o e (by rw [hex]; simp)
        rw [nsI] at z
        cases z
    have nP : ∀ p ∈ X.pn ++ pins, p.1 ≠ a := fun p hp z => by
      have q := (J.pin p hp).1
      rw [z, nsI] at q
      cases q
    have suiteOf : ∀ {σ0 : L2.St} {H0 : Hp} {s0 : Shared}, Inv X pins σ0 H0 s0 → Inv (X.suite a (X.pn ++ pins)) [] σ0 H0 s0 := fun {σ0 H0 s0} Y => ⟨Y.ok.suite _ _, Y.os, Y.bare, Y.base, Y.loc, Y.cell, Y.free, Y.freeC, fun p hp => Y.pin p (by simpa using hp), Y.hok, Y.len⟩
    have back : ∀ {σ0 : L2.St} {H0 : Hp} {s0 : Shared}, Inv (X.suite a (X.pn ++ pins)) [] σ0 H0 s0 → Inv X pins σ0 H0 s0 := fun {σ0 H0 s0} Y => ⟨ok, Y.os, Y.bare, Y.base, Y.loc, Y.cell, Y.free, Y.freeC, fun p hp => Y.pin p (by simpa using hp), Y.hok, Y.len⟩
    refine wpAny_handleBy_cons (codeAny_handlers_test ?_) (fun q => by cases q)
    have LT : PySem.W.Looks (model X.prog X.w) h3 (typeOf (.ref a)) cls := fun A Q E s k q => wpAny_typeOf_ref (k _ _ he3) (by rw [hz3.1]; exact q)
    have LM := PySem.W.exm_one (M := model X.prog X.w) J3.kIn LT hm
    have test : ∀ {Q : Value → Shared → Prop} {E : Value → Shared → Prop}, Q c { s' with heap := h3 } → wpAny (model X.prog X.w) (X.A.mark (some (.ref a))) (eval (.Name x np) X.env) Q E { s' with heap := h3 } := fun {Q E} q => by
      obtain ⟨hg, hdbg, hm | ⟨hm, hv, hnn⟩⟩ := hc
      · exact ld_glob (X := X.suite a (X.pn ++ pins)) (suiteOf J3) hg hm q hdbg
      · exact ld_blt (X := X.suite a (X.pn ++ pins)) (suiteOf J3) hg hm hv q hnn hdbg
    refine test (LM.here (codeAny_handlers_suite_as (HandSPX.lands_againZ fl3 fun h4 fl4 up4 => ?_)))
    have J4 := J.landed (s' := { s' with heap := h4 }) nb fl4.1 ((up.trans up3).trans up4) os ag
    obtain ⟨oe4, vs4, he4, hz4, hd4⟩ := fl4.there
    have J5 := suiteOf (inv_track J4 he4 hz4 hd4 ns0 na nL nP)
    refine store_ok (X := X.suite a (X.pn ++ pins)) (v := .ref a) J5 hN hi (.inl hln) rfl (fun s5 S5 => ?_) (.inr hln)
    refine wpAny_mono ((hsu a (X.pn ++ pins)).run [] s5 _ _ _ S5 (hts a na J.len)) (fun f s6 hsp => ?_) fun _ _ z => z.elim
    cases f with
    | next =>
      obtain ⟨σ6, H6, S6, q6⟩ := hsp
      exact gone_ok (back S6) hN hi hln fun s7 J7 => ⟨_, _, J7, q6⟩
    | brk =>
      obtain ⟨_, _, _, z⟩ := hsp
      exact z.elim
    | cont =>
      obtain ⟨_, _, _, z⟩ := hsp
      exact z.elim
    | ret u =>
      obtain ⟨_, _, _, _, _, z⟩ := hsp
      exact z.elim
  · cases f with
    | next =>
      obtain ⟨σ', H', J', q⟩ := hsp
      exact wpAny_execs_nil ⟨σ', H', J'.ofTry ok, q⟩
    | brk =>
      obtain ⟨σ', H', J', q⟩ := hsp
      exact ⟨σ', H', J'.ofTry ok, q⟩
    | cont =>
      obtain ⟨σ', H', J', q⟩ := hsp
      exact ⟨σ', H', J'.ofTry ok, q⟩
    | ret u =>
      obtain ⟨v, σ', H', J', r, q⟩ := hsp
      exact ⟨v, σ', H', J'.ofTry ok, r, q⟩
end
end K17

set_option Elab.async false
set_option linter.all false
set_option maxRecDepth 100000
set_option maxHeartbeats 4000000
set_option autoImplicit false
namespace K17
open PySem PySem.Spec PyProof.Rows L2
/-! ### isinstance of a kept error, its field -/
/-- the dict of a kept error -/
def XDict (H : Hp) : Option Addr → Prop
  | none => True
  | some dd => ∃ fs, H dd = some (.xd fs)
def rIsX (K : PySem.W.Frag) : List V → Hp → VK → Prop := fun xs H Q => ∃ (a D : Addr) (d : Option Addr) (c : V) (cv : Value) (b : Bool), xs = [.ref a, c] ∧ H a = some (xo a (.ref D) d) ∧ XDict H d ∧ ExcC K D ∧ ClsV c cv ∧ PySem.W.kitOne K (.ref D) cv = some b ∧ Q (.bl b) H
section
variable {X : Cx} {pins : List (Addr × Obj)} {σ : L2.St} {H : Hp} {s : Shared}
theorem xo_inst {a D : Addr} {d : Option Addr} (I : Inv X pins σ H s) (e : H a = some (xo a (.ref D) d)) (hx : XDict H d) : ∃ (oe : Obj) (od : Option Obj), PySem.W.InstAt s.heap a oe D od ∧ ∀ dd fs, d = some dd → H dd = some (.xd fs) → ∃ o', od = some o' ∧ ∀ f v, fs.lookup f = some v → ∃ u : Value, PySem.W.lookIn f o' = some (some u) ∧ L2.RelV v u := by
  obtain ⟨oe, vs, he, hz, hd⟩ := xo_at I.hok e
  have hnc : PySem.W.notCls oe = true := by unfold PySem.W.notCls; rw [hd] <;> rfl
  cases d with
  | none => exact ⟨oe, none, ⟨he, hz.1, hnc, by rw [hz.2]; exact True.intro⟩, fun dd fs z => by cases z⟩
  | some dd =>
    obtain ⟨fs, hfs⟩ := hx
    obtain ⟨mA, hns, hr⟩ := (show ObjOk X.prog X.w H s.heap dd (.xd fs) from I.hok dd _ hfs)
    obtain ⟨od, ho, hl⟩ := lookIn_ns hns
    refine ⟨oe, some od, ⟨he, hz.1, hnc, by rw [hz.2]; exact ho⟩, fun d2 fs2 z hfs2 => ?_⟩
    cases z
    rw [hfs] at hfs2
    cases hfs2
    refine ⟨od, rfl, fun f v hv => ?_⟩
    have q := hr f
    rw [hv] at q
    obtain ⟨u, hu, ru⟩ := relO_some q
    exact ⟨u, by rw [hl, hu], ru⟩
theorem call_isX : CallR X (.builtin "isinstance") (rIsX X.K) := by
  intro pins s σ H xs us Q I r h
  obtain ⟨a, D, d, c, cv, b, rfl, ea, hx, C, k, e, q⟩ := h
  obtain ⟨u1, u2, rfl, r1, r2⟩ := vals2 r
  obtain rfl : u1 = Value.ref a := r1
  have e2 := k.eq r2
  subst e2
  obtain ⟨oe, od, J, _⟩ := xo_inst I ea hx
  obtain ⟨cd, hcd, _⟩ := PySem.W.any_some C.hd
  exact PySem.W.kia_one (PySem.W.kitx_exc (by rw [hcd]; rfl) C.hg C.hk C.hs C.ha C.hn C.ht C.hm) I.kIn J e (fun z => nomatch z) fun tk => ⟨.bl b, H, I.tok tk, rfl, q⟩
/-- e.f, e a kept error -/
def tXk (K : PySem.W.Frag) (te : TE) (f : Str) : TE := fun σ H Q => te σ H fun x H1 => ∃ (a D dd : Addr) (fs : List (Str × V)) (v : V), x = .ref a ∧ H1 a = some (xo a (.ref D) (some dd)) ∧ H1 dd = some (.xd fs) ∧ XfC K D ∧ PySem.W.findIn K (.ref D) f = some none ∧ fs.lookup f = some v ∧ Q v H1
theorem pe_xk {e : Expr} {te : TE} {pos : Pos} {f : Str} (he : PE X e te) (hb : attributeBase e f X.env (eval e X.env) = eval e X.env := by rfl) : PE X (.Attribute e f pos) (tXk X.K te f) := by
  constructor
  intro pins s σ H Q I h
  refine attr_of hb (thn (he.run pins s σ H _ I h) fun u s1 hh => ?_)
  obtain ⟨x, H1, I1, rx, a, D, dd, fs, v, rfl, ea, ed, T, hno, hl, q⟩ := hh
  obtain rfl : u = Value.ref a := rx
  obtain ⟨oe, od, J, hlk⟩ := xo_inst I1 ea ⟨fs, ed⟩
  obtain ⟨o', rfl, hf⟩ := hlk dd fs rfl ed
  obtain ⟨u, hu, ru⟩ := hf f v hl
  exact HandSPX.exc_get I1.kIn J T.ga T.gg T.exC (PySem.W.findObj_own T.hdC hno rfl hu) (handed_of ru) ⟨v, H1, I1.tok _, ru, q⟩
end
/-! ### _law_caught -/
def TKept (K : PySem.W.Frag) (CS : Addr) : (XK → Hp → VK → Prop) → Hp → VK → Prop := fun tl H Q =>
  tl (fun cls d H' => PySem.W.exmOne K cls (.ref CS) = some true ∧ ∀ a, H' a = none → Q (.ref a) (upd H' a (xo a cls d))) H Q
abbrev nCaught : List Str := ["_law_act", "_law_found", "_law_raised"]
theorem sc_caught : FnScope nCaught ["_law_act"] dCaught.scope := ⟨rfl, rfl, rfl, by decide +kernel, rfl, by decide +kernel, by decide +kernel⟩
theorem caught_gives {X : Cx} {g CS : Addr} {cdg : Value} {q : Str} (hm : X.mg "LinkError" = some (.ref CS)) : LamX.GivesTo X nCaught "_law_caught" dCaught.scope g cdg dCaught.body "_law_act" q (TKept X.K CS) := by
  intro f c' s H Q tl act hc h
  have nd' := sc_caught.nd
  have hgl : Gl (cxOf C8.CX0 X.prog X.w X.K X.mg X.base nCaught "_law_caught" dCaught.scope g cdg X.A X.stack s H C8.E0).nox "LinkError" := by rfl
  refine ⟨_, pss_cons (ps_keep (X := (cxOf C8.CX0 X.prog X.w X.K X.mg X.base nCaught "_law_caught" dCaught.scope g cdg X.A X.stack s H C8.E0).nox) (c := .ref CS) (i := 2) (ts := _)
      (tb := fun W D σ H => ∃ Ech : XK, (∀ cls d σ' H', Ech cls d H' → W cls d σ' H') ∧ σ[0]? = some (some (.ref f)) ∧ H c' = some (LamX.CodeO c' q) ∧ tl Ech H fun v H' => D.nx (σ.set 1 (some v)) H')
      rfl rfl rfl nd' rfl (by rfl) ⟨hgl, by decide, .inl hm⟩ (fun W pn xe tk => ?_) (fun a pn => pss_one (ps_set (i := 1) nd' rfl (.inl rfl) (pe_var (i := 2) rfl (.inl (by rfl)))))) (pss_one (ps_ret (pe_var (i := 1) rfl (.inl (by rfl))))), ?_⟩
  · constructor
    intro pins s' σ H' D I h'
    obtain ⟨Ech, hW, h1, h2, h3⟩ := h'
    exact (pss_one (ps_set (i := 1) nd' rfl (.inl rfl) (act W pn xe Ech _ _ tk hW))).run pins s' σ H' D I ⟨h1, h2, h3⟩
  · refine ⟨fun cls d H' => PySem.W.exmOne X.K cls (.ref CS) = some true ∧ ∀ a, H' a = none → Q (.ref a) (upd H' a (xo a cls d)), fun cls d σ' H' ⟨e1, e2⟩ => ⟨e1, fun a ha hn => ?_⟩, rfl, hc, ?_⟩
    · have l2 : 2 < σ'.length := by rw [hn]; exact (show 2 < 3 by decide)
      have l1 : 1 < σ'.length := by rw [hn]; exact (show 1 < 3 by decide)
      refine ⟨_, List.getElem?_set_self l2, _, ?_, e2 a ha⟩
      rw [List.getElem?_set_ne (by decide), List.getElem?_set_self (by rw [List.length_set]; exact l1)]
    · have e : (fun (v : V) (H' : Hp) => ∃ v0, ((L2.start nCaught [V.ref f]).set 1 (some v))[1]? = some (some v0) ∧ Q v0 H') = Q := by
        funext v H'
        refine propext ⟨fun ⟨v0, e1, e2⟩ => ?_, fun e2 => ⟨v, rfl, e2⟩⟩
        have e3 : some (some v) = some (some v0) := e1
        cases e3
        exact e2
      exact Eq.mpr (congrArg (tl _ H) e) h
end K17

set_option Elab.async false
set_option linter.all false
set_option maxRecDepth 100000
set_option maxHeartbeats 4000000
set_option autoImplicit false
namespace K17
open PySem PySem.Spec PyProof.Rows L2
/-! ### the law's draws: their dict -/
def dk (w c : Addr) (rest turn : Int) : List (Key × V) := [(.inr "wide", .ref w), (.inr "cells", .ref c), (.inr "rest", .int rest), (.inr "turn", .int turn)]
theorem dk_wide (w c : Addr) (r t : Int) : valV (dk w c r t) (.inr "wide") = some (.ref w) := by rfl
theorem dk_cells (w c : Addr) (r t : Int) : valV (dk w c r t) (.inr "cells") = some (.ref c) := by rfl
theorem dk_rest (w c : Addr) (r t : Int) : valV (dk w c r t) (.inr "rest") = some (.int r) := by rfl
theorem dk_turn (w c : Addr) (r t : Int) : valV (dk w c r t) (.inr "turn") = some (.int t) := by rfl
theorem dk_putRest (w c : Addr) (r t i : Int) : putK (dk w c r t) (.inr "rest") (.int i) = dk w c i t := by rfl
theorem dk_putTurn (w c : Addr) (r t i : Int) : putK (dk w c r t) (.inr "turn") (.int i) = dk w c r i := by rfl
theorem dk_len (w c : Addr) (r t : Int) : (dk w c r t).length < sizeLine := by rw [sizeLine_eq]; exact (show 4 < 16777216 by decide)
/-- the draws stand at d (their wide list at w, their cells at c); all that B tells stands, too; b bounds the turns -/
structure Drw (B H : Hp) (d w c : Addr) (b : Nat) : Prop where
  sm : Same B H
  bd : B d = none
  bw : B w = none
  st : ∃ (ws : List Int) (rest turn : Int), H d = some (.dK (dk w c rest turn)) ∧ H w = some (.lst (ivs ws)) ∧ 0 ≤ turn ∧ turn ≤ b
  cs : ∃ cs : List Int, B c = some (.lst (ivs cs))
section
variable {B B' H H' : Hp} {d w c p : Addr} {b b' : Nat} {o : HO}
theorem Drw.more (D : Drw B H d w c b) (h : b ≤ b') : Drw B H d w c b' := { D with st := by obtain ⟨ws, r, t, h1, h2, h3, h4⟩ := D.st; exact ⟨ws, r, t, h1, h2, h3, by omega⟩ }
/-- the heap grows, nothing new is told -/
theorem Drw.grow (D : Drw B H d w c b) (e : Same H H') : Drw B H' d w c b := { D with sm := D.sm.trans e, st := by obtain ⟨ws, r, t, h1, h2, h3, h4⟩ := D.st; exact ⟨ws, r, t, e _ _ h1, e _ _ h2, h3, h4⟩ }
theorem Drw.nd (D : Drw B H d w c b) (hp : H p = none) : p ≠ d := fun z => by obtain ⟨ws, r, t, h1, _⟩ := D.st; rw [z, h1] at hp; cases hp
theorem Drw.nw (D : Drw B H d w c b) (hp : H p = none) : p ≠ w := fun z => by obtain ⟨ws, r, t, _, h2, _⟩ := D.st; rw [z, h2] at hp; cases hp
theorem Drw.nc (D : Drw B H d w c b) (hp : H p = none) : p ≠ c := fun z => by obtain ⟨cs, h⟩ := D.cs; rw [z, D.sm _ _ h] at hp; cases hp
theorem Drw.bnone (D : Drw B H d w c b) (hp : H p = none) : B p = none := by
  cases h : B p with
  | none => rfl
  | some o => rw [D.sm _ _ h] at hp; cases hp
/-- a thing that is none of theirs is laid or written -/
theorem Drw.put (D : Drw B H d w c b) (h1 : p ≠ d) (h2 : p ≠ w) (h3 : p ≠ c) (o : HO) : Drw (upd B p o) (upd H p o) d w c b where
  sm := fun x u h => by
    by_cases hx : x = p
    · subst hx
      rw [upd_same] at h ⊢
      exact h
    · rw [upd_ne hx] at h ⊢
      exact D.sm _ _ h
  bd := by rw [upd_ne (Ne.symm h1)]; exact D.bd
  bw := by rw [upd_ne (Ne.symm h2)]; exact D.bw
  st := by
    obtain ⟨ws, r, t, a1, a2, a3, a4⟩ := D.st
    exact ⟨ws, r, t, by rw [upd_ne (Ne.symm h1)]; exact a1, by rw [upd_ne (Ne.symm h2)]; exact a2, a3, a4⟩
  cs := by
    obtain ⟨cs, h⟩ := D.cs
    exact ⟨cs, by rw [upd_ne (Ne.symm h3)]; exact h⟩
theorem Drw.new (D : Drw B H d w c b) (hp : H p = none) (o : HO) : Drw (upd B p o) (upd H p o) d w c b := D.put (D.nd hp) (D.nw hp) (D.nc hp) o
/-- less is told -/
theorem Drw.less (D : Drw B' H d w c b) (e : Same B B') (hc : ∃ cs : List Int, B c = some (.lst (ivs cs))) : Drw B H d w c b where
  sm := e.trans D.sm
  bd := by
    cases h : B d with
    | none => rfl
    | some o => have q := e _ _ h; rw [D.bd] at q; cases q
  bw := by
    cases h : B w with
    | none => rfl
    | some o => have q := e _ _ h; rw [D.bw] at q; cases q
  st := D.st
  cs := hc
theorem Drw.dw (D : Drw B H d w c b) : d ≠ w := fun z => by
  obtain ⟨ws, r, t, h1, h2, _⟩ := D.st
  rw [z, h2] at h1
  cases h1
/-- the dict is written -/
theorem Drw.setD (D : Drw B H d w c b) {r t : Int} (ht : 0 ≤ t) (hb : t ≤ b') : Drw B (upd H d (.dK (dk w c r t))) d w c b' where
  sm := fun x u h => by
    rw [upd_ne (fun z => by rw [z, D.bd] at h; cases h)]
    exact D.sm _ _ h
  bd := D.bd
  bw := D.bw
  st := by
    obtain ⟨ws, _, _, _, a2, _⟩ := D.st
    exact ⟨ws, r, t, upd_same, by rw [upd_ne (Ne.symm D.dw)]; exact a2, ht, hb⟩
  cs := D.cs
theorem Drw.setW (D : Drw B H d w c b) (ws : List Int) : Drw B (upd H w (.lst (ivs ws))) d w c b where
  sm := fun x u h => by
    rw [upd_ne (fun z => by rw [z, D.bw] at h; cases h)]
    exact D.sm _ _ h
  bd := D.bd
  bw := D.bw
  st := by
    obtain ⟨_, r, t, a1, _, a3, a4⟩ := D.st
    exact ⟨ws, r, t, by rw [upd_ne D.dw]; exact a1, upd_same, a3, a4⟩
  cs := D.cs
end
theorem dg_wide {H : Hp} {d w c : Addr} {r t : Int} (h : H d = some (.dK (dk w c r t))) : DGet H d (.str "wide") (some (.ref w)) := DGet.k (k := Sum.inr "wide") h
theorem dg_cells {H : Hp} {d w c : Addr} {r t : Int} (h : H d = some (.dK (dk w c r t))) : DGet H d (.str "cells") (some (.ref c)) := DGet.k (k := Sum.inr "cells") h
theorem dg_rest {H : Hp} {d w c : Addr} {r t : Int} (h : H d = some (.dK (dk w c r t))) : DGet H d (.str "rest") (some (.int r)) := DGet.k (k := Sum.inr "rest") h
theorem dg_turn {H : Hp} {d w c : Addr} {r t : Int} (h : H d = some (.dK (dk w c r t))) : DGet H d (.str "turn") (some (.int t)) := DGet.k (k := Sum.inr "turn") h
theorem dp_rest {H : Hp} {d w c : Addr} {r t : Int} (h : H d = some (.dK (dk w c r t))) (i : Int) : DPut H d (.str "rest") (.int i) (upd H d (.dK (dk w c i t))) := DPut.k (k := Sum.inr "rest") (v := .int i) h (dk_len w c r t)
theorem dp_turn {H : Hp} {d w c : Addr} {r t : Int} (h : H d = some (.dK (dk w c r t))) (i : Int) : DPut H d (.str "turn") (.int i) (upd H d (.dK (dk w c r i))) := DPut.k (k := Sum.inr "turn") (v := .int i) h (dk_len w c r t)
/-! ### _law_mixed -/
def spMixed : Sp := fun vs H Q _ => ∃ (d w c : Addr) (b : Nat) (B : Hp), vs = [.ref d] ∧ Drw B H d w c b ∧ b < 2 ^ 40 ∧ ∀ f H', Drw B H' d w c (b + 1) → Q (.int f) H'
abbrev nMixed : List Str := ["_law_draw", "_law_turn", "_law_found", "_law_prime", "_law_blend", "_law_grain"]
theorem sc_mixed : FnScope nMixed ["_law_draw"] dMixed.scope := ⟨rfl, rfl, rfl, by decide +kernel, rfl, by decide +kernel, by decide +kernel⟩
section
variable {P : Program} {w : World} {K : PySem.W.Frag} {mg : Str → Option Value} {base : Heap}
theorem ok_mixed (T : Tx K mg) (D : Dn K mg dMixed) : Cal P w K mg base CX0 1 "_law_mixed" spMixed := by
  obtain ⟨fd, F⟩ := D.fn
  refine cal_of F D.gl (F.bindsN (ps := ["_law_draw"]) fun _ _ _ _ _ _ us hl => match us, hl with | [_], _ => rfl) ?_
  refine F.ok sc_mixed (fun vs H Q E h => ?_) (fun cdv A outer s H vs Q E hr h => ?_)
  · obtain ⟨d, w, c, b, B, rfl, _⟩ := h
    rfl
  obtain ⟨d, w, c, b, B, rfl, dr, hb, q⟩ := h
  have nd' := sc_mixed.nd
  have hu : A.units + 3 + 1 < cLine := by have := hr.un; show A.units + 3 + 1 < cLine; have h2 : (A.deeper (envOfC dMixed.qual dMixed.scope s.heap.objs.size (He.fAd K dMixed.at_) cdv)).units = A.units + 3 := rfl; omega
  refine ⟨_, PSs.nox (pss_cons (ps_par (i := 1) (j := 2) (by rfl) nd' rfl rfl (by decide) rfl rfl (pa_cons (pe_op op_add (pe_dget hu (pv 0) pe_str (fun _ _ => rfl)) pe_int) (pa_cons pe_int pa_nil)) (by rfl))
    (pss_cons (ps_dput hu (pv 0) pe_str (pv 1) rfl)
    (pss_cons (ps_for PassesOwn.never rfl (pi_list (pe_lst (pa_cons pe_int (pa_cons pe_int (pa_cons pe_int (pa_cons pe_int pa_nil)))))) (pg_name (i := 3) nd' rfl (Or.inl rfl))
      (pss_cons (ps_set (i := 4) nd' rfl (.inl rfl) (pe_op op_add (pe_op op_mul pe_int (pv 1)) (pe_op op_fdiv (pv 3) pe_int)))
      (pss_cons (ps_for PassesOwn.never rfl (pi_list (pe_dget hu (pv 0) pe_str (fun _ _ => rfl))) (pg_name (i := 5) nd' rfl (Or.inl rfl))
        (pss_one (ps_set (i := 4) nd' rfl (.inl rfl) (pe_op op_mod (pe_callTy call_int1 (by rfl) T.int boot_int (pa_cons (pe_op op_add (pe_op op_add (pe_op op_mul (pv 4) pe_int) (pv 5)) (pv 1)) pa_nil)) (pv 3)))))
      (pss_one (ps_set (i := 2) nd' rfl (.inl rfl) (pe_op op_add (pe_op op_mul (pv 2) pe_int) (pe_op op_mod (pe_callTy call_int1 (by rfl) T.int boot_int (pa_cons (pe_op op_pow (pv 4) pe_int) pa_nil)) (pv 3))))))))
    (pss_one (ps_ret (pv 2)))))), ?_⟩
  obtain ⟨ws, r, t, hd, hw, t0, tb⟩ := dr.st
  refine ⟨_, rfl, d, _, rfl, dg_turn hd, _, _, rfl, rfl, _, _, rfl, _, rfl, _, rfl, d, _, rfl, dp_turn hd (t + 1), ?_⟩
  have dr1 := dr.setD (b' := b + 1) (r := r) (t := t + 1) (by omega) (by omega)
  refine ⟨by rw [sizeLine_eq]; exact (show 4 ≤ 16777216 by decide), fun l hl => ⟨l, rfl, ⟨_, SqL.of upd_same⟩, ?_⟩⟩
  have dr2 := dr1.new hl (.lst (ivs [2147483647, 2147483629, 2147483587, 2147483579]))
  have lc := dr1.nc hl
  obtain ⟨cs, hcs⟩ := dr.cs
  have hl1 : (upd B l (.lst (ivs [2147483647, 2147483629, 2147483587, 2147483579]))) l = some (.lst (ivs [2147483647, 2147483629, 2147483587, 2147483579])) := upd_same
  have hc1 : (upd B l (.lst (ivs [2147483647, 2147483629, 2147483587, 2147483579]))) c = some (.lst (ivs cs)) := by rw [upd_ne (Ne.symm lc)]; exact hcs
  have sB : Same B (upd B l (.lst (ivs [2147483647, 2147483629, 2147483587, 2147483579]))) := same_new (dr1.bnone hl) _
  generalize hB1 : upd B l (.lst (ivs [2147483647, 2147483629, 2147483587, 2147483579])) = B1 at *
  refine for_list (K := K) (a := l) (xs := ivs [2147483647, 2147483629, 2147483587, 2147483579]) (fun i σ H3 => Drw B1 H3 d w c (b + 1) ∧ σ[0]? = some (some (.ref d)) ∧ σ[1]? = some (some (.int (t + 1))) ∧ (∃ f, σ[2]? = some (some (.int f))) ∧ (∃ z, σ[3]? = some z) ∧ (∃ z, σ[4]? = some z) ∧ (∃ z, σ[5]? = some z))
    ⟨dr2, rfl, rfl, ⟨_, rfl⟩, ⟨_, rfl⟩, ⟨_, rfl⟩, ⟨_, rfl⟩⟩ (fun i σ H3 _ ⟨D3, _⟩ => SqL.of (D3.sm _ _ hl1)) (fun i x σ H3 hx ⟨D3, s0, s1, ⟨f, s2⟩, ⟨z3, s3⟩, ⟨z4, s4⟩, ⟨z5, s5⟩⟩ => ?_) (fun σ H3 ⟨D3, _, _, ⟨f, s2⟩, _⟩ => ?_)
  · obtain ⟨p, hp, rfl⟩ := ivs_get hx
    have hpr : 0 < p ∧ p ≤ 2147483647 := by
      have := List.mem_of_getElem? hp
      simp only [List.mem_cons, List.not_mem_nil, or_false] at this
      rcases this with rfl | rfl | rfl | rfl <;> decide
    obtain ⟨ws3, r3, t3, hd3, hw3, _⟩ := D3.st
    have e3 : ∀ {j : Nat} {y : Option V}, j ≠ 3 → σ[j]? = some y → (σ.set 3 (some (V.int p)))[j]? = some y := fun hj h => (set_other (Ne.symm hj)).trans h
    have e33 : (σ.set 3 (some (V.int p)))[3]? = some (some (.int p)) := set_get s3
    refine ⟨_, e3 (by decide) s1, _, _, rfl, rfl, .inl ⟨by decide, by decide⟩, _, e33, _, _, rfl, rfl, ⟨by decide, by decide⟩, _, _, rfl, rfl, ?_⟩
    have q0 : 0 ≤ 48271 * (t + 1) + p / 37 ∧ 48271 * (t + 1) + p / 37 < 2 ^ 60 := by
      have h1 : 0 ≤ p / 37 := Int.ediv_nonneg (by omega) (by decide)
      have h2 : p / 37 ≤ 2147483647 := Int.le_trans (Int.ediv_le_self _ (by omega)) hpr.2
      omega
    have e4 : ∀ {j : Nat} {y : Option V} {u : Option V}, j ≠ 4 → (σ.set 3 (some (V.int p)))[j]? = some y → ((σ.set 3 (some (V.int p))).set 4 u)[j]? = some y := fun hj h => (set_other (Ne.symm hj)).trans h
    refine ⟨_, e4 (by decide) (e3 (by decide) s0), d, _, rfl, dg_cells hd3, c, rfl, ⟨_, SqL.of (D3.sm _ _ hc1)⟩, ?_⟩
    refine for_list (K := K) (a := c) (xs := ivs cs) (fun j σ' H' => H' = H3 ∧ σ'[0]? = some (some (.ref d)) ∧ σ'[1]? = some (some (.int (t + 1))) ∧ σ'[2]? = some (some (.int f)) ∧ σ'[3]? = some (some (.int p)) ∧ (∃ bl, σ'[4]? = some (some (.int bl)) ∧ 0 ≤ bl ∧ bl < 2 ^ 60) ∧ (∃ z, σ'[5]? = some z))
      ⟨rfl, e4 (by decide) (e3 (by decide) s0), e4 (by decide) (e3 (by decide) s1), e4 (by decide) (e3 (by decide) s2), e4 (by decide) e33, ⟨_, set_get (e3 (by decide) s4), q0⟩, ⟨_, e4 (by decide) (e3 (by decide) s5)⟩⟩
      (fun j σ' H' _ ⟨e, _⟩ => by rw [e]; exact SqL.of (D3.sm _ _ hc1)) (fun j y σ' H' hy ⟨e, u0, u1, u2, u3, ⟨bl, u4, b0, b1⟩, ⟨z, u5⟩⟩ => ?_) (fun σ' H' ⟨e, u0, u1, u2, u3, ⟨bl, u4, b0, b1⟩, ⟨z, u5⟩⟩ => ?_)
    · subst e
      obtain ⟨gr, hgr, rfl⟩ := ivs_get hy
      have k5 : ∀ {m : Nat} {y : Option V}, m ≠ 5 → σ'[m]? = some y → (σ'.set 5 (some (V.int gr)))[m]? = some y := fun hj h => (set_other (Ne.symm hj)).trans h
      have k55 : (σ'.set 5 (some (V.int gr)))[5]? = some (some (.int gr)) := set_get u5
      refine ⟨_, k5 (by decide) u4, _, _, rfl, rfl, .inl ⟨by omega, by omega⟩, _, k55, _, _, rfl, rfl, _, k5 (by decide) u1, _, _, rfl, rfl, .inl ⟨_, rfl, _, k5 (by decide) u3, _, _, rfl, rfl, hpr.1, ?_⟩⟩
      have k4 : ∀ {m : Nat} {y : Option V} {u : Option V}, m ≠ 4 → (σ'.set 5 (some (V.int gr)))[m]? = some y → ((σ'.set 5 (some (V.int gr))).set 4 u)[m]? = some y := fun hj h => (set_other (Ne.symm hj)).trans h
      refine ⟨rfl, k4 (by decide) (k5 (by decide) u0), k4 (by decide) (k5 (by decide) u1), k4 (by decide) (k5 (by decide) u2), k4 (by decide) (k5 (by decide) u3), ⟨_, set_get (k5 (by decide) u4), Int.emod_nonneg _ (by omega), ?_⟩, ⟨_, k4 (by decide) k55⟩⟩
      have := Int.emod_lt_of_pos (bl * 69621 + gr + (t + 1)) hpr.1
      omega
    · subst e
      refine ⟨_, u2, _, _, rfl, rfl, .inr ⟨by decide, by decide⟩, _, u4, _, _, rfl, rfl, ⟨by decide, by decide, by omega⟩, .inl ⟨_, rfl, _, u3, _, _, rfl, rfl, hpr.1, _, _, rfl, rfl, ?_⟩⟩
      have k2 : ∀ {m : Nat} {y : Option V} {u : Option V}, m ≠ 2 → σ'[m]? = some y → (σ'.set 2 u)[m]? = some y := fun hj h => (set_other (Ne.symm hj)).trans h
      exact ⟨D3, k2 (by decide) u0, k2 (by decide) u1, ⟨_, set_get u2⟩, ⟨_, k2 (by decide) u3⟩, ⟨_, k2 (by decide) u4⟩, ⟨_, k2 (by decide) u5⟩⟩
  · exact ⟨_, s2, q f H3 (D3.less sB ⟨cs, hcs⟩)⟩
end
end K17

set_option Elab.async false
set_option linter.all false
set_option maxRecDepth 100000
set_option maxHeartbeats 4000000
set_option autoImplicit false
namespace K17
open PySem PySem.Spec PyProof.Rows L2
theorem pss_imp {X : Cx} {l : List Stmt} {t t' : TS} (h : PSs X l t) (f : ∀ D σ H, t' D σ H → t D σ H) : PSs X l t' := ⟨fun pins s σ H D I q => h.run pins s σ H D I (f D σ H q)⟩
theorem hu_deep {k : Nat} {A : Around} (hr : Room k A) : A.units + 1 < cLine := by have := hr.un; omega
theorem seq_nought {n : Nat} : seqIndex? 0 (n + 1) = some 0 := by
  simp [seqIndex?]
  try omega
/-! ### _law_take -/
def spTake : Sp := fun vs H Q _ => ∃ (d w c : Addr) (b : Nat) (B : Hp) (many : Int), vs = [.ref d, .int many] ∧ Drw B H d w c b ∧ b < 2 ^ 40 ∧ 0 < many ∧ many < 1073741824 ∧ ∀ r H', 0 ≤ r → r < many → Drw B H' d w c (b + 1) → Q (.int r) H'
def tTakeEnd : TS := fun D σ H => ∃ (d w c : Addr) (b : Nat) (B : Hp) (many : Int), σ[0]? = some (some (.ref d)) ∧ σ[1]? = some (some (.int many)) ∧ (∃ z, σ[2]? = some z) ∧ Drw B H d w c b ∧ 0 < many ∧ many < 1073741824 ∧ ∀ r H', 0 ≤ r → r < many → Drw B H' d w c b → D.rt (.int r) H'
abbrev nTake : List Str := ["_law_draw", "_law_many", "_law_found"]
theorem sc_take : FnScope nTake ["_law_draw", "_law_many"] dTake.scope := ⟨rfl, rfl, rfl, by decide +kernel, rfl, by decide +kernel, by decide +kernel⟩
section
variable {P : Program} {w : World} {K : PySem.W.Frag} {mg : Str → Option Value} {base : Heap}
theorem ok_take (T : Tx K mg) (D : Dn K mg dTake) (cM : Cal P w K mg base CX0 1 "_law_mixed" spMixed) : Cal P w K mg base CX0 2 "_law_take" spTake := by
  obtain ⟨fd, F⟩ := D.fn
  refine cal_of F D.gl (F.bindsN (ps := ["_law_draw", "_law_many"]) fun _ _ _ _ _ _ us hl => match us, hl with | [_, _], _ => rfl) ?_
  refine F.ok sc_take (fun vs H Q E h => ?_) (fun cdv A outer s H vs Q E hr h => ?_)
  · obtain ⟨d, w, c, b, B, many, rfl, _⟩ := h
    rfl
  obtain ⟨d, w, c, b, B, many, rfl, dr, hb, m0, m1, q⟩ := h
  have nd' := sc_take.nd
  have hu := hu_deep hr
  refine ⟨_, PSs.nox (pss_cons (ps_if (pt_cmpR op_eq (pe_dget hu (pv 0) pe_str (fun _ _ => rfl)) pe_int (nomark _)) (pss_one (ps_dput hu (pv 0) pe_str
        (pe_ifExp (pt_cmpR (op_neC hr.units) (pe_dget hu (pv 0) pe_str (fun _ _ => rfl)) (pe_lst pa_nil) (nomark _))
          (pe_bm PySem.F.plainAttrs_list PySem.F.slot_list_pop PySem.F.type_list_pop mt_popAt (pe_dget hu (pv 0) pe_str (fun _ _ => rfl)) (pa_cons pe_int pa_nil))
          (pe_cal cM hr (Nat.le_refl _) pass0 (pa_cons (pv 0) pa_nil))) rfl)) pss_nil)
    (pss_imp (t' := tTakeEnd) (pss_cons (ps_set (i := 2) nd' rfl (.inl rfl) (pe_op op_mod (pe_callTy call_int1 (by rfl) T.int boot_int (pa_cons (pe_dget hu (pv 0) pe_str (fun _ _ => rfl)) pa_nil)) (pv 1)))
    (pss_cons (ps_dput hu (pv 0) pe_str (pe_op op_fdiv (pe_dget hu (pv 0) pe_str (fun _ _ => rfl)) (pv 1)) rfl)
    (pss_one (ps_ret (pv 2))))) fun D σ H h => by
      obtain ⟨d, w, c, b, B, many, s0, s1, ⟨z, s2⟩, dr, m0, m1, q⟩ := h
      obtain ⟨ws, r, t, hd, hw, t0, tb⟩ := dr.st
      have k2 : ∀ {m : Nat} {y : Option V} {u : Option V}, m ≠ 2 → σ[m]? = some y → (σ.set 2 u)[m]? = some y := fun hj h => (set_other (Ne.symm hj)).trans h
      refine ⟨_, s0, d, _, rfl, dg_rest hd, .inl ⟨_, rfl, _, s1, _, _, rfl, rfl, m0, ?_⟩⟩
      refine ⟨_, k2 (by decide) s0, d, _, rfl, dg_rest hd, _, k2 (by decide) s1, _, _, rfl, rfl, ⟨m0, m1⟩, _, k2 (by decide) s0, d, _, rfl, dp_rest hd _, ?_⟩
      exact ⟨_, set_get s2, q _ _ (Int.emod_nonneg _ (by omega)) (Int.emod_lt_of_pos _ m0) (dr.setD t0 tb)⟩)), ?_⟩
  obtain ⟨ws, r, t, hd, hw, t0, tb⟩ := dr.st
  refine ⟨_, rfl, d, _, rfl, dg_rest hd, rfl, _, rfl, ?_⟩
  by_cases hz : r = 0
  · rw [decide_eq_true (by rw [hz])]
    refine iteT ⟨_, rfl, d, _, rfl, dg_wide hd, by rw [sizeLine_eq]; simp, fun p hp => ?_⟩
    have dr1 := dr.grow (same_new hp (.lst []))
    obtain ⟨ws1, r1, t1, hd1, hw1, t01, tb1⟩ := dr1.st
    have ew : ws1 = ws := by
      have h2 := (same_new hp (.lst [])) _ _ hw
      rw [hw1] at h2
      have h3 := HO.lst.inj (Option.some.inj h2)
      unfold ivs at h3
      exact (List.map_inj_right (fun a b h => V.int.inj h)).mp h3
    subst ew
    refine ⟨_, _, sqL_dp (SqL.of hw1), dp_nil upd_same, lay_ints _, lay_nil, by have := depth_nil; omega, _, rfl, ?_⟩
    rw [eqv_nil]
    cases ws1 with
    | nil =>
      refine iteF ⟨_, rfl, d, w, c, b, B, rfl, dr1, hb, fun f H2 dr2 => ?_⟩
      obtain ⟨ws2, r2, t2, hd2, hw2, t02, tb2⟩ := dr2.st
      exact ⟨_, rfl, d, _, rfl, dp_rest hd2 f, d, w, c, b + 1, B, many, rfl, rfl, ⟨_, rfl⟩, dr2.setD t02 tb2, m0, m1, q⟩
    | cons x xs =>
      refine iteT ⟨_, rfl, d, _, rfl, dg_wide hd1, .inl ⟨rfl, _, SqL.of hw1⟩, w, _, 0, 0, .int x, rfl, rfl, hw1, by decide, by decide, by rw [ivs_len, List.length_cons]; exact seq_nought, rfl, ?_⟩
      have dr2 := dr1.setW xs
      obtain ⟨ws2, r2, t2, hd2, hw2, t02, tb2⟩ := dr2.st
      exact ⟨_, rfl, d, _, rfl, dp_rest hd2 x, d, w, c, b + 1, B, many, rfl, rfl, ⟨_, rfl⟩, dr2.setD t02 (by omega), m0, m1, q⟩
  · rw [decide_eq_false (fun z => hz (V.int.inj z))]
    exact iteF ⟨d, w, c, b + 1, B, many, rfl, rfl, ⟨_, rfl⟩, dr.more (Nat.le_succ _), m0, m1, q⟩
/-! ### _law_pick -/
def spPick (K : PySem.W.Frag) : Sp := fun vs H Q _ => ∃ (d w c a : Addr) (b : Nat) (B : Hp) (xs : List V), vs = [.ref d, .ref a] ∧ Drw B H d w c b ∧ b < 2 ^ 40 ∧ B a = some (.lst xs) ∧ 0 < xs.length ∧ xs.length ≤ 1000000 ∧ ∀ (i : Nat) x H', xs[i]? = some x → Drw B H' d w c (b + 1) → Q x H'
theorem sc_pick : FnScope ["_law_draw", "_law_some"] ["_law_draw", "_law_some"] dPick.scope := ⟨rfl, rfl, rfl, by decide +kernel, rfl, by decide +kernel, by decide +kernel⟩
theorem ok_pick (T : Tx K mg) (D : Dn K mg dPick) (cT : Cal P w K mg base CX0 2 "_law_take" spTake) : Cal P w K mg base CX0 3 "_law_pick" (spPick K) := by
  obtain ⟨fd, F⟩ := D.fn
  refine cal_of F D.gl (F.bindsN (ps := ["_law_draw", "_law_some"]) fun _ _ _ _ _ _ us hl => match us, hl with | [_, _], _ => rfl) ?_
  refine F.ok sc_pick (fun vs H Q E h => ?_) (fun cdv A outer s H vs Q E hr h => ?_)
  · obtain ⟨d, w, c, a, b, B, xs, rfl, _⟩ := h
    rfl
  obtain ⟨d, w, c, a, b, B, xs, rfl, dr, hb, ha, l0, l1, q⟩ := h
  refine ⟨_, PSs.nox (pss_one (ps_ret (pe_ix ix_list (pv 1) (pe_cal cT hr (Nat.le_refl _) pass0 (pa_cons (pv 0) (pa_cons (pe_callB call_len_seq (by rfl) T.len PySem.boot_len (pa_cons (pv 1) pa_nil)) pa_nil))) (fun _ _ => rfl)))), ?_⟩
  refine ⟨_, rfl, _, rfl, _, rfl, a, xs, rfl, .inl (SqL.of (dr.sm _ _ ha)), d, w, c, b, B, _, rfl, dr, hb, by omega, by omega, fun r H' r0 r1 dr' => ?_⟩
  obtain ⟨k, rfl⟩ : ∃ k : Nat, r = (k : Int) := ⟨r.toNat, by omega⟩
  have hk : k < xs.length := by omega
  exact ⟨a, xs, _, xs[k], rfl, rfl, SqL.of (dr'.sm _ _ ha), atI_nat (by simp [hk]), q k _ H' (by simp [hk]) dr'⟩
end
end K17

set_option Elab.async false
set_option linter.all false
set_option maxRecDepth 100000
set_option maxHeartbeats 4000000
set_option autoImplicit false
namespace K17
open PySem PySem.Spec PyProof.Rows L2
theorem Drw.set {B H : Hp} {d w c p : Addr} {b : Nat} {o : HO} (D : Drw (upd B p o) H d w c b) (h1 : p ≠ d) (h2 : p ≠ w) (h3 : p ≠ c) (u : HO) : Drw (upd B p u) (upd H p u) d w c b := by
  have q := D.put h1 h2 h3 u
  rw [upd_upd] at q
  exact q
theorem joinS_codes : ∀ l : List Nat, Str.join ("" : Str) (l.map fun c => (⟨#[c]⟩ : Str)) = ⟨l.toArray⟩
  | [] => rfl
  | [c] => rfl
  | c :: e :: r => by
    have ih := joinS_codes (e :: r)
    show (⟨#[c]⟩ : Str) ++ ("" : Str) ++ Str.join ("" : Str) ((e :: r).map fun c => (⟨#[c]⟩ : Str)) = _
    rw [ih]
    show (⟨#[c] ++ #[] ++ (e :: r).toArray⟩ : Str) = _
    simp
theorem join_codes (l : List Nat) : Txt.join ("" : Str) (l.map fun c => (⟨#[c]⟩ : Str)) = ⟨l.toArray⟩ := (PySem.StrLaws.glued_eq_join _ _).trans (joinS_codes l)
/-! ### _law_leaf -/
/-- a leaf of the law's trees -/
structure Leaf (dt : PyData) : Prop where
  t : isT dt 0 = true
  n : nd dt = 1
  f : ∀ (K : PySem.W.Frag) (H : Hp), Dp K H (dataV dt) dt
def spLeaf : Sp := fun vs H Q _ => ∃ (d w c : Addr) (b : Nat) (B : Hp), vs = [.ref d] ∧ Drw B H d w c b ∧ b + 20 < 2 ^ 40 ∧ ∀ dt H', Leaf dt → Drw B H' d w c (b + 20) → Q (dataV dt) H'
theorem leaf_none : Leaf .none := ⟨rfl, rfl, fun _ _ => .non⟩
theorem leaf_bool (x : Bool) : Leaf (.bool x) := ⟨rfl, rfl, fun _ _ => .bl x⟩
theorem leaf_int {i : Int} (h0 : 0 ≤ i) (h1 : i < 32768) : Leaf (.int i) := ⟨by simp [isT, h0, h1], rfl, fun _ _ => .int i⟩
theorem leaf_str {l : List Nat} (hl : l.length ≤ 8) (h : ∀ c ∈ l, 97 ≤ c ∧ c ≤ 122) : Leaf (.str ⟨l.toArray⟩) := ⟨by
  simp only [isT, Bool.and_eq_true, decide_eq_true_eq, List.all_eq_true]
  exact ⟨by simpa using hl, fun c hc => h c (by simpa using hc)⟩, rfl, fun _ _ => .str _⟩
abbrev nLeaf : List Str := ["_law_draw", "_law_kind", "_law_k"]
theorem sc_leaf : FnScope nLeaf ["_law_draw"] dLeaf.scope := ⟨rfl, rfl, rfl, by decide +kernel, rfl, by decide +kernel, by decide +kernel⟩
section
variable {P : Program} {w : World} {K : PySem.W.Frag} {mg : Str → Option Value} {base : Heap}
theorem ok_leaf (T : Tx K mg) (D : Dn K mg dLeaf) (cT : Cal P w K mg base CX0 2 "_law_take" spTake) (cP : Cal P w K mg base CX0 3 "_law_pick" (spPick K)) : Cal P w K mg base CX0 4 "_law_leaf" spLeaf := by
  obtain ⟨fd, F⟩ := D.fn
  refine cal_of F D.gl (F.bindsN (ps := ["_law_draw"]) fun _ _ _ _ _ _ us hl => match us, hl with | [_], _ => rfl) ?_
  refine F.ok sc_leaf (fun vs H Q E h => ?_) (fun cdv A outer s H vs Q E hr h => ?_)
  · obtain ⟨d, w, c, b, B, rfl, _⟩ := h
    rfl
  obtain ⟨d, w, c, b, B, rfl, dr, hb, q⟩ := h
  have nd' := sc_leaf.nd
  refine ⟨_, PSs.nox (pss_cons (ps_set (i := 1) nd' rfl (.inl rfl) (pe_cal cT hr (by decide) pass0 (pa_cons (pv 0) (pa_cons pe_int pa_nil))))
    (pss_cons (ps_if (pt_cmpR op_lt (pv 1) pe_int (nomark _)) (pss_one (ps_ret (pe_ix ix_list (pe_lst (pa_cons pe_non (pa_cons pe_bl (pa_cons pe_bl pa_nil)))) (pv 1) (fun _ _ => rfl)))) pss_nil)
    (pss_cons (ps_if (pt_cmpR op_eq (pv 1) pe_int (nomark _)) (pss_one (ps_ret (pe_ifExp (pt_cmpR op_eq (pe_cal cT hr (by decide) pass0 (pa_cons (pv 0) (pa_cons pe_int pa_nil))) pe_int (nomark _)) pe_str
        (pe_join pe_str (pe_lc (own := [("_law_k", 2)]) (g := gName 2) (tt := tYes) (te := tOp rIxS (tC (.str ABC)) (tCall spTake [] E0 (tCons (tVar 0) (tCons (tC (.int 26)) tNil)))) rfl nd'
          (pi_range1 rfl T.range (pa_cons (pe_cal cP hr (by decide) pass0 (pa_cons (pv 0) (pa_cons (pe_lst (pa_cons pe_int (pa_cons pe_int (pa_cons pe_int (pa_cons pe_int (pa_cons pe_int pa_nil)))))) pa_nil))) pa_nil))
          (blkOk_by (N := nLeaf) (sc := dLeaf.scope) (own := [("_law_k", 2)]) (by decide +kernel)) (fun _ _ _ _ _ => pg_name (i := 2) nd' rfl (Or.inl rfl)) (fun _ _ _ _ _ => pts_nil)
          (fun _ _ _ _ _ => pe_ix ix_str pe_str (pe_cal cT hr (by decide) pass0 (pa_cons (pv 0) (pa_cons pe_int pa_nil))) (fun _ _ => rfl))))))) pss_nil)
    (pss_one (ps_ret (pe_cal cP hr (by decide) pass0 (pa_cons (pv 0) (pa_cons (pe_lst (pa_cons pe_int (pa_cons pe_int (pa_cons pe_int (pa_cons pe_int (pa_cons pe_int (pa_cons pe_int
      (pa_cons (pe_cal cT hr (by decide) pass0 (pa_cons (pv 0) (pa_cons pe_int pa_nil))) (pa_cons (pe_cal cT hr (by decide) pass0 (pa_cons (pv 0) (pa_cons pe_int pa_nil))) (pa_cons (pe_cal cT hr (by decide) pass0 (pa_cons (pv 0) (pa_cons pe_int pa_nil))) pa_nil)))))))))) pa_nil)))))))), ?_⟩
  refine ⟨_, rfl, d, w, c, b, B, 7, rfl, dr, by omega, by decide, by decide, fun r H1 r0 r7 dr1 => ?_⟩
  refine ⟨_, rfl, _, _, rfl, rfl, _, rfl, ?_⟩
  by_cases c3 : r < 3
  · rw [decide_eq_true c3]
    refine iteT ⟨by rw [sizeLine_eq]; exact (show 3 ≤ 16777216 by decide), fun l hl => ⟨_, rfl, ?_⟩⟩
    have dr2 := dr1.grow (same_new hl (.lst [.non, .bl true, .bl false]))
    have hr3 : r = 0 ∨ r = 1 ∨ r = 2 := by omega
    rcases hr3 with rfl | rfl | rfl
    · exact ⟨l, _, 0, .non, rfl, rfl, SqL.of upd_same, by rfl, q .none _ leaf_none (dr2.more (by omega))⟩
    · exact ⟨l, _, 1, .bl true, rfl, rfl, SqL.of upd_same, by rfl, q (.bool true) _ (leaf_bool _) (dr2.more (by omega))⟩
    · exact ⟨l, _, 2, .bl false, rfl, rfl, SqL.of upd_same, by rfl, q (.bool false) _ (leaf_bool _) (dr2.more (by omega))⟩
  · rw [decide_eq_false c3]
    refine iteF ⟨_, rfl, rfl, _, rfl, ?_⟩
    by_cases c4 : r = 3
    · rw [decide_eq_true (by rw [c4])]
      refine iteT ⟨_, rfl, d, w, c, b + 1, B, 4, rfl, dr1, by omega, by decide, by decide, fun r2 H2 _ _ dr2 => ?_⟩
      refine ⟨rfl, _, rfl, ?_⟩
      by_cases c5 : r2 = 0
      · rw [decide_eq_true (by rw [c5])]
        exact iteT (q (.str ⟨([] : List Nat).toArray⟩) _ (leaf_str (by simp) (by simp)) (dr2.more (by omega)))
      · rw [decide_eq_false (fun z => c5 (V.int.inj z))]
        refine iteF ⟨⟨_, rfl⟩, _, rfl, by rw [sizeLine_eq]; exact (show 5 ≤ 16777216 by decide), fun l hl => ?_⟩
        have dr3 := dr2.new hl (.lst [.int 1, .int 2, .int 3, .int 7, .int 8])
        refine ⟨d, w, c, l, b + 2, _, _, rfl, dr3, by omega, upd_same, by simp, by simp, fun i x H3 hx dr4 => ?_⟩
        have hxm := List.mem_of_getElem? hx
        obtain ⟨n, rfl, hn8⟩ : ∃ n : Nat, x = .int n ∧ n ≤ 8 := by
          simp only [List.mem_cons, List.not_mem_nil, or_false] at hxm
          rcases hxm with rfl | rfl | rfl | rfl | rfl
          · exact ⟨1, rfl, by decide⟩
          · exact ⟨2, rfl, by decide⟩
          · exact ⟨3, rfl, by decide⟩
          · exact ⟨7, rfl, by decide⟩
          · exact ⟨8, rfl, by decide⟩
        refine ⟨n, rfl, by omega, by omega, fun D hD => ?_⟩
        have Dd := dr4.nd hD
        have Dw := dr4.nw hD
        have Dc := dr4.nc hD
        have sB : Same B (upd B l (.lst [.int 1, .int 2, .int 3, .int 7, .int 8])) := same_new (dr2.bnone hl) _
        have lc := dr2.nc hl
        generalize hB1 : upd B l (.lst [.int 1, .int 2, .int 3, .int 7, .int 8]) = B1 at *
        refine lc_range (lo := 0) (n := n) (fun i H' => ∃ cs : List Nat, cs.length = i ∧ (∀ c ∈ cs, 97 ≤ c ∧ c ≤ 122) ∧ Drw (upd B1 D (.lst (cs.map fun c => V.str ⟨#[c]⟩))) H' d w c (b + 3 + i))
          ⟨[], rfl, by simp, dr4.new hD _⟩ (fun i H' hi ⟨cs, hc, hcs, dr5⟩ => ?_) (fun H' ⟨cs, hc, hcs, dr5⟩ => ?_)
        · refine ⟨rfl, _, rfl, d, w, c, b + 3 + i, _, 26, rfl, dr5, by omega, by decide, by decide, fun r5 H5 r50 r51 dr6 => ?_⟩
          obtain ⟨k, rfl⟩ : ∃ k : Nat, r5 = (k : Int) := ⟨r5.toNat, by omega⟩
          refine ⟨ABC, _, 97 + k, rfl, rfl, abc_len, atI_nat (abc_at (by omega)), _, dr6.sm _ _ upd_same, by rw [List.length_map, sizeLine_eq]; omega, cs ++ [97 + k], by simp [hc], fun z hz => ?_, ?_⟩
          · rcases List.mem_append.mp hz with h | h
            · exact hcs z h
            · have : z = 97 + k := by simpa using h
              omega
          · rw [List.map_append]
            exact (dr6.set Dd Dw Dc _).more (by omega)
        · refine ⟨"", D, cs.map fun c => (⟨#[c]⟩ : Str), rfl, rfl, .inl (SqL.of (by rw [dr5.sm _ _ upd_same, List.map_map]; rfl)), ?_, ?_⟩
          · have e1 : ((cs.map fun c => (⟨#[c]⟩ : Str)).map (·.length)).sum ≤ 8 := by
              rw [List.map_map]
              have : ∀ l : List Nat, (l.map ((fun x : Str => x.length) ∘ fun c => (⟨#[c]⟩ : Str))).sum = l.length := by
                intro l
                induction l with
                | nil => rfl
                | cons a r ih => simp only [List.map_cons, List.sum_cons, ih, List.length_cons]; show 1 + _ = _; omega
              rw [this]
              omega
            have e2 : ("" : Str).length = 0 := by decide
            rw [e2]
            omega
          · rw [join_codes]
            obtain ⟨cs0, hcs0⟩ := dr.cs
            have D0 : Drw B H' d w c (b + 3 + n) := dr5.less (sB.trans (same_new (dr4.bnone hD) _)) ⟨cs0, hcs0⟩
            exact q (.str ⟨cs.toArray⟩) _ (leaf_str (by omega) hcs) (D0.more (by omega))
    · rw [decide_eq_false (fun z => c4 (V.int.inj z))]
      refine iteF ⟨_, rfl, _, rfl, d, w, c, b + 1, B, 64, rfl, dr1, by omega, by decide, by decide, fun r1 H2 a0 a1 dr2 => ?_⟩
      refine ⟨_, rfl, d, w, c, b + 2, B, 1100, rfl, dr2, by omega, by decide, by decide, fun r2 H3 b0 b1 dr3 => ?_⟩
      refine ⟨_, rfl, d, w, c, b + 3, B, 32768, rfl, dr3, by omega, by decide, by decide, fun r3 H4 d0 d1 dr4 => ?_⟩
      refine ⟨by rw [sizeLine_eq]; exact (show 9 ≤ 16777216 by decide), fun l hl => ?_⟩
      have dr5 := dr4.new hl (.lst [.int 0, .int 31, .int 32, .int 1023, .int 1024, .int 32767, .int r1, .int r2, .int r3])
      refine ⟨d, w, c, l, b + 4, _, _, rfl, dr5, by omega, upd_same, by simp, by simp, fun i x H5 hx dr6 => ?_⟩
      have hxm := List.mem_of_getElem? hx
      obtain ⟨z, rfl, z0, z1⟩ : ∃ z : Int, x = .int z ∧ 0 ≤ z ∧ z < 32768 := by
        simp only [List.mem_cons, List.not_mem_nil, or_false] at hxm
        rcases hxm with rfl | rfl | rfl | rfl | rfl | rfl | rfl | rfl | rfl
        · exact ⟨_, rfl, by decide, by decide⟩
        · exact ⟨_, rfl, by decide, by decide⟩
        · exact ⟨_, rfl, by decide, by decide⟩
        · exact ⟨_, rfl, by decide, by decide⟩
        · exact ⟨_, rfl, by decide, by decide⟩
        · exact ⟨_, rfl, by decide, by decide⟩
        · exact ⟨_, rfl, a0, by omega⟩
        · exact ⟨_, rfl, b0, by omega⟩
        · exact ⟨_, rfl, d0, d1⟩
      obtain ⟨cs0, hcs0⟩ := dr.cs
      have D0 : Drw B H5 d w c (b + 5) := dr6.less (same_new (dr4.bnone hl) _) ⟨cs0, hcs0⟩
      exact q (.int z) _ (leaf_int z0 z1) (D0.more (by omega))
end
end K17

set_option Elab.async false
set_option linter.all false
set_option maxRecDepth 100000
set_option maxHeartbeats 4000000
set_option autoImplicit false
namespace K17
open PySem PySem.Spec PyProof.Rows L2
/-! ### _law_tree -/
mutual
theorem isT_mono : ∀ (d : PyData) (a b : Nat), a ≤ b → isT d a = true → isT d b = true
  | .none, _, _, _, _ => rfl
  | .bool _, _, _, _, _ => rfl
  | .int _, _, _, _, h => h
  | .str _, _, _, _, h => h
  | .tuple ds, a, b, l, h => by
    simp only [isT, Bool.and_eq_true, decide_eq_true_eq] at h ⊢
    exact ⟨by omega, isTAll_mono ds (a - 1) (b - 1) (by omega) h.2⟩
  | .list _, _, _, _, h => by simp [isT] at h
  | .dict _, _, _, _, h => by simp [isT] at h
theorem isTAll_mono : ∀ (l : List PyData) (a b : Nat), a ≤ b → isTAll l a = true → isTAll l b = true
  | [], _, _, _, _ => rfl
  | d :: r, a, b, l, h => by
    simp only [isTAll, Bool.and_eq_true] at h ⊢
    exact ⟨isT_mono d a b l h.1, isTAll_mono r a b l h.2⟩
end
mutual
theorem isT_tl : ∀ (d : PyData) (n : Nat), isT d n = true → tl d = true
  | .none, _, _ => rfl
  | .bool _, _, _ => rfl
  | .int _, _, _ => rfl
  | .str x, _, h => by
    simp only [isT, Bool.and_eq_true, decide_eq_true_eq, List.all_eq_true] at h
    simp only [tl, List.all_eq_true, decide_eq_true_eq]
    exact fun c hc => (h.2 c hc).2
  | .tuple ds, n, h => by
    simp only [isT, Bool.and_eq_true, decide_eq_true_eq] at h
    simp only [tl]
    exact isTAll_tl ds (n - 1) h.2
  | .list _, _, h => by simp [isT] at h
  | .dict _, _, h => by simp [isT] at h
theorem isTAll_tl : ∀ (l : List PyData) (n : Nat), isTAll l n = true → tlAll l = true
  | [], _, _ => rfl
  | d :: r, n, h => by
    simp only [isTAll, Bool.and_eq_true] at h
    simp only [tlAll, Bool.and_eq_true]
    exact ⟨isT_tl d n h.1, isTAll_tl r n h.2⟩
end
theorem isTAll_snoc {l : List PyData} {d : PyData} {n : Nat} (h : isTAll l n = true) (hd : isT d n = true) : isTAll (l ++ [d]) n = true := by
  rw [isTAll_iff] at h ⊢
  intro e he
  rcases List.mem_append.mp he with z | z
  · exact h e z
  · have : e = d := by simpa using z
    rw [this]
    exact hd
/-- how great a tree may be -/
def NB : Nat → Nat
  | 0 => 1
  | m + 1 => 1 + NB m + 2 * NB (min m 3)
termination_by m => m
decreasing_by all_goals omega
theorem nb_pos : ∀ m, 1 ≤ NB m
  | 0 => by unfold NB; omega
  | m + 1 => by unfold NB; omega
theorem nb_succ (m : Nat) : NB (m + 1) = 1 + NB m + 2 * NB (min m 3) := by rw [NB]
/-- how great the first i of its parts may be -/
def fB (m i : Nat) : Nat := match i with
  | 0 => 0
  | i + 1 => NB m + i * NB (min m 3)
theorem fB_le (m i : Nat) (h : i ≤ 3) : 1 + fB m i ≤ NB (m + 1) := by
  rw [nb_succ]
  match i, h with
  | 0, _ => simp only [fB]; omega
  | 1, _ => simp only [fB]; omega
  | 2, _ => simp only [fB]; omega
  | 3, _ => simp only [fB]; omega
def spTree (K : PySem.W.Frag) (n : Nat) : Sp := fun vs H Q _ => ∃ (d w c : Addr) (b : Nat) (B : Hp) (m : Nat), vs = [.ref d, .int m] ∧ m < n ∧ Drw B H d w c b ∧ b + 40 * NB m < 2 ^ 40 ∧
  ∀ v dt B' H', Same B B' → Drw B' H' d w c (b + 40 * NB m) → Dp K B' v dt → isT dt m = true → nd dt ≤ NB m → Q v H'
abbrev nTree : List Str := ["_law_draw", "_law_deep", "_law_k"]
theorem sc_tree : FnScope nTree ["_law_draw", "_law_deep"] dLTree.scope := ⟨rfl, rfl, rfl, by decide +kernel, rfl, by decide +kernel, by decide +kernel⟩
section
variable {P : Program} {w : World} {K : PySem.W.Frag} {mg : Str → Option Value} {base : Heap}
theorem ok_tree (T : Tx K mg) (D : Dn K mg dLTree) (cT : Cal P w K mg base CX0 2 "_law_take" spTake) (cP : Cal P w K mg base CX0 3 "_law_pick" (spPick K)) (cL : Cal P w K mg base CX0 4 "_law_leaf" spLeaf) : ∀ n : Nat, Cal P w K mg base CX0 (n + 4) "_law_tree" (spTree K n)
  | 0 => by
    obtain ⟨fd, F⟩ := D.fn
    exact cal_of F D.gl (F.bindsN (ps := ["_law_draw", "_law_deep"]) fun _ _ _ _ _ _ us hl => match us, hl with | [_, _], _ => rfl) (fn_absurd fun vs H Q E h => by obtain ⟨_, _, _, _, _, m, _, z, _⟩ := h; omega)
  | n + 1 => by
    have ih := ok_tree T D cT cP cL n
    obtain ⟨fd, F⟩ := D.fn
    refine cal_of F D.gl (F.bindsN (ps := ["_law_draw", "_law_deep"]) fun _ _ _ _ _ _ us hl => match us, hl with | [_, _], _ => rfl) ?_
    refine F.ok sc_tree (fun vs H Q E h => ?_) (fun cdv A outer s H vs Q E hr h => ?_)
    · obtain ⟨d, w, c, b, B, m, rfl, _⟩ := h
      rfl
    obtain ⟨d, w, c, b, B, m, rfl, hm, dr, hb, q⟩ := h
    have nd' := sc_tree.nd
    have pos := nb_pos m
    refine ⟨_, PSs.nox (pss_cons (ps_if (PW.pt (pw_or (pt_cmpR op_eq (pv 1) pe_int (nomark _)) (pw_or1 (pt_cmpR op_eq (pe_cal cT hr (by omega) pass0 (pa_cons (pv 0) (pa_cons pe_int pa_nil))) pe_int (nomark _)))))
        (pss_one (ps_ret (pe_cal cL hr (by omega) pass0 (pa_cons (pv 0) pa_nil)))) pss_nil)
      (pss_one (ps_ret (pe_callTy call_tuple_of (by rfl) T.tuple boot_tuple (pa_cons (pe_lc (own := [("_law_k", 2)]) (g := gName 2) (tt := tYes)
          (te := tCall (spTree K n) [] E0 (tCons (tVar 0) (tCons (tIf (tTest (tOp (rI0 fun i j => .bl (decide (i > j))) (tVar 2) (tC (.int 0)))) (tCB (fun xs H Q => ∃ i j, xs = [.int i, .int j] ∧ Q (.int (if j < i then j else i)) H) (tCons (tOp (rI0 fun i j => .int (i - j)) (tVar 1) (tC (.int 1))) (tCons (tC (.int 3)) tNil))) (tOp (rI0 fun i j => .int (i - j)) (tVar 1) (tC (.int 1)))) tNil))) rfl nd'
          (pi_range1 rfl T.range (pa_cons (pe_cal cP hr (by omega) pass0 (pa_cons (pv 0) (pa_cons (pe_lst (pa_cons pe_int (pa_cons pe_int (pa_cons pe_int (pa_cons pe_int (pa_cons pe_int pa_nil)))))) pa_nil))) pa_nil))
          (blkOk_by (N := nTree) (sc := dLTree.scope) (own := [("_law_k", 2)]) (by decide +kernel)) (fun _ _ _ _ _ => pg_name (i := 2) nd' rfl (Or.inl rfl)) (fun _ _ _ _ _ => pts_nil)
          (fun _ _ _ _ _ => pe_cal ih hr (by omega) pass0 (pa_cons (pv 0) (pa_cons (pe_ifExp (pt_cmpR op_gt (pv 2) pe_int (nomark _)) (pe_callB (call_min2 rfl) (by rfl) T.min boot_min (pa_cons (pe_op op_sub (pv 1) pe_int) (pa_cons pe_int pa_nil))) (pe_op op_sub (pv 1) pe_int)) pa_nil)))) pa_nil))))), ?_⟩
    have leaf : ∀ (b' : Nat) (H1 : Hp), Drw B H1 d w c b' → b' ≤ b + 1 → spLeaf [.ref d] H1 Q (fun _ _ _ => False) := fun b' H1 dr1 hb' =>
      ⟨d, w, c, b', B, rfl, dr1, by omega, fun dt H2 lf dr2 => q _ dt B H2 (Same.refl B) (dr2.more (by omega)) (lf.f K B) (isT_mono dt 0 m (Nat.zero_le _) lf.t) (by rw [lf.n]; exact pos)⟩
    refine ⟨_, rfl, rfl, _, rfl, ?_⟩
    by_cases hm0 : m = 0
    · rw [decide_eq_true (by rw [hm0]; rfl)]
      exact iteT ⟨_, rfl, leaf b H dr (by omega)⟩
    · rw [decide_eq_false (fun z => hm0 (by have := V.int.inj z; omega))]
      refine iteF ⟨_, rfl, d, w, c, b, B, 3, rfl, dr, by omega, by decide, by decide, fun r H1 _ _ dr1 => ?_⟩
      refine ⟨rfl, _, rfl, ?_⟩
      by_cases hr0 : r = 0
      · rw [decide_eq_true (by rw [hr0])]
        exact iteT ⟨_, rfl, leaf (b + 1) H1 dr1 (by omega)⟩
      · rw [decide_eq_false (fun z => hr0 (V.int.inj z))]
        obtain ⟨m, rfl⟩ : ∃ m', m = m' + 1 := ⟨m - 1, by omega⟩
        refine iteF ⟨_, rfl, by rw [sizeLine_eq]; exact (show 5 ≤ 16777216 by decide), fun l hl => ?_⟩
        have dr2 := dr1.new hl (.lst [.int 0, .int 1, .int 1, .int 2, .int 3])
        refine ⟨d, w, c, l, b + 1, _, _, rfl, dr2, by omega, upd_same, by simp, by simp, fun i x H2 hx dr3 => ?_⟩
        have hxm := List.mem_of_getElem? hx
        obtain ⟨k, rfl, hk⟩ : ∃ k : Nat, x = .int k ∧ k ≤ 3 := by
          simp only [List.mem_cons, List.not_mem_nil, or_false] at hxm
          rcases hxm with rfl | rfl | rfl | rfl | rfl
          · exact ⟨0, rfl, by decide⟩
          · exact ⟨1, rfl, by decide⟩
          · exact ⟨1, rfl, by decide⟩
          · exact ⟨2, rfl, by decide⟩
          · exact ⟨3, rfl, by decide⟩
        refine ⟨k, rfl, by omega, by omega, fun D hD => ?_⟩
        have sB : Same B (upd (upd B l (.lst [.int 0, .int 1, .int 1, .int 2, .int 3])) D (.lst [])) := (same_new (dr1.bnone hl) _).trans (same_new (dr3.bnone hD) _)
        have Dd := dr3.nd hD
        have Dw := dr3.nw hD
        have Dc := dr3.nc hD
        have DB : B D = none := by
          cases h : B D with
          | none => rfl
          | some o =>
            have h1 := dr3.sm _ _ ((same_new (dr1.bnone hl) (.lst [.int 0, .int 1, .int 1, .int 2, .int 3])) _ _ h)
            rw [hD] at h1
            cases h1
        refine lc_range (lo := 0) (n := k) (fun i H' => ∃ (B3 : Hp) (vs : List V) (ds : List PyData), Same B B3 ∧ B3 D = some (.lst vs) ∧ Drw B3 H' d w c (b + 2 + 40 * fB m i) ∧ DpAll K B3 vs ds ∧ isTAll ds m = true ∧ vs.length = i ∧ ndAll ds ≤ fB m i)
          ⟨_, [], [], sB, upd_same, dr3.new hD _, .nil, rfl, rfl, Nat.le_refl _⟩ (fun i H' hi ⟨B3, vs, ds, e3, hD3, dr4, hdp, hT, hlen, hnd⟩ => ?_) (fun H' ⟨B3, vs, ds, e3, hD3, dr4, hdp, hT, hlen, hnd⟩ => ?_)
        · have step : ∀ m' : Nat, m' < n → m' ≤ m → fB m i + NB m' ≤ fB m (i + 1) → tCall (spTree K n) [] E0 (tCons (tVar 0) (tCons (tC (.int m')) tNil)) (((wipe (L2.start nTree [V.ref d, V.int ((m + 1 : Nat) : Int)]) [2])).set 2 (some (V.int (0 + (i : Nat))))) H' (fun y H4 => ∃ acc, H4 D = some (.lst acc) ∧ acc.length < sizeLine ∧
              ∃ (B3 : Hp) (vs : List V) (ds : List PyData), Same B B3 ∧ B3 D = some (.lst vs) ∧ Drw B3 (upd H4 D (.lst (acc ++ [y]))) d w c (b + 2 + 40 * fB m (i + 1)) ∧ DpAll K B3 vs ds ∧ isTAll ds m = true ∧ vs.length = i + 1 ∧ ndAll ds ≤ fB m (i + 1)) := by
            intro m' hn' hm' hf
            have hle := fB_le m (i + 1) (by omega)
            refine ⟨_, rfl, d, w, c, b + 2 + 40 * fB m i, B3, m', rfl, hn', dr4, by omega, fun v dt B' H4 e4 dr5 hv ht hnd' => ?_⟩
            have hD4 := e4 _ _ hD3
            refine ⟨vs, dr5.sm _ _ hD4, by rw [hlen, sizeLine_eq]; omega, upd B' D (.lst (vs ++ [v])), vs ++ [v], ds ++ [dt], ?_, upd_same, (dr5.put Dd Dw Dc _).more (by omega), ?_, isTAll_snoc hT (isT_mono dt m' m hm' ht), by simp [hlen], ?_⟩
            · exact fun x u h => by
                rw [upd_ne (fun z => by rw [z, DB] at h; cases h)]
                exact e4 _ _ (e3 _ _ h)
            · have kt := kt_lst (o := .lst (vs ++ [v])) hD4
              exact dpA_snoc (dpA_kt kt ds vs (isTAll_tl ds m hT) (dpA_same e4 _ _ hdp)) (dp_kt kt dt v (isT_tl dt m' ht) hv)
            · rw [ndAll_app]
              simp only [ndAll]
              omega
          cases i with
          | zero =>
            refine ⟨rfl, _, rfl, _, rfl, _, _, rfl, rfl, _, rfl, iteF ⟨_, rfl, _, _, rfl, rfl, ?_⟩⟩
            have q2 := step m (by omega) (Nat.le_refl _) (by simp [fB])
            obtain ⟨_, e1, q3⟩ := q2
            cases e1
            show spTree K n [V.ref d, V.int (((m + 1 : Nat) : Int) - 1)] H' _ E0
            rw [show (((m + 1 : Nat) : Int) - 1) = (m : Int) by omega]
            exact q3
          | succ i =>
            refine ⟨rfl, _, rfl, _, rfl, _, _, rfl, rfl, _, rfl, ?_⟩
            rw [show decide (0 + ((i + 1 : Nat) : Int) > 0) = true from decide_eq_true (by omega)]
            refine iteT ⟨_, rfl, _, _, rfl, rfl, _, _, rfl, ?_⟩
            have q2 := step (min m 3) (by omega) (by omega) (by simp only [fB]; rw [Nat.add_mul]; omega)
            obtain ⟨_, e1, q3⟩ := q2
            cases e1
            show spTree K n [V.ref d, V.int (if (3 : Int) < ((m + 1 : Nat) : Int) - 1 then (3 : Int) else ((m + 1 : Nat) : Int) - 1)] H' _ E0
            rw [show (if (3 : Int) < ((m + 1 : Nat) : Int) - 1 then (3 : Int) else ((m + 1 : Nat) : Int) - 1) = ((min m 3 : Nat) : Int) by split <;> omega]
            exact q3
        · refine ⟨D, vs, rfl, .inl ⟨SqL.of (dr4.sm _ _ hD3), fun p hp => ?_⟩⟩
          have hle := fB_le m k hk
          have e5 : Same B3 (upd B3 p (.tup vs)) := same_new (dr4.bnone hp) _
          refine q (.ref p) (.tuple ds) _ _ (e3.trans e5) ((dr4.new hp (.tup vs)).more (by omega)) (.tup (SqT.of upd_same) (dpA_same e5 _ _ hdp)) ?_ ?_
          · simp only [isT, Bool.and_eq_true, decide_eq_true_eq]
            exact ⟨by omega, hT⟩
          · simp only [nd]
            omega
end
end K17

set_option Elab.async false
set_option linter.all false
set_option maxRecDepth 100000
set_option maxHeartbeats 4000000
set_option autoImplicit false
namespace K17
open PySem PySem.Spec PyProof.Rows L2
/-! ### _law_strange -/
def scal : PyData → Bool
  | .none => true
  | .bool _ => true
  | .int _ => true
  | .str _ => true
  | _ => false
theorem dpA_scal {K : PySem.W.Frag} {H : Hp} : ∀ {l : List PyData}, l.all scal = true → DpAll K H (l.map dataV) l
  | [], _ => .nil
  | d :: r, h => by
    simp only [List.all_cons, Bool.and_eq_true] at h
    refine .cons ?_ (dpA_scal h.2)
    cases d with
    | none => exact .non
    | bool b => exact .bl b
    | int i => exact .int i
    | str x => exact .str x
    | list _ => simp [scal] at h
    | tuple _ => simp [scal] at h
    | dict _ => simp [scal] at h
theorem dpA_app {K : PySem.W.Frag} {H : Hp} : ∀ {vs us : List V} {ds es : List PyData}, DpAll K H vs ds → DpAll K H us es → DpAll K H (vs ++ us) (ds ++ es)
  | _, _, _, _, .nil, h => h
  | _, _, _, _, .cons a r, h => .cons a (dpA_app r h)
def fl1 : List PyData := [.none, .bool true, .bool false, .int 0, .int 1, .int 2, .int 5, .int 13, .int 20, .int 21, .int 39, .int 40, .int 62, .int 63, .int 64, .int (-1), .str "", .str "a", .str "set", .str "row", .str "name", .str "near", .str "branch", .str "goto", .str "load", .str "take"]
def fl2 : List PyData := [.str "own", .str "open", .str "weak", .str "strong", .str "code", .str "data", .str "object"]
def tup5 : List PyData := [.tuple [], .tuple [.int 0], .tuple [.int 1, .int 2], .tuple [.str "row", .int 0], .tuple [.str "name", .str "a"], .list [], .list [.str "a"]]
def fl3 : List PyData := [.str "abcdefghi", .int 32767, .int 32768]
theorem strange_ok : ∀ d ∈ fl1 ++ (fl2 ++ (tup5 ++ fl3)), gs d = true ∧ nd d ≤ 3 := by decide +kernel
def spStrange (K : PySem.W.Frag) : Sp := fun vs H Q _ => ∃ (d w c : Addr) (b : Nat) (B : Hp), vs = [.ref d] ∧ Drw B H d w c b ∧ b + 1 < 2 ^ 40 ∧ ∀ v dt B' H', Same B B' → Drw B' H' d w c (b + 1) → Dp K B' v dt → gs dt = true → nd dt ≤ 3 → Q v H'
theorem sc_strange : FnScope ["_law_draw", "_law_some"] ["_law_draw"] dStrange.scope := ⟨rfl, rfl, rfl, by decide +kernel, rfl, by decide +kernel, by decide +kernel⟩
section
variable {P : Program} {w : World} {K : PySem.W.Frag} {mg : Str → Option Value} {base : Heap}
theorem ok_strange (T : Tx K mg) (D : Dn K mg dStrange) (cP : Cal P w K mg base CX0 3 "_law_pick" (spPick K)) : Cal P w K mg base CX0 4 "_law_strange" (spStrange K) := by
  obtain ⟨fd, F⟩ := D.fn
  refine cal_of F D.gl (F.bindsN (ps := ["_law_draw"]) fun _ _ _ _ _ _ us hl => match us, hl with | [_], _ => rfl) ?_
  refine F.ok sc_strange (fun vs H Q E h => ?_) (fun cdv A outer s H vs Q E hr h => ?_)
  · obtain ⟨d, w, c, b, B, rfl, _⟩ := h
    rfl
  obtain ⟨d, w, c, b, B, rfl, dr, hb, q⟩ := h
  have nd' := sc_strange.nd
  refine ⟨_, PSs.nox (pss_cons (ps_set (i := 1) nd' rfl (.inl rfl) (pe_lst (pa_cons pe_non (pa_cons pe_bl (pa_cons pe_bl (pa_cons pe_int (pa_cons pe_int (pa_cons pe_int (pa_cons pe_int (pa_cons pe_int (pa_cons pe_int (pa_cons pe_int (pa_cons pe_int (pa_cons pe_int (pa_cons pe_int (pa_cons pe_int (pa_cons pe_int (pa_cons (pe_un un_neg pe_int)
      (pa_cons pe_str (pa_cons pe_str (pa_cons pe_str (pa_cons pe_str (pa_cons pe_str (pa_cons pe_str (pa_cons pe_str (pa_cons pe_str (pa_cons pe_str (pa_cons pe_str pa_nil))))))))))))))))))))))))))))
    (pss_one (ps_ret (pe_cal cP hr (by decide) pass0 (pa_cons (pv 0) (pa_cons (pe_op op_cat (pv 1) (pe_lst (pa_cons pe_str (pa_cons pe_str (pa_cons pe_str (pa_cons pe_str (pa_cons pe_str (pa_cons pe_str (pa_cons pe_str
      (pa_cons (pe_tup pa_nil) (pa_cons (pe_tup (pa_cons pe_int pa_nil)) (pa_cons (pe_tup (pa_cons pe_int (pa_cons pe_int pa_nil))) (pa_cons (pe_tup (pa_cons pe_str (pa_cons pe_int pa_nil))) (pa_cons (pe_tup (pa_cons pe_str (pa_cons pe_str pa_nil)))
      (pa_cons (pe_lst pa_nil) (pa_cons (pe_lst (pa_cons pe_str pa_nil)) (pa_cons pe_str (pa_cons pe_int (pa_cons pe_int pa_nil))))))))))))))))))) pa_nil)))))), ?_⟩
  have ln : ∀ {n : Nat}, n ≤ 100 → n ≤ sizeLine := fun h => by rw [sizeLine_eq]; omega
  refine ⟨_, rfl, ln (by decide), fun l1 h1 => ?_⟩
  have d1 := dr.new h1 (.lst (fl1.map dataV))
  have s1 := same_new (dr.bnone h1) (.lst (fl1.map dataV))
  refine ⟨_, rfl, _, rfl, ln (Nat.zero_le _), fun t1 g1 => ?_⟩
  have d2 := d1.new g1 (.tup [])
  have s2 := s1.trans (same_new (d1.bnone g1) (.tup []))
  refine ⟨ln (by decide), fun t2 g2 => ?_⟩
  have d3 := d2.new g2 (.tup [.int 0])
  refine ⟨ln (by decide), fun t3 g3 => ?_⟩
  have d4 := d3.new g3 (.tup [.int 1, .int 2])
  refine ⟨ln (by decide), fun t4 g4 => ?_⟩
  have d5 := d4.new g4 (.tup [.str "row", .int 0])
  refine ⟨ln (by decide), fun t5 g5 => ?_⟩
  have d6 := d5.new g5 (.tup [.str "name", .str "a"])
  refine ⟨ln (by decide), fun t6 g6 => ?_⟩
  have d7 := d6.new g6 (.lst [])
  refine ⟨ln (by decide), fun t7 g7 => ?_⟩
  have d8 := d7.new g7 (.lst [.str "a"])
  refine ⟨ln (show 17 ≤ 100 by decide), fun l2 h2 => ?_⟩
  have d9 := d8.new h2 (.lst (fl2.map dataV ++ ([.ref t1, .ref t2, .ref t3, .ref t4, .ref t5, .ref t6, .ref t7] ++ fl3.map dataV)))
  have e2 := same_new (d1.bnone g1) (.tup [])
  have e3 := same_new (d2.bnone g2) (.tup [.int 0])
  have e4 := same_new (d3.bnone g3) (.tup [.int 1, .int 2])
  have e5 := same_new (d4.bnone g4) (.tup [.str "row", .int 0])
  have e6 := same_new (d5.bnone g5) (.tup [.str "name", .str "a"])
  have e7 := same_new (d6.bnone g6) (.lst [])
  have e8 := same_new (d7.bnone g7) (.lst [.str "a"])
  have e9 := same_new (d8.bnone h2) (.lst (fl2.map dataV ++ ([.ref t1, .ref t2, .ref t3, .ref t4, .ref t5, .ref t6, .ref t7] ++ fl3.map dataV)))
  have b9 : ∀ {x : Addr} {o : HO}, (upd B l1 (.lst (fl1.map dataV))) x = some o → _ := fun {x o} h => e9 _ _ (e8 _ _ (e7 _ _ (e6 _ _ (e5 _ _ (e4 _ _ (e3 _ _ (e2 _ _ h)))))))
  have k1 := b9 (x := l1) upd_same
  have k2 := e9 _ _ (e8 _ _ (e7 _ _ (e6 _ _ (e5 _ _ (e4 _ _ (e3 _ _ (upd_same (a := t1))))))))
  have k3 := e9 _ _ (e8 _ _ (e7 _ _ (e6 _ _ (e5 _ _ (e4 _ _ (upd_same (a := t2)))))))
  have k4 := e9 _ _ (e8 _ _ (e7 _ _ (e6 _ _ (e5 _ _ (upd_same (a := t3))))))
  have k5 := e9 _ _ (e8 _ _ (e7 _ _ (e6 _ _ (upd_same (a := t4)))))
  have k6 := e9 _ _ (e8 _ _ (e7 _ _ (upd_same (a := t5))))
  have k7 := e9 _ _ (e8 _ _ (upd_same (a := t6)))
  have k8 := e9 _ _ (upd_same (a := t7))
  have sAll := s1.trans (e2.trans (e3.trans (e4.trans (e5.trans (e6.trans (e7.trans (e8.trans e9)))))))
  refine ⟨l1, l2, _, _, rfl, rfl, d9.sm _ _ k1, upd_same, ln (show 26 + 17 ≤ 100 by decide), fun p hp => ?_⟩
  have dA := d9.new hp (.lst (fl1.map dataV ++ (fl2.map dataV ++ ([.ref t1, .ref t2, .ref t3, .ref t4, .ref t5, .ref t6, .ref t7] ++ fl3.map dataV))))
  have eA := same_new (d9.bnone hp) (.lst (fl1.map dataV ++ (fl2.map dataV ++ ([.ref t1, .ref t2, .ref t3, .ref t4, .ref t5, .ref t6, .ref t7] ++ fl3.map dataV))))
  refine ⟨d, w, c, p, b, _, _, rfl, dA, by omega, upd_same, (show 0 < 43 by decide), (show 43 ≤ 1000000 by decide), fun i x H' hx dr' => ?_⟩
  have dp : DpAll K _ (fl1.map dataV ++ (fl2.map dataV ++ ([.ref t1, .ref t2, .ref t3, .ref t4, .ref t5, .ref t6, .ref t7] ++ fl3.map dataV))) (fl1 ++ (fl2 ++ (tup5 ++ fl3))) :=
    dpA_app (H := upd _ p _) (dpA_scal (by decide)) (dpA_app (dpA_scal (by decide)) (dpA_app
      (.cons (.tup (SqT.of (eA _ _ k2)) .nil) (.cons (.tup (SqT.of (eA _ _ k3)) (.cons (.int 0) .nil)) (.cons (.tup (SqT.of (eA _ _ k4)) (.cons (.int 1) (.cons (.int 2) .nil))) (.cons (.tup (SqT.of (eA _ _ k5)) (.cons (.str _) (.cons (.int 0) .nil)))
        (.cons (.tup (SqT.of (eA _ _ k6)) (.cons (.str _) (.cons (.str _) .nil))) (.cons (.lst (SqL.of (eA _ _ k7)) .nil) (.cons (.lst (SqL.of (eA _ _ k8)) (.cons (.str _) .nil)) .nil))))))) (dpA_scal (by decide))))
  obtain ⟨dt, hdt, hv⟩ := dpA_get dp hx
  have ok := strange_ok dt (List.mem_of_getElem? hdt)
  exact q x dt _ H' (sAll.trans eA) dr' hv ok.1 ok.2
end
end K17

set_option Elab.async false
set_option linter.all false
set_option maxRecDepth 100000
set_option maxHeartbeats 4000000
set_option autoImplicit false
namespace K17
open PySem PySem.Spec PyProof.Rows L2
/-! ### _law_changed -/
theorem dpA_take {K : PySem.W.Frag} {H : Hp} : ∀ {vs : List V} {ds : List PyData} (i : Nat), DpAll K H vs ds → DpAll K H (vs.take i) (ds.take i)
  | _, _, _, .nil => by simp; exact .nil
  | _, _, 0, .cons _ _ => .nil
  | _, _, i + 1, .cons a r => .cons a (dpA_take i r)
theorem dpA_drop {K : PySem.W.Frag} {H : Hp} : ∀ {vs : List V} {ds : List PyData} (i : Nat), DpAll K H vs ds → DpAll K H (vs.drop i) (ds.drop i)
  | _, _, _, .nil => by simp; exact .nil
  | _, _, 0, .cons a r => .cons a r
  | _, _, i + 1, .cons a r => dpA_drop i r
theorem nd_split : ∀ {ds : List PyData} {i : Nat} {x : PyData}, ds[i]? = some x → ndAll ds = ndAll (ds.take i) + (nd x + ndAll (ds.drop (i + 1)))
  | [], _, _, h => by simp at h
  | d :: r, 0, x, h => by
    have e : d = x := by simpa using h
    subst e
    simp [ndAll]
  | d :: r, i + 1, x, h => by
    have ih := nd_split (ds := r) (i := i) (x := x) (by simpa using h)
    simp only [List.take_succ_cons, List.drop_succ_cons, ndAll] at ih ⊢
    omega
theorem nd_cut (ds : List PyData) (i : Nat) : ndAll ds = ndAll (ds.take i) + ndAll (ds.drop i) := by
  rw [← ndAll_app, List.take_append_drop]
theorem gsAll_app (a b : List PyData) : gsAll (a ++ b) = (gsAll a && gsAll b) := by
  induction a with
  | nil => simp [gsAll]
  | cons d r ih => simp [gsAll, ih, Bool.and_assoc]
theorem gsAll_of {l : List PyData} (h : ∀ d ∈ l, gs d = true) : gsAll l = true := by
  induction l with
  | nil => rfl
  | cons d r ih =>
    simp only [gsAll, Bool.and_eq_true]
    exact ⟨h d (by simp), ih fun e he => h e (by simp [he])⟩
mutual
theorem isT_gs : ∀ (d : PyData) (n : Nat), isT d n = true → gs d = true
  | .none, _, _ => rfl
  | .bool _, _, _ => rfl
  | .int _, _, _ => rfl
  | .str x, _, h => by
    simp only [isT, Bool.and_eq_true, decide_eq_true_eq, List.all_eq_true] at h
    simp only [gs, Bool.and_eq_true, decide_eq_true_eq, List.all_eq_true]
    exact ⟨by omega, fun c hc => (h.2 c hc).2⟩
  | .tuple ds, n, h => by
    simp only [isT, Bool.and_eq_true, decide_eq_true_eq] at h
    simp only [gs]
    exact isTAll_gs ds (n - 1) h.2
  | .list _, _, h => by simp [isT] at h
  | .dict _, _, h => by simp [isT] at h
theorem isTAll_gs : ∀ (l : List PyData) (n : Nat), isTAll l n = true → gsAll l = true
  | [], _, _ => rfl
  | d :: r, n, h => by
    simp only [isTAll, Bool.and_eq_true] at h
    simp only [gsAll, Bool.and_eq_true]
    exact ⟨isT_gs d n h.1, isTAll_gs r n h.2⟩
end
/-- what New data brings -/
def New (K : PySem.W.Frag) (B : Hp) (d w c : Addr) (b : Nat) (dt : PyData) (Q : VK) : Prop := ∀ v B' H', Same B B' → Drw B' H' d w c b → Dp K B' v dt → Q v H'
theorem dp_tup {K : PySem.W.Frag} {H : Hp} {x : V} {ds : List PyData} (h : Dp K H x (.tuple ds)) : ∃ a xs, x = .ref a ∧ SqT K H a xs ∧ DpAll K H xs ds := by
  cases h with
  | @tup a xs _ h1 h2 => exact ⟨a, xs, rfl, h1, h2⟩
theorem len_dp {K : PySem.W.Frag} {H : Hp} {xs : List V} {ds : List PyData} (h : DpAll K H xs ds) : xs.length ≤ ndAll ds := by
  rw [dpA_len h]
  exact ndAll_len ds
section
variable {K : PySem.W.Frag} {B H : Hp} {d w c : Addr} {b : Nat} {ds es : List PyData} {x y : V} {Q : VK}
/-- a tuple that is made now -/
theorem new_tup (dr : Drw B H d w c b) {xs : List V} (h : DpAll K B xs ds) (n : New K B d w c b (.tuple ds) Q) {p : Addr} (hp : H p = none) : Q (.ref p) (upd H p (.tup xs)) := by
  have e := same_new (dr.bnone hp) (.tup xs)
  exact n (.ref p) _ _ e (dr.new hp _) (.tup (SqT.of upd_same) (dpA_same e _ _ h))
theorem mk_tup (dr : Drw B H d w c b) {xs : List V} (h : DpAll K B xs ds) {p : Addr} (hp : H p = none) : ∃ B', Same B B' ∧ Drw B' (upd H p (.tup xs)) d w c b ∧ Dp K B' (.ref p) (.tuple ds) := by
  have e := same_new (dr.bnone hp) (.tup xs)
  exact ⟨_, e, dr.new hp _, .tup (SqT.of upd_same) (dpA_same e _ _ h)⟩
theorem cat_new (dr : Drw B H d w c b) (hx : Dp K B x (.tuple ds)) (hy : Dp K B y (.tuple es)) (hz : ndAll ds + ndAll es ≤ 1000000) (n : New K B d w c b (.tuple (ds ++ es)) Q) : rCatA K x y H Q := by
  obtain ⟨a, xs, rfl, h1, h2⟩ := dp_tup hx
  obtain ⟨a', ys, rfl, h3, h4⟩ := dp_tup hy
  have l1 := len_dp h2
  have l2 := len_dp h4
  refine ⟨a, a', xs, ys, rfl, rfl, sq_same dr.sm h1, sq_same dr.sm h3, by rw [sizeLine_eq]; omega, fun e => ?_, fun _ e => ?_, fun _ _ p hp => new_tup dr (dpA_app h2 h4) n hp⟩
  · subst e
    cases h2
    exact n _ B H (Same.refl B) dr hy
  · subst e
    cases h4
    rw [List.append_nil] at n
    exact n _ B H (Same.refl B) dr hx
theorem cut_whole {xs : List V} {lo hi : Option Int} (h : HT.sIx xs.length 0 lo = 0 ∧ HT.sIx xs.length xs.length hi = xs.length) : cutV xs lo hi = xs := by
  unfold cutV
  rw [h.1, h.2]
  simp
theorem slice_new (dr : Drw B H d w c b) (hx : Dp K B x (.tuple ds)) {lo hi : Option Int} (hc : ∀ xs : List V, xs.length = ds.length → DpAll K B xs ds → DpAll K B (cutV xs lo hi) es) (n : New K B d w c b (.tuple es) Q) : rSlA K x lo hi H Q := by
  obtain ⟨a, xs, rfl, h1, h2⟩ := dp_tup hx
  have h3 := hc xs (dpA_len h2) h2
  refine ⟨a, xs, rfl, sq_same dr.sm h1, fun e => ?_, fun _ p hp => new_tup dr h3 n hp⟩
  rw [cut_whole e] at h3
  exact n _ B H (Same.refl B) dr (.tup h1 h3)
theorem cut_front {xs : List V} {at_ : Nat} (h : at_ ≤ xs.length) : cutV xs none (some (at_ : Int)) = xs.take at_ := by
  unfold cutV
  rw [HT.sIx_none, HT.sIx_nat, Nat.min_eq_left h]
  simp
theorem cut_back {xs : List V} {at_ : Nat} (h : at_ ≤ xs.length) : cutV xs (some (at_ : Int)) none = xs.drop at_ := by
  unfold cutV
  rw [HT.sIx_none, HT.sIx_nat, Nat.min_eq_left h, List.take_of_length_le (by rw [List.length_drop]; exact Nat.le_refl _)]
theorem front_new (dr : Drw B H d w c b) (hx : Dp K B x (.tuple ds)) {i : Nat} (hi : i ≤ ds.length) (n : New K B d w c b (.tuple (ds.take i)) Q) : rSlA K x none (some (i : Int)) H Q :=
  slice_new dr hx (fun xs hl h => by rw [cut_front (by omega)]; exact dpA_take i h) n
theorem back_new (dr : Drw B H d w c b) (hx : Dp K B x (.tuple ds)) {i : Nat} (hi : i ≤ ds.length) (n : New K B d w c b (.tuple (ds.drop i)) Q) : rSlA K x (some (i : Int)) none H Q :=
  slice_new dr hx (fun xs hl h => by rw [cut_back (by omega)]; exact dpA_drop i h) n
end
def spChanged (K : PySem.W.Frag) (n : Nat) : Sp := fun vs H Q _ => ∃ (d w c : Addr) (b : Nat) (B : Hp) (v : V) (dt : PyData) (m : Nat), vs = [.ref d, v] ∧ m < n ∧ Drw B H d w c b ∧ b + 10 * n < 2 ^ 40 ∧ Dp K B v dt ∧ isT dt m = true ∧ nd dt ≤ 20000 ∧
  ∀ dt', gs dt' = true → nd dt' ≤ 2 * nd dt + 8 → New K B d w c (b + 10 * n) dt' Q
theorem tupK (K : PySem.W.Frag) (dt : PyData) : ∃ r, PySem.W.kitOne K (.type (tyN dt)) (.type "tuple") = some r ∧ (r = true → ∃ ds, dt = .tuple ds) ∧ (r = false → ∀ ds, dt ≠ .tuple ds) := by
  cases dt with
  | tuple ds => exact ⟨true, kt "tuple" "tuple", fun _ => ⟨ds, rfl⟩, fun z => nomatch z⟩
  | none => exact ⟨false, kt "NoneType" "tuple", (fun z => nomatch z), fun _ ds z => nomatch z⟩
  | bool _ => exact ⟨false, kt "bool" "tuple", (fun z => nomatch z), fun _ ds z => nomatch z⟩
  | int _ => exact ⟨false, kt "int" "tuple", (fun z => nomatch z), fun _ ds z => nomatch z⟩
  | str _ => exact ⟨false, kt "str" "tuple", (fun z => nomatch z), fun _ ds z => nomatch z⟩
  | list _ => exact ⟨false, kt "list" "tuple", (fun z => nomatch z), fun _ ds z => nomatch z⟩
  | dict _ => exact ⟨false, kt "dict" "tuple", (fun z => nomatch z), fun _ ds z => nomatch z⟩
theorem ps_imp {X : Cx} {x : Stmt} {t t' : TS} (h : PS X x t) (f : ∀ D σ H, t' D σ H → t D σ H) : PS X x t' := ⟨fun pins s σ H D I q => h.run pins s σ H D I (f D σ H q)⟩
/-- something else in its place -/
def tElse (K : PySem.W.Frag) : TS := fun D σ H => ∃ (d w c : Addr) (b : Nat) (B : Hp) (v : V) (dt : PyData), σ[0]? = some (some (.ref d)) ∧ σ[1]? = some (some v) ∧ Drw B H d w c b ∧ b + 2 < 2 ^ 40 ∧ Dp K B v dt ∧ gs dt = true ∧
  ∀ dt', gs dt' = true → nd dt' ≤ nd dt + 3 → New K B d w c (b + 2) dt' D.rt
theorem eqv_nilT (l : List PyData) : PyData.eqv (.tuple l) (.tuple []) = l.isEmpty := by
  cases l <;> simp [PyData.eqv, PyData.eqvAll]
abbrev nChanged : List Str := ["_law_draw", "_law_tree_here", "_law_at", "_law_deed"]
theorem sc_changed : FnScope nChanged ["_law_draw", "_law_tree_here"] dChanged.scope := ⟨rfl, rfl, rfl, by decide +kernel, rfl, by decide +kernel, by decide +kernel⟩
section
variable {P : Program} {w : World} {K : PySem.W.Frag} {mg : Str → Option Value} {base : Heap}
theorem ok_changed (T : Tx K mg) (D : Dn K mg dChanged) (cT : Cal P w K mg base CX0 2 "_law_take" spTake) (cS : Cal P w K mg base CX0 4 "_law_strange" (spStrange K)) : ∀ n : Nat, Cal P w K mg base CX0 (n + 4) "_law_changed" (spChanged K n)
  | 0 => by
    obtain ⟨fd, F⟩ := D.fn
    exact cal_of F D.gl (F.bindsN (ps := ["_law_draw", "_law_tree_here"]) fun _ _ _ _ _ _ us hl => match us, hl with | [_, _], _ => rfl) (fn_absurd fun vs H Q E h => by obtain ⟨_, _, _, _, _, _, _, m, _, z, _⟩ := h; omega)
  | n + 1 => by
    have ih := ok_changed T D cT cS n
    obtain ⟨fd, F⟩ := D.fn
    refine cal_of F D.gl (F.bindsN (ps := ["_law_draw", "_law_tree_here"]) fun _ _ _ _ _ _ us hl => match us, hl with | [_, _], _ => rfl) ?_
    refine F.ok sc_changed (fun vs H Q E h => ?_) (fun cdv A outer s H vs Q E hr h => ?_)
    · obtain ⟨d, w, c, b, B, v, dt, m, rfl, _⟩ := h
      rfl
    obtain ⟨d, w, c, b, B, v, dt, m, rfl, hm, dr, hb, hv, ht, hn, q⟩ := h
    have nd' := sc_changed.nd
    refine ⟨_, PSs.nox (pss_cons (ps_if (PW.pt (pw_or (pt_not (pt_val (pe_callB call_isi (by rfl) T.isi boot_isinstance (pa_cons (pv 1) (pa_cons (pe_ty T.tuple boot_tuple) pa_nil)))))
          (pw_or (pt_cmpR (op_eqC hr.units) (pv 1) (pe_tup pa_nil) (nomark _)) (pw_or1 (pt_cmpR op_eq (pe_cal cT hr (by omega) pass0 (pa_cons (pv 0) (pa_cons pe_int pa_nil))) pe_int (nomark _))))))
        (pss_one (ps_imp (t' := tElse K) (ps_ret (pe_ifExp (PW.pt (pw_and (pt_val (pe_callB call_isi (by rfl) T.isi boot_isinstance (pa_cons (pv 1) (pa_cons (pe_ty T.tuple boot_tuple) pa_nil)))) (pw_and1 (pt_cmpR op_eq (pe_cal cT hr (by omega) pass0 (pa_cons (pv 0) (pa_cons pe_int pa_nil))) pe_int (nomark _)))))
          (pe_callTy call_list_of (by rfl) T.list boot_list (pa_cons (pv 1) pa_nil)) (pe_cal cS hr (by omega) pass0 (pa_cons (pv 0) pa_nil)))) fun D σ H h => by
            obtain ⟨d, w, c, b, B, v, dt, s0, s1, dr, hb, hv, hg, q⟩ := h
            obtain ⟨r, hk, hk1, hk2⟩ := tupK K dt
            have str : ∀ b' H1, Drw B H1 d w c b' → b' ≤ b + 1 → spStrange K [.ref d] H1 D.rt E0 := fun b' H1 dr1 h1 =>
              ⟨d, w, c, b', B, rfl, dr1, by omega, fun v' dt' B' H' e dr' hv' g nn => q dt' g (by omega) v' B' H' e (dr'.more (by omega)) hv'⟩
            refine ⟨_, s1, _, _, _, _, r, rfl, .ty _, dp_ty (dp_same dr.sm _ _ hv), hk, r, rfl, ?_⟩
            cases r with
            | false => exact iteF (iteF ⟨_, s0, str b H dr (by omega)⟩)
            | true =>
              obtain ⟨ds, rfl⟩ := hk1 rfl
              obtain ⟨a, xs, rfl, hs, ha⟩ := dp_tup hv
              refine iteT ⟨_, s0, d, w, c, b, B, 6, rfl, dr, by omega, by decide, by decide, fun r2 H2 _ _ dr2 => ⟨rfl, _, rfl, ?_⟩⟩
              by_cases hr2 : r2 = 0
              · rw [decide_eq_true (by rw [hr2])]
                refine iteT ⟨_, s1, a, xs, rfl, .inr (sq_same dr2.sm hs), fun l hl => ?_⟩
                have e := same_new (dr2.bnone hl) (.lst xs)
                exact q (.list ds) (by simpa only [gs] using hg) (by simp only [nd]; omega) (.ref l) _ _ e ((dr2.new hl _).more (by omega)) (.lst (SqL.of upd_same) (dpA_same e _ _ ha))
              · rw [decide_eq_false (fun z => hr2 (V.int.inj z))]
                exact iteF ⟨_, s0, str (b + 1) H2 dr2 (by omega)⟩)) pss_nil)
      (pss_cons (ps_par (i := 2) (j := 3) (by rfl) nd' rfl rfl (by decide) rfl rfl (pa_cons (pe_cal cT hr (by omega) pass0 (pa_cons (pv 0) (pa_cons (pe_callB call_len_seq (by rfl) T.len PySem.boot_len (pa_cons (pv 1) pa_nil)) pa_nil))) (pa_cons (pe_cal cT hr (by omega) pass0 (pa_cons (pv 0) (pa_cons pe_int pa_nil))) pa_nil)) (by rfl))
      (pss_cons (ps_if (pt_cmpR op_eq (pv 3) pe_int (nomark _)) (pss_one (ps_ret (pe_op op_catA (pe_slice sl_tupA (pv 1) po_none (po_some (pv 2))) (pe_slice sl_tupA (pv 1) (po_some (pe_op op_add (pv 2) pe_int)) po_none)))) pss_nil)
      (pss_cons (ps_if (pt_cmpR op_eq (pv 3) pe_int (nomark _)) (pss_one (ps_ret (pe_op op_catA (pe_op op_catA (pe_slice sl_tupA (pv 1) po_none (po_some (pv 2))) (pe_tup (pa_cons (pe_ix ix_tup (pv 1) (pv 2) (fun _ _ => rfl)) pa_nil))) (pe_slice sl_tupA (pv 1) (po_some (pv 2)) po_none)))) pss_nil)
      (pss_one (ps_ret (pe_op op_catA (pe_op op_catA (pe_slice sl_tupA (pv 1) po_none (po_some (pv 2))) (pe_tup (pa_cons (pe_cal ih hr (by omega) pass0 (pa_cons (pv 0) (pa_cons (pe_ix ix_tup (pv 1) (pv 2) (fun _ _ => rfl)) pa_nil))) pa_nil))) (pe_slice sl_tupA (pv 1) (po_some (pe_op op_add (pv 2) pe_int)) po_none)))))))), ?_⟩
    have hgs := isT_gs dt m ht
    have els : ∀ b' H1, Drw B H1 d w c b' → b' ≤ b + 1 → tElse K { nx := fun _ H' => Q .non H', rt := Q } (L2.start nChanged [.ref d, v]) H1 := fun b' H1 dr1 h1 =>
      ⟨d, w, c, b', B, v, dt, rfl, rfl, dr1, by omega, hv, hgs, fun dt' g nn v' B' H' e dr' hv' => q dt' g (by omega) v' B' H' e (dr'.more (by omega)) hv'⟩
    obtain ⟨r, hk, hk1, hk2⟩ := tupK K dt
    refine ⟨_, rfl, _, _, _, _, r, rfl, .ty _, dp_ty (dp_same dr.sm _ _ hv), hk, r, rfl, ?_⟩
    cases r with
    | false => exact iteT (iteT (els b H dr (by omega)))
    | true =>
      obtain ⟨ds, rfl⟩ := hk1 rfl
      obtain ⟨a, xs, rfl, hs, ha⟩ := dp_tup hv
      have hlen := dpA_len ha
      have hnl := len_dp ha
      simp only [nd] at hn
      refine iteF ⟨_, rfl, by rw [sizeLine_eq]; simp, fun p hp => ?_⟩
      have e1 := same_new hp (.tup [])
      have dr1 := dr.grow e1
      refine ⟨.tuple ds, .tuple [], dp_same dr1.sm _ _ hv, .tup (SqT.of upd_same) .nil, gs_lay _ hgs, by simp [PyData.canLay0, PyData.canLayAll0], ?_, _, rfl, ?_⟩
      · have : (PyData.tuple []).depth ≤ 64 := by simp [PyData.depth, PyData.depthAll]
        omega
      rw [eqv_nilT]
      cases hE : ds.isEmpty with
      | true => exact iteT (iteT (els b _ dr1 (by omega)))
      | false =>
      have hpos : 0 < ds.length := by
        cases ds with
        | nil => cases hE
        | cons _ _ => simp
      refine iteF ⟨_, rfl, d, w, c, b, B, 7, rfl, dr1, by omega, by decide, by decide, fun r2 H2 _ _ dr2 => ⟨rfl, _, rfl, ?_⟩⟩
      by_cases hr2 : r2 = 0
      · rw [decide_eq_true (by rw [hr2])]
        exact iteT (els (b + 1) H2 dr2 (by omega))
      rw [decide_eq_false (fun z => hr2 (V.int.inj z))]
      refine iteF ⟨_, rfl, _, rfl, a, xs, rfl, .inr (sq_same dr2.sm hs), d, w, c, b + 1, B, _, rfl, dr2, by omega, by omega, by omega, fun r3 H3 r30 r31 dr3 => ?_⟩
      refine ⟨_, rfl, d, w, c, b + 2, B, 9, rfl, dr3, by omega, by decide, by decide, fun r4 H4 _ _ dr4 => ⟨_, _, rfl, ?_⟩⟩
      obtain ⟨k, rfl⟩ : ∃ k : Nat, r3 = (k : Int) := ⟨r3.toNat, by omega⟩
      have hk : k < ds.length := by omega
      obtain ⟨dx, hdx⟩ : ∃ dx, ds[k]? = some dx := ⟨ds[k], by simp [hk]⟩
      obtain ⟨x, hx⟩ : ∃ x, xs[k]? = some x := ⟨xs[k]'(by omega), by simp [hlen, hk]⟩
      have hxd : Dp K B x dx := by
        obtain ⟨dx', h1, h2⟩ := dpA_get ha hx
        rw [hdx] at h1
        cases h1
        exact h2
      have hsp := nd_split hdx
      have hgA : gsAll ds = true := by simpa only [gs] using hgs
      have gsub : ∀ l : List PyData, (∀ e ∈ l, e ∈ ds) → gsAll l = true := fun l hl => gsAll_of fun e he => gsAll_mem hgA e (hl e he)
      have gtk := gsub (ds.take k) fun e he => List.mem_of_mem_take he
      have gdr : ∀ j, gsAll (ds.drop j) = true := fun j => gsub (ds.drop j) fun e he => List.mem_of_mem_drop he
      have gdx : gs dx = true := gsAll_mem hgA dx (List.mem_of_getElem? hdx)
      have D4 : Dp K B (.ref a) (.tuple ds) := .tup hs ha
      have dr4' : Drw B H4 d w c (b + 10 * (n + 1)) := dr4.more (by omega)
      have e_add : (k : Int) + 1 = ((k + 1 : Nat) : Int) := by omega
      refine ⟨_, rfl, rfl, _, rfl, ?_⟩
      by_cases c0 : r4 = 0
      · rw [decide_eq_true (by rw [c0])]
        refine iteT ⟨_, rfl, _, rfl, _, rfl, front_new dr4' D4 (Nat.le_of_lt hk) fun v1 B1 H5 e5 dr5 hv1 => ?_⟩
        refine ⟨_, rfl, _, rfl, _, _, rfl, rfl, _, rfl, ?_⟩
        change tNoPart _ H5 _
        unfold tNoPart
        rw [e_add]
        refine back_new (i := k + 1) dr5 (dp_same e5 _ _ D4) hk fun v2 B2 H6 e6 dr6 hv2 => ?_
        refine cat_new dr6 (dp_same e6 _ _ hv1) hv2 (by omega) fun v3 B3 H7 e7 dr7 hv3 => ?_
        refine q _ (by simp only [gs, gsAll_app, gtk, gdr]; rfl) ?_ v3 B3 H7 ((e5.trans e6).trans e7) dr7 hv3
        simp only [nd, ndAll_app]
        omega
      · rw [decide_eq_false (fun z => c0 (V.int.inj z))]
        refine iteF ⟨_, rfl, rfl, _, rfl, ?_⟩
        by_cases c1 : r4 = 1
        · rw [decide_eq_true (by rw [c1])]
          refine iteT ⟨_, rfl, _, rfl, _, rfl, front_new dr4' D4 (Nat.le_of_lt hk) fun v1 B1 H5 e5 dr5 hv1 => ?_⟩
          refine ⟨_, rfl, _, rfl, a, xs, _, x, rfl, rfl, sq_same (e5.trans dr5.sm) hs, atI_nat hx, one_line, fun p5 hp5 => ?_⟩
          obtain ⟨B2, e6, dr6, hv2⟩ := mk_tup (ds := [dx]) dr5 (.cons (dp_same e5 _ _ hxd) .nil) hp5
          refine cat_new dr6 (dp_same e6 _ _ hv1) hv2 (by simp only [ndAll]; omega) fun v3 B3 H7 e7 dr7 hv3 => ?_
          refine ⟨_, rfl, _, rfl, _, rfl, ?_⟩
          change tNoPart _ H7 _
          unfold tNoPart
          refine back_new (i := k) dr7 (dp_same (e5.trans (e6.trans e7)) _ _ D4) (Nat.le_of_lt hk) fun v4 B4 H8 e8 dr8 hv4 => ?_
          have hc := nd_cut ds k
          refine cat_new dr8 (dp_same e8 _ _ hv3) hv4 (by simp only [ndAll_app, ndAll]; omega) fun v5 B5 H9 e9 dr9 hv5 => ?_
          refine q _ (by simp only [gs, gsAll_app, gsAll, gtk, gdr, gdx]; rfl) ?_ v5 B5 H9 ((e5.trans (e6.trans e7)).trans (e8.trans e9)) dr9 hv5
          simp only [nd, ndAll_app, ndAll]
          omega
        · rw [decide_eq_false (fun z => c1 (V.int.inj z))]
          obtain ⟨m0, hmem⟩ := isT_mem ht
          refine iteF ⟨_, rfl, _, rfl, _, rfl, front_new dr4 D4 (Nat.le_of_lt hk) fun v1 B1 H5 e5 dr5 hv1 => ?_⟩
          have hndx := ndAll_mem dx (List.mem_of_getElem? hdx)
          refine ⟨_, rfl, _, rfl, _, rfl, a, xs, _, x, rfl, rfl, sq_same (e5.trans dr5.sm) hs, atI_nat hx, d, w, c, b + 3, B1, x, dx, m - 1, rfl, by omega, dr5, by omega, dp_same e5 _ _ hxd, hmem dx (List.mem_of_getElem? hdx), by omega, fun dy gy ny v2 B2 H6 e6 dr6 hv2 => ?_⟩
          refine ⟨one_line, fun p5 hp5 => ?_⟩
          obtain ⟨B3, e7, dr7, hv3⟩ := mk_tup (ds := [dy]) dr6 (.cons hv2 .nil) hp5
          refine cat_new dr7 (dp_same (e6.trans e7) _ _ hv1) hv3 (by simp only [ndAll]; omega) fun v4 B4 H8 e8 dr8 hv4 => ?_
          refine ⟨_, rfl, _, rfl, _, _, rfl, rfl, _, rfl, ?_⟩
          change tNoPart _ H8 _
          unfold tNoPart
          rw [e_add]
          refine back_new (i := k + 1) dr8 (dp_same (e5.trans (e6.trans (e7.trans e8))) _ _ D4) hk fun v5 B5 H9 e9 dr9 hv5 => ?_
          refine cat_new dr9 (dp_same e9 _ _ hv4) hv5 (by simp only [ndAll_app, ndAll]; omega) fun v6 B6 H10 e10 dr10 hv6 => ?_
          refine q _ (by simp only [gs, gsAll_app, gsAll, gtk, gdr, gy]; rfl) ?_ v6 B6 H10 ((e5.trans (e6.trans (e7.trans e8))).trans (e9.trans e10)) (dr10.more (by omega)) hv6
          simp only [nd, ndAll_app, ndAll]
          omega
end
end K17

set_option Elab.async false
set_option linter.all false
set_option maxRecDepth 100000
set_option maxHeartbeats 4000000
set_option autoImplicit false
namespace K17
open PySem PySem.Spec PyProof.Rows L2
/-! ### _law_begun -/
def spBegun (K : PySem.W.Frag) : Sp := fun vs H Q _ => ∃ (a : Addr) (ns : List Int), vs = [.ref a] ∧ SqL K H a (ivs ns) ∧ ns.length ≤ 1000 ∧ ∀ d w c B H', Same H B → Drw B H' d w c 0 → Q (.ref d) H'
abbrev nBegun : List Str := ["_law_script", "_law_wide", "_law_grain"]
theorem sc_begun : FnScope nBegun ["_law_script"] dBegun.scope := ⟨rfl, rfl, rfl, by decide +kernel, rfl, by decide +kernel, by decide +kernel⟩
section
variable {P : Program} {w : World} {K : PySem.W.Frag} {mg : Str → Option Value} {base : Heap}
theorem ok_begun (T : Tx K mg) (D : Dn K mg dBegun) : Cal P w K mg base CX0 1 "_law_begun" (spBegun K) := by
  obtain ⟨fd, F⟩ := D.fn
  refine cal_of F D.gl (F.bindsN (ps := ["_law_script"]) fun _ _ _ _ _ _ us hl => match us, hl with | [_], _ => rfl) ?_
  refine F.ok sc_begun (fun vs H Q E h => ?_) (fun cdv A outer s H vs Q E hr h => ?_)
  · obtain ⟨a, ns, rfl, _⟩ := h
    rfl
  obtain ⟨a, ns, rfl, hs, hlen, q⟩ := h
  have nd' := sc_begun.nd
  refine ⟨_, PSs.nox (pss_cons (ps_setLc (i := 1) (own := [("_law_grain", 2)]) (g := gName 2)
        (tt := tTest (tOp (rI0 fun i j => .bl (decide (i ≥ j))) (tCB (fun xs H Q => ∃ i, xs = [.int i] ∧ Q (.int (if i < 0 then -i else i)) H) (tCons (tVar 2) tNil)) (tOp (rI CPow fun i j => .int (i ^ j.toNat)) (tC (.int 10)) (tC (.int 18)))))
        (te := tOp (rI0 fun i j => .int (i - j)) (tCB (fun xs H Q => ∃ i, xs = [.int i] ∧ Q (.int (if i < 0 then -i else i)) H) (tCons (tVar 2) tNil)) (tOp (rI CPow fun i j => .int (i ^ j.toNat)) (tC (.int 10)) (tC (.int 18))))
        rfl nd' rfl rfl (sw_true rfl rfl rfl (by decide +kernel)) (pi_list (pv 0)) (blkOk_by (N := nBegun) (sc := dBegun.scope) (own := [("_law_grain", 2)]) (by decide +kernel)) (fun _ _ _ _ _ => pg_name (i := 2) nd' rfl (Or.inl rfl))
        (fun _ _ _ _ _ => pts_one (pt_cmpR op_ge (pe_callB call_abs (by rfl) T.abs boot_abs (pa_cons (pv 2) pa_nil)) (pe_op op_pow pe_int pe_int) (nomark _)))
        (fun _ _ _ _ _ => pe_op op_sub (pe_callB call_abs (by rfl) T.abs boot_abs (pa_cons (pv 2) pa_nil)) (pe_op op_pow pe_int pe_int)))
    (pss_one (ps_ret (pe_disp (pps_cons pe_str (pv 1) (pps_cons pe_str (pe_lc (own := [("_law_grain", 2)]) (g := gName 2) (tt := tYes)
        (te := tOp (rI (fun _ j => 0 < j) fun i j => .int (i % j)) (tCB (fun xs H Q => (∃ i, xs = [.int i] ∧ Q (.int i) H) ∨ ∃ k, xs = [.bl k] ∧ Q (.int (if k then 1 else 0)) H) (tCons (tCB (fun xs H Q => ∃ i, xs = [.int i] ∧ Q (.int (if i < 0 then -i else i)) H) (tCons (tVar 2) tNil)) tNil)) (tC (.int 2147483629)))
        rfl nd' (pi_list (pv 0)) (blkOk_by (N := nBegun) (sc := dBegun.scope) (own := [("_law_grain", 2)]) (by decide +kernel)) (fun _ _ _ _ _ => pg_name (i := 2) nd' rfl (Or.inl rfl)) (fun _ _ _ _ _ => pts_nil)
        (fun _ _ _ _ _ => pe_op op_mod (pe_callTy call_int1 (by rfl) T.int boot_int (pa_cons (pe_callB call_abs (by rfl) T.abs boot_abs (pa_cons (pv 2) pa_nil)) pa_nil)) pe_int))
      (pps_cons pe_str pe_int (pps_cons pe_str pe_int pps_nil)))) (by rfl) (by rfl) (fun z => by cases z) (by decide))))), ?_⟩
  refine ⟨_, rfl, a, rfl, ⟨_, hs⟩, fun D1 hD1 => ?_⟩
  refine lc_list (K := K) (a := a) (xs := ivs ns) (fun i H1 => Same H H1 ∧ ∃ ws : List Int, H1 D1 = some (.lst (ivs ws)) ∧ ws.length ≤ i) ⟨same_new hD1 _, [], upd_same, Nat.le_refl _⟩ (fun i H1 _ p => sqL_same p.1 hs) (fun i y H1 hy ⟨e1, ws, hw, hl⟩ => ?_) fun H1 ⟨e1, ws, hw, hl⟩ => ?_
  · obtain ⟨z, hz, rfl⟩ := ivs_get hy
    have hi := (List.getElem?_eq_some_iff.mp hz).1
    refine ⟨rfl, _, rfl, _, rfl, _, _, rfl, rfl, ⟨by decide, by decide, by decide⟩, _, _, rfl, rfl, _, rfl, ?_⟩
    by_cases c : (if z < 0 then -z else z) ≥ 10 ^ (18 : Int).toNat
    · rw [decide_eq_true c]
      refine iteT ⟨_, rfl, _, rfl, _, _, rfl, rfl, ⟨by decide, by decide, by decide⟩, _, _, rfl, rfl, _, hw, by rw [ivs_len, sizeLine_eq]; omega, same_upd e1 hD1 _, ws ++ [_], by rw [upd_same, ivs_app]; rfl, by simp; omega⟩
    · rw [decide_eq_false c]
      exact iteF ⟨e1, ws, hw, by omega⟩
  · intro p hp
    have hs1 := sqL_same e1 hs
    have e2 := same_new hp (.dK [])
    refine ⟨_, rfl, _, rfl, a, rfl, ⟨_, sqL_same e2 hs1⟩, fun D2 hD2 => ?_⟩
    refine lc_list (K := K) (a := a) (xs := ivs ns) (fun i H2 => Same (upd H1 p (.dK [])) H2 ∧ ∃ cs : List Int, H2 D2 = some (.lst (ivs cs)) ∧ cs.length ≤ i) ⟨same_new hD2 _, [], upd_same, Nat.le_refl _⟩ (fun i H2 _ p => sqL_same p.1 (sqL_same e2 hs1)) (fun i y H2 hy ⟨e3, cs, hc, hl2⟩ => ?_) fun H2 ⟨e3, cs, hc, hl2⟩ => ?_
    · obtain ⟨z, hz, rfl⟩ := ivs_get hy
      have hi := (List.getElem?_eq_some_iff.mp hz).1
      exact ⟨rfl, _, rfl, _, rfl, .inl ⟨_, rfl, _, _, rfl, rfl, (by show (0 : Int) < 2147483629; decide), _, hc, by rw [ivs_len, sizeLine_eq]; omega, same_upd e3 hD2 _, cs ++ [_], by rw [upd_same, ivs_app]; rfl, by simp; omega⟩⟩
    · refine ⟨e3 _ _ upd_same, dk D1 D2 0 0, rfl, (show 4 ≤ 15 by decide), ?_⟩
      have n2p : D2 ≠ p := fun z => by rw [z, upd_same] at hD2; cases hD2
      have n21 : D2 ≠ D1 := fun z => by rw [z, e2 _ _ hw] at hD2; cases hD2
      have n1p : D1 ≠ p := ne_of_none hw hp
      have hHp : H p = none := e1.free hp
      have hHD2 : H D2 = none := (e1.trans e2).free hD2
      refine q p D1 D2 (upd H D2 (.lst (ivs cs))) _ (same_new hHD2 _) ⟨fun x u h => ?_, ?_, ?_, ⟨ws, 0, 0, upd_same, ?_, Int.le_refl _, Int.le_refl _⟩, ⟨cs, upd_same⟩⟩
      · by_cases hx : x = D2
        · subst hx
          rw [upd_same] at h
          rw [upd_ne n2p, hc]
          exact h
        · rw [upd_ne hx] at h
          rw [upd_ne (ne_of_none h hHp)]
          exact e3 _ _ (e2 _ _ (e1 _ _ h))
      · rw [upd_ne (Ne.symm n2p)]
        exact hHp
      · rw [upd_ne (Ne.symm n21)]
        exact hD1
      · rw [upd_ne n1p]
        exact e3 _ _ (e2 _ _ hw)
end
end K17

set_option Elab.async false
set_option linter.all false
set_option maxRecDepth 100000
set_option maxHeartbeats 4000000
set_option autoImplicit false
namespace K17
open PySem PySem.Spec PyProof.Rows L2
/-! ### repr of a tree -/
def rRepr (K : PySem.W.Frag) : List V → Hp → VK → Prop := fun xs H Q => ∃ v d, xs = [v] ∧ Dp K H v d ∧ isT d 12 = true ∧ nd d ≤ 60000 ∧ Q (.str d.shown) H
theorem call_reprT {X : Cx} (hg : X.A.guards = some []) (hu : X.A.units + 64 < cLine) : CallR X (.builtin "repr") (rRepr X.K) := by
  intro pins s σ H xs us Q I r h
  obtain ⟨v, d, rfl, hd, ht, hn, q⟩ := h
  obtain ⟨u, rfl, ru⟩ := vals1 r
  have hsz := shown_isT ht hn
  cases d with
  | none =>
    cases hd
    obtain rfl : u = Value.none := ru
    exact PySem.P.repr_of_none ⟨.str _, H, I.tok _, ⟨_, rfl⟩, q⟩
  | bool b =>
    cases hd
    obtain rfl : u = Value.bool b := ru
    exact PySem.P.repr_of_bool ⟨.str _, H, I.tok _, ⟨_, rfl⟩, by cases b <;> exact q⟩
  | int i =>
    cases hd
    obtain ⟨t, rfl⟩ := ru
    simp only [isT, Bool.and_eq_true, decide_eq_true_eq] at ht
    have h2 := log2_15 ht.1 ht.2
    exact PySem.P.repr_of_int (by omega) ⟨.str _, H, I.tok _, ⟨_, rfl⟩, q⟩
  | str x =>
    cases hd
    obtain ⟨t, rfl⟩ := ru
    exact PySem.P.repr_of_str ⟨.str _, H, I.tok _, ⟨_, rfl⟩, q⟩ hsz
  | list ds => simp [isT] at ht
  | dict ds => cases hd
  | tuple ds =>
    obtain ⟨a, xs, rfl, hs, ha⟩ := dp_tup hd
    obtain rfl : u = Value.ref a := ru
    obtain ⟨as, rd⟩ := Dp.reads I (.tuple ds) (.ref a) (.ref a) hd rfl
    have hdep := depth_isT _ _ ht
    have hlay := lay_isT _ _ ht
    exact repr_of_reads' rd (short_isT _ _ ht).2 (PyData.noDict_hsm (PyData.hasDict_of_canLay _ hlay)) hg (by omega) (fun _ _ e => e) (fun h' u tk hk => ⟨.str _, H, I.kept (t' := tk) hk, ⟨_, rfl⟩, q⟩) hsz
/-! ### all but the draws -/
def cutB (H : Hp) (d w : Addr) : Hp := fun b => if b = d ∨ b = w then none else H b
theorem cut_at {H : Hp} {d w b : Addr} (h1 : b ≠ d) (h2 : b ≠ w) : cutB H d w b = H b := if_neg (fun z => z.elim h1 h2)
theorem cut_sub {H : Hp} {d w : Addr} : Same (cutB H d w) H := fun b o h => by
  unfold cutB at h
  split at h
  · cases h
  · exact h
theorem Drw.cut {B H : Hp} {d w c : Addr} {b : Nat} (D : Drw B H d w c b) : Drw (cutB H d w) H d w c b ∧ Same B (cutB H d w) := by
  have e : Same B (cutB H d w) := fun x o h => by
    rw [cut_at (fun z => by rw [z, D.bd] at h; cases h) (fun z => by rw [z, D.bw] at h; cases h)]
    exact D.sm _ _ h
  obtain ⟨cs, hc⟩ := D.cs
  exact ⟨⟨cut_sub, if_pos (.inl rfl), if_pos (.inr rfl), D.st, ⟨cs, e _ _ hc⟩⟩, e⟩
/-- behind a lambda's making -/
theorem Drw.lam {B H H1 : Hp} {d w c : Addr} {b : Nat} (D : Drw B H d w c b) (e : LamX.ExtN H H1) : Drw (cutB H1 d w) H1 d w c b := by
  obtain ⟨ws, r, t, h1, h2, h3, h4⟩ := D.st
  obtain ⟨cs, hc⟩ := D.cs
  have e1 := e _ _ h1 (fun ps z => nomatch z)
  have e2 := e _ _ h2 (fun ps z => nomatch z)
  have e3 := e _ _ (D.sm _ _ hc) (fun ps z => nomatch z)
  have hcd : c ≠ d := fun z => by rw [z, D.bd] at hc; cases hc
  have hcw : c ≠ w := fun z => by rw [z, D.bw] at hc; cases hc
  exact ⟨cut_sub, if_pos (.inl rfl), if_pos (.inr rfl), ⟨ws, r, t, e1, e2, h3, h4⟩, ⟨cs, by rw [cut_at hcd hcw]; exact e3⟩⟩
theorem extN_cut {B H H1 : Hp} {d w c : Addr} {b : Nat} (D : Drw B H d w c b) (e : LamX.ExtN H H1) {x : Addr} {o : HO} (h : B x = some o) (n : ∀ ps, o ≠ .tbl ps) : cutB H1 d w x = some o := by
  rw [cut_at (fun z => by rw [z, D.bd] at h; cases h) (fun z => by rw [z, D.bw] at h; cases h)]
  exact e _ _ (D.sm _ _ h) n
theorem tabs_cut {T : List (Addr × Str)} {H : Hp} {d w : Addr} {ws : List Int} {kvs : List (Key × V)} (t : LamX.Tabs T H) (hd : H d = some (.dK kvs)) (hw : H w = some (.lst (ivs ws))) : LamX.Tabs T (cutB H d w) := fun p hp => by
  obtain ⟨ps, h1, h2, h3⟩ := t p hp
  refine ⟨ps, ?_, h2, fun pos cv hc => ?_⟩
  · rw [cut_at (fun z => by rw [z, hd] at h1; cases h1) (fun z => by rw [z, hw] at h1; cases h1)]
    exact h1
  · obtain ⟨c, e1, e2⟩ := h3 pos cv hc
    refine ⟨c, e1, ?_⟩
    rw [cut_at (fun z => by rw [z, hd] at e2; exact absurd (Option.some.inj e2) (by unfold LamX.CodeO; exact fun z => nomatch z)) (fun z => by rw [z, hw] at e2; exact absurd (Option.some.inj e2) (by unfold LamX.CodeO; exact fun z => nomatch z))]
    exact e2
section
variable {K : PySem.W.Frag} {H H' : Hp}
mutual
theorem dp_ext (e : LamX.ExtN H H') : ∀ (d : PyData) (v : V), Dp K H v d → Dp K H' v d
  | .none, _, h => by cases h; exact .non
  | .bool _, _, h => by cases h; exact .bl _
  | .int _, _, h => by cases h; exact .int _
  | .str _, _, h => by cases h; exact .str _
  | .list ds, _, h => by
    cases h with
    | lst hs ha =>
      refine .lst ?_ (dpA_ext e ds _ ha)
      rcases hs with (z | ⟨o, z⟩) | z
      · exact .inl (.inl (e _ _ z (fun ps q => nomatch q)))
      · exact .inl (.inr ⟨o, e _ _ z (fun ps q => nomatch q)⟩)
      · exact .inr z
  | .tuple ds, _, h => by
    cases h with
    | tup hs ha =>
      refine .tup ?_ (dpA_ext e ds _ ha)
      rcases hs with (z | ⟨o, z⟩) | z
      · exact .inl (.inl (e _ _ z (fun ps q => nomatch q)))
      · exact .inl (.inr ⟨o, e _ _ z (fun ps q => nomatch q)⟩)
      · exact .inr z
  | .dict _, _, h => by cases h
theorem dpA_ext (e : LamX.ExtN H H') : ∀ (ds : List PyData) (vs : List V), DpAll K H vs ds → DpAll K H' vs ds
  | [], _, h => by cases h; exact .nil
  | d :: ds, _, h => by
    cases h with
    | cons h1 h2 => exact .cons (dp_ext e d _ h1) (dpA_ext e ds _ h2)
end
end
/-! ### rows of numbers compared -/
theorem eqvAll_ints : ∀ a b : List Int, PyData.eqvAll (a.map PyData.int) (b.map PyData.int) = decide (a = b)
  | [], [] => by simp [PyData.eqvAll]
  | [], _ :: _ => by simp [PyData.eqvAll]
  | _ :: _, [] => by simp [PyData.eqvAll]
  | x :: a, y :: b => by
    have ih := eqvAll_ints a b
    simp only [List.map_cons, PyData.eqvAll, PyData.eqv, ih]
    by_cases h1 : x = y
    · subst h1
      simp
    · simp [h1]
theorem eqv_lists (a b : List Int) : PyData.eqv (.list (a.map PyData.int)) (.list (b.map PyData.int)) = decide (a = b) := by
  simp only [PyData.eqv, eqvAll_ints]
theorem eqv_tuples (a b : List Int) : PyData.eqv (.tuple (a.map PyData.int)) (.tuple (b.map PyData.int)) = decide (a = b) := by
  simp only [PyData.eqv, eqvAll_ints]
theorem depth_ints : ∀ a : List Int, PyData.depthAll (a.map PyData.int) ≤ 1
  | [] => by simp [PyData.depthAll]
  | x :: a => by
    have ih := depth_ints a
    simp only [List.map_cons, PyData.depthAll, PyData.depth]
    omega
theorem depth_lst (a : List Int) : (PyData.list (a.map PyData.int)).depth ≤ 64 := by
  have := depth_ints a
  simp only [PyData.depth]
  omega
theorem depth_tpl (a : List Int) : (PyData.tuple (a.map PyData.int)).depth ≤ 64 := by
  have := depth_ints a
  simp only [PyData.depth]
  omega
theorem lay_tints (l : List Int) : (PyData.tuple (l.map PyData.int)).canLay0 = true := by
  have := lay_ints l
  simpa only [PyData.canLay0] using this
end K17

set_option Elab.async false
set_option linter.all false
set_option maxRecDepth 100000
set_option maxHeartbeats 4000000
set_option autoImplicit false
namespace K17
open PySem PySem.Spec PyProof.Rows L2
/-! ### the law -/
structure LawT (P : Program) (w : World) (K : PySem.W.Frag) (mg : Str → Option Value) (base : Heap) (CF CS : Addr) : Prop where
  tx : Tx K mg
  caught : Dn K mg dCaught
  link : mg "LinkError" = some (.ref CS)
  file : mg "BadFile" = some (.ref CF)
  begun : Cal P w K mg base CX0 1 "_law_begun" (spBegun K)
  take : Cal P w K mg base CX0 2 "_law_take" spTake
  pick : Cal P w K mg base CX0 3 "_law_pick" (spPick K)
  tree : Cal P w K mg base CX0 17 "_law_tree" (spTree K 13)
  changed : Cal P w K mg base CX0 17 "_law_changed" (spChanged K 13)
  isTree : Cal P w K mg base CX0 14 "_law_is_tree" (spIsTree K 13)
  lcells : Cal P w K mg base CX0 13 "_law_tree_cells" (spCells K 13)
  cells : Cal P w K mg base (L2.CX P w) 15 "tree_cells" (spTreeCells K)
  treeOf : Cal P w K mg base (L2.CX P w) 4 "tree_of" (spTreeOf K CF)
  exT : ExcC K (He.ga K "BadTree")
  exF : ExcC K CF
  xfF : XfC K CF
  noat : PySem.W.findIn K (.ref CF) "at" = some none
  ktT : PySem.W.kitOne K (.ref (He.ga K "BadTree")) (.ref (He.ga K "BadTree")) = some true
  ktF : PySem.W.kitOne K (.ref CF) (.ref CF) = some true
  emT : PySem.W.exmOne K (.ref (He.ga K "BadTree")) (.ref CS) = some true
  emF : PySem.W.exmOne K (.ref CF) (.ref CS) = some true
theorem pe_caught {X : Cx} {CS c T0 : Addr} {k : Nat} {params : Arguments} {body : Expr} {scope : Scope} {t : XK → TE} {p lpos pos : Pos} (D : Dn X.K X.mg dCaught) (hg : Gl X "_law_caught") (hm : X.mg "LinkError" = some (.ref CS)) (TB : LamX.TabB X.base X.mg c T0) (hcode : X.env.code = .ref c) (hr : Room (k + 2) X.A)
    (L : LamX.LamS X.env.scope scope) (hdef : defaultsOf params X.env = ([], [])) (hbind : ∀ (q : Str) (cl : List (Str × Addr)) (pm cv ctv : Value), bindArgs (PySem.W.kla_fn "<lambda>" q params body scope cl pm cv ctv) ⟨[], []⟩ = pure [])
    (hbody : ∀ (A : Around) (outer : List Env) (s : Shared) (H : Hp) (E : XK) (f c' : Addr), Room k (A.deeper (LamX.lamEnv X scope s.heap.objs.size f c')) → PE (LamX.lamCx X A outer s H E scope f c') body (t E)) :
    PE X (.Call (.Name "_law_caught" p) [.Lambda params body scope lpos] [] pos) (LamX.tLam [(T0, X.env.qual ++ "<lambda>")] (TKept X.K CS) t) := by
  obtain ⟨fd, F⟩ := D.fn
  have b : L2.Binds X.K fd ["_law_act"] [] := F.bindsN (ps := ["_law_act"]) fun _ _ _ _ _ _ us hl => match us, hl with | [_], _ => rfl
  obtain ⟨oc, od, dV, kV, doc, pm, an, cdv, ct, osl, rfl, lk, hcd, _, _⟩ := F.ex
  exact LamX.pe_lamcall (a := "_law_act") (Ng := nCaught) hg D.gl F.kp lk hcd b sc_caught rfl (.inl (by rfl)) (caught_gives hm) TB hcode (List.mem_singleton.mpr rfl) (fun q hq _ => by rw [List.mem_singleton.mp hq]) hr L hdef hbind hbody
/-- the law's state -/
structure LInv (K : PySem.W.Frag) (T0 : Addr) (q : Str) (d w c kl : Addr) (b : Nat) (B H : Hp) (rows : List (Addr × PyData)) : Prop where
  dr : Drw B H d w c b
  tb : LamX.Tabs [(T0, q)] B
  kn : B kl = some (.lst (rows.map fun r => V.ref r.1))
  rw : ∀ r ∈ rows, B r.1 = some (.lst (ivs (cel r.2))) ∧ isT r.2 12 = true ∧ nd r.2 ≤ 2000
  kc : kl ≠ c
  nk : ∀ r ∈ rows, r.1 ≠ kl
section
variable {K : PySem.W.Frag} {T0 : Addr} {q : Str} {d w c kl : Addr} {b b' : Nat} {B B' H H' : Hp} {rows : List (Addr × PyData)}
theorem LInv.grow (I : LInv K T0 q d w c kl b B H rows) (e : Same H H') : LInv K T0 q d w c kl b B H' rows := { I with dr := I.dr.grow e }
theorem LInv.more (I : LInv K T0 q d w c kl b B H rows) (h : b ≤ b') : LInv K T0 q d w c kl b' B H rows := { I with dr := I.dr.more h }
theorem LInv.base (I : LInv K T0 q d w c kl b B H rows) (e : Same B B') (D : Drw B' H' d w c b') : LInv K T0 q d w c kl b' B' H' rows :=
  ⟨D, I.tb.ext e, e _ _ I.kn, fun r hr => ⟨e _ _ (I.rw r hr).1, (I.rw r hr).2⟩, I.kc, I.nk⟩
theorem LInv.cut (I : LInv K T0 q d w c kl b B H rows) : LInv K T0 q d w c kl b (cutB H d w) H rows := I.base I.dr.cut.2 I.dr.cut.1
theorem LInv.lam (I : LInv K T0 q d w c kl b B H rows) (e : LamX.ExtN H H') (t : LamX.Tabs [(T0, q)] H') : LInv K T0 q d w c kl b (cutB H' d w) H' rows := by
  obtain ⟨ws, r, tt, h1, h2, _⟩ := I.dr.st
  exact ⟨I.dr.lam e, tabs_cut t (e _ _ h1 (fun ps z => nomatch z)) (e _ _ h2 (fun ps z => nomatch z)), extN_cut I.dr e I.kn (fun ps z => nomatch z), fun r hr => ⟨extN_cut I.dr e (I.rw r hr).1 (fun ps z => nomatch z), (I.rw r hr).2⟩, I.kc, I.nk⟩
end
theorem tabs_put {T : List (Addr × Str)} {B : Hp} {kl : Addr} {xs ys : List V} (t : LamX.Tabs T B) (h : B kl = some (.lst xs)) : LamX.Tabs T (upd B kl (.lst ys)) := fun p hp => by
  obtain ⟨ps, h1, h2, h3⟩ := t p hp
  refine ⟨ps, by rw [upd_ne (fun z => by rw [z, h] at h1; cases h1)]; exact h1, h2, fun pos cv hc => ?_⟩
  obtain ⟨c, e1, e2⟩ := h3 pos cv hc
  exact ⟨c, e1, by rw [upd_ne (fun z => by rw [z, h] at e2; exact absurd (Option.some.inj e2) (by unfold LamX.CodeO; exact fun z => nomatch z))]; exact e2⟩
abbrev nLaw : List Str := ["_law_script", "_law_draw", "_law_known", "_law_turn", "_law_kind", "_law_tree_here", "_law_wrap", "_law_near", "_law_told", "_law_cells", "_law_other", "_law_raised"]
theorem sc_law : FnScope nLaw ["_law_script"] dLaw.scope := ⟨rfl, rfl, rfl, by decide +kernel, rfl, by decide +kernel, by decide +kernel⟩
abbrev qL : Str := dLaw.qual ++ ".<locals>." ++ "<lambda>"
/-- the tree, or something near it -/
def tNear (K : PySem.W.Frag) : TE := fun σ H Q => ∃ (d w c : Addr) (b : Nat) (B : Hp) (v : V) (dt : PyData) (r : Int), σ[1]? = some (some (.ref d)) ∧ σ[4]? = some (some (.int r)) ∧ σ[5]? = some (some v) ∧ Drw B H d w c b ∧ b + 200 < 2 ^ 40 ∧ Dp K B v dt ∧ gs dt = true ∧ nd dt ≤ 800 ∧ (r = 1 → isT dt 12 = true) ∧
  ∀ dn, gs dn = true → nd dn ≤ 1700 → New K B d w c (b + 200) dn Q
/-- a turn's rest, from the tree on -/
def tTail (K : PySem.W.Frag) (T0 : Addr) : TS := fun D σ H => ∃ (d w c kl : Addr) (b : Nat) (B : Hp) (rows : List (Addr × PyData)) (v : V) (dt : PyData) (r : Int), σ.length = 12 ∧ σ[1]? = some (some (.ref d)) ∧ σ[2]? = some (some (.ref kl)) ∧ σ[4]? = some (some (.int r)) ∧ σ[5]? = some (some v) ∧
  LInv K T0 qL d w c kl b B H rows ∧ b + 1000 < 2 ^ 40 ∧ rows.length ≤ 1000 ∧ Dp K B v dt ∧ gs dt = true ∧ nd dt ≤ 800 ∧ (r = 1 → isT dt 12 = true) ∧
  ∀ σ' H' B' rows', σ'.length = 12 → σ'[1]? = some (some (.ref d)) → σ'[2]? = some (some (.ref kl)) → LInv K T0 qL d w c kl (b + 1000) B' H' rows' → rows'.length ≤ rows.length + 1 → D.nx σ' H' ∧ D.ct σ' H'
/-- a turn's end: what follows the row's cells is told as no tree from there on -/
def tTail2 (K : PySem.W.Frag) (CF CS T0 : Addr) : TS := fun D σ H => ∃ (pc ro : Addr) (a o : PyData), σ.length = 12 ∧ σ[9]? = some (some (.ref pc)) ∧ σ[10]? = some (some (.ref ro)) ∧ H pc = some (.lst (ivs (cel a))) ∧ H ro = some (.lst (ivs (cel o))) ∧ isT a 12 = true ∧ isT o 12 = true ∧ nd a ≤ 2000 ∧ nd o ≤ 2000 ∧
  LamX.Tabs [(T0, qL)] H ∧ ∀ z H1 H2, LamX.ExtN H H1 → LamX.Tabs [(T0, qL)] H1 → Same H1 H2 → D.nx (σ.set 11 (some z)) H2
theorem cut_take (xs : List V) (k : Nat) : cutV xs none (some (k : Int)) = xs.take k := by
  unfold cutV
  rw [HT.sIx_none, HT.sIx_nat]
  simp only [List.drop_zero, Nat.sub_zero]
  by_cases h : k ≤ xs.length
  · rw [Nat.min_eq_left h]
  · rw [Nat.min_eq_right (by omega), List.take_length, List.take_of_length_le (by omega)]
section
variable {P : Program} {w : World} {K : PySem.W.Frag} {mg : Str → Option Value} {base : Heap} {CF CS : Addr}
theorem nb12 : ∀ m, m ≤ 12 → NB m ≤ 769 := by
  have h0 : NB 0 = 1 := by rw [NB]
  have h1 : NB 1 = 4 := by rw [nb_succ, show min 0 3 = 0 from rfl, h0]
  have h2 : NB 2 = 13 := by rw [nb_succ, show min 1 3 = 1 from rfl, h1]
  have h3 : NB 3 = 40 := by rw [nb_succ, show min 2 3 = 2 from rfl, h2]
  have h4 : NB 4 = 121 := by rw [nb_succ, show min 3 3 = 3 from rfl, h3]
  have h5 : NB 5 = 202 := by rw [nb_succ, show min 4 3 = 3 from rfl, h4, h3]
  have h6 : NB 6 = 283 := by rw [nb_succ, show min 5 3 = 3 from rfl, h5, h3]
  have h7 : NB 7 = 364 := by rw [nb_succ, show min 6 3 = 3 from rfl, h6, h3]
  have h8 : NB 8 = 445 := by rw [nb_succ, show min 7 3 = 3 from rfl, h7, h3]
  have h9 : NB 9 = 526 := by rw [nb_succ, show min 8 3 = 3 from rfl, h8, h3]
  have h10 : NB 10 = 607 := by rw [nb_succ, show min 9 3 = 3 from rfl, h9, h3]
  have h11 : NB 11 = 688 := by rw [nb_succ, show min 10 3 = 3 from rfl, h10, h3]
  have h12 : NB 12 = 769 := by rw [nb_succ, show min 11 3 = 3 from rfl, h11, h3]
  intro m hm
  match m, hm with
  | 0, _ => omega
  | 1, _ => omega
  | 2, _ => omega
  | 3, _ => omega
  | 4, _ => omega
  | 5, _ => omega
  | 6, _ => omega
  | 7, _ => omega
  | 8, _ => omega
  | 9, _ => omega
  | 10, _ => omega
  | 11, _ => omega
  | 12, _ => omega
  | m + 13, h => omega
theorem passF {X : Cx} (hP : X.prog = P) : Passes (L2.CX P w) X (fun _ _ _ => False) := fun pins σ H s e s' I h => by
  obtain ⟨_, _, _, _, _, _, _, _, _, _, _, _, z⟩ := h
  exact z.elim
theorem law_walk {fa c0 T0 a : Addr} {s : Shared} {H : Hp} {E : XK} {ns : List Int} (L : LawT P w K mg base CF CS) (TB : LamX.TabB base mg c0 T0) (hr : Room 24 (callerA.deeper (envOfC dLaw.qual dLaw.scope s.heap.objs.size fa (.ref c0)))) (hT0 : H T0 = some (.tbl #[])) (hs : SqL K H a (ivs ns)) (hn : ns.length ≤ 63) :
    ∃ t, PSs (cxOf CX0 P w K mg base nLaw dLaw.qual dLaw.scope fa (.ref c0) callerA [] s H E) dLaw.body t ∧ t { nx := fun _ H' => V.non = V.bl true, rt := fun v _ => v = .bl true } (L2.start nLaw [.ref a]) H := by
  have T := L.tx
  have nd' := sc_law.nd
  have hCF : ∃ u, mg "BadFile" = some u ∧ L2.RelV (.ref CF) u := ⟨_, L.file, rfl⟩
  have hBT : ∃ u, mg "BadTree" = some u ∧ L2.RelV (.ref (He.ga K "BadTree")) u := ⟨_, T.bt.gl, rfl⟩
  refine ⟨_, PSs.nox (
    pss_cons (ps_set (i := 1) nd' rfl (.inl rfl) (pe_cal L.begun hr (by decide) pass0 (pa_cons (pv 0) pa_nil)))
    (pss_cons (ps_set (i := 2) nd' rfl (.inl rfl) (pe_lst pa_nil))
    (pss_cons (ps_for PassesOwn.never rfl (pi_range1 rfl T.range (pa_cons (pe_op op_add pe_int (pe_callB (call_min2 rfl) (by rfl) T.min boot_min (pa_cons (pe_callB call_len_seq (by rfl) T.len PySem.boot_len (pa_cons (pv 0) pa_nil)) (pa_cons pe_int pa_nil)))) pa_nil)) (pg_name (i := 3) nd' rfl (Or.inl rfl))
      (pss_cons (ps_par (i := 4) (j := 5) (by rfl) nd' rfl rfl (by decide) rfl rfl (pa_cons (pe_cal L.take hr (by decide) pass0 (pa_cons (pv 1) (pa_cons pe_int pa_nil)))
          (pa_cons (pe_cal L.tree hr (by decide) pass0 (pa_cons (pv 1) (pa_cons (pe_cal L.pick hr (by decide) pass0 (pa_cons (pv 1) (pa_cons (pe_lst (pa_cons pe_int (pa_cons pe_int (pa_cons pe_int (pa_cons pe_int (pa_cons pe_int (pa_cons pe_int pa_nil))))))) pa_nil))) pa_nil))) pa_nil)) (by rfl))
      (pss_cons (ps_if (pt_cmpR op_eq (pv 4) pe_int (nomark _)) (pss_one (ps_for PassesOwn.never rfl (pi_range1 rfl T.range (pa_cons (pe_cal L.pick hr (by decide) pass0 (pa_cons (pv 1) (pa_cons (pe_lst (pa_cons pe_int (pa_cons pe_int (pa_cons pe_int pa_nil)))) pa_nil))) pa_nil)) (pg_name (i := 6) nd' rfl (Or.inl rfl))
          (pss_one (ps_set (i := 5) nd' rfl (.inl rfl) (pe_tup (pa_cons (pv 5) pa_nil)))))) pss_nil)
      (pss_imp (t' := tTail K T0) (pss_cons (ps_set (i := 7) nd' rfl (.inr rfl) (pe_imp (t' := tNear K) (pe_ifExp (pt_cmpR op_eq (pv 4) pe_int (nomark _)) (pe_cal L.changed hr (by decide) pass0 (pa_cons (pv 1) (pa_cons (pv 5) pa_nil))) (pv 5)) fun σ H Q h => by
          obtain ⟨d, w, c, b, B, v, dt, r, s1, s4, s5, dr, hb, hv, hg, hn, h1, q⟩ := h
          refine ⟨_, s4, rfl, _, rfl, ?_⟩
          by_cases hr1 : r = 1
          · rw [decide_eq_true (by rw [hr1])]
            exact iteT ⟨_, s1, _, s5, d, w, c, b, B, v, dt, 12, rfl, by decide, dr, by omega, hv, h1 hr1, by omega, fun dt' g nn v' B' H' e dr' hv' => q dt' g (by omega) v' B' H' e (dr'.more (by omega)) hv'⟩
          · rw [decide_eq_false (fun z => hr1 (V.int.inj z))]
            exact iteF ⟨_, s5, q dt hg (by omega) v B H (Same.refl B) (dr.more (by omega)) hv⟩))
      (pss_cons (ps_set (i := 8) nd' rfl (.inl rfl) (pe_caught (k := 20) (t := fun E => tCall (spTreeCells K) [] E (tCons (tVar 7) tNil)) L.caught rfl L.link TB rfl (hr.mono (by decide)) (by show LamX.LamS dLaw.scope _; exact LamX.lamS_by (by decide +kernel)) rfl (fun _ _ _ _ _ => rfl) (fun _ _ _ _ _ _ _ hr2 => pe_cal L.cells hr2 (by decide) (passes_call (takes_of rfl rfl rfl rfl) (fun _ _ _ _ h => h)) (pa_cons (pv 7) pa_nil))))
      (pss_cons (ps_if (pt_not (pt_val (pe_cal L.isTree hr (by decide) pass0 (pa_cons (pv 7) (pa_cons pe_int pa_nil))))) (pss_cons (ps_if (pt_not (pt_val (pe_callB call_isX (by rfl) T.isi boot_isinstance (pa_cons (pv 8) (pa_cons (pe_mg hBT) pa_nil))))) (pss_one (ps_ret pe_bl)) pss_nil) (pss_one ps_continue)) pss_nil)
      (pss_cons (ps_set (i := 9) nd' rfl (.inr rfl) (pe_cal L.lcells hr (by decide) pass0 (pa_cons (pv 7) pa_nil)))
      (pss_cons (ps_if (PW.pt (pw_or (pt_cmpR (op_neC hr.units) (pv 8) (pe_callTy call_tuple_of (by rfl) T.tuple boot_tuple (pa_cons (pv 9) pa_nil)) (nomark _))
          (pw_or (pt_cmpR op_ne (pe_callB (call_reprT rfl hr.units) (by rfl) T.repr boot_repr (pa_cons (pe_cal L.treeOf hr (by decide) (passF rfl) (pa_cons (pv 9) pa_nil)) pa_nil)) (pe_callB (call_reprT rfl hr.units) (by rfl) T.repr boot_repr (pa_cons (pv 7) pa_nil)) (nomark _))
          (pw_or1 (pt_cmpR op_ne (pe_callB (call_reprT rfl hr.units) (by rfl) T.repr boot_repr (pa_cons (pe_cal L.treeOf hr (by decide) (passF rfl) (pa_cons (pe_callTy call_tuple_of (by rfl) T.tuple boot_tuple (pa_cons (pv 9) pa_nil)) pa_nil)) pa_nil)) (pe_callB (call_reprT rfl hr.units) (by rfl) T.repr boot_repr (pa_cons (pv 7) pa_nil)) (nomark _))))))
          (pss_one (ps_ret pe_bl)) pss_nil)
      (pss_cons (ps_expr (pe_bm PySem.F.plainAttrs_list PySem.F.slot_list_append PySem.F.type_list_append mt_append (pv 2) (pa_cons (pv 9) pa_nil)))
      (pss_cons (ps_set (i := 10) nd' rfl (.inr rfl) (pe_cal L.pick hr (by decide) pass0 (pa_cons (pv 1) (pa_cons (pv 2) pa_nil))))
      (pss_cons (ps_if (PW.pt (pw_and (pt_cmpR (op_neC hr.units) (pv 10) (pv 9) (nomark _)) (pw_and1 (pt_cmpR (op_eqC hr.units) (pv 10) (pe_slice sl_list (pv 9) po_none (po_some (pe_callB call_len_seq (by rfl) T.len PySem.boot_len (pa_cons (pv 10) pa_nil)))) (nomark _))))) (pss_one (ps_ret pe_bl)) pss_nil)
      (pss_imp (t' := tTail2 K CF CS T0) (pss_cons (ps_set (i := 11) nd' rfl (.inl rfl) (pe_caught (k := 20) (t := fun E => tCall (spTreeOf K CF) [] E (tCons (tOp rCat (tVar 9) (tVar 10)) tNil)) L.caught rfl L.link TB rfl (hr.mono (by decide)) (by show LamX.LamS dLaw.scope _; exact LamX.lamS_by (by decide +kernel)) rfl (fun _ _ _ _ _ => rfl) (fun _ _ _ _ _ _ _ hr2 => pe_cal L.treeOf hr2 (by decide) (passes_call (takes_of rfl rfl rfl rfl) (fun _ _ _ _ h => h)) (pa_cons (pe_op op_cat (pv 9) (pv 10)) pa_nil))))
      (pss_one (ps_if (PW.pt (pw_or (pt_not (pt_val (pe_callB call_isX (by rfl) T.isi boot_isinstance (pa_cons (pv 11) (pa_cons (pe_mg hCF) pa_nil))))) (pw_or1 (pt_cmpR op_ne (pe_xk (pv 11)) (pe_callB call_len_seq (by rfl) T.len PySem.boot_len (pa_cons (pv 9) pa_nil)) (nomark _))))) (pss_one (ps_ret pe_bl)) pss_nil))) fun D σ H h => by
          obtain ⟨pc, ro, ea, eo, hl, s9, s10, hpc, hro, hTa, hTo, na, no, tb, fin⟩ := h
          have la := cel_len ea 12 hTa
          have lo := cel_len eo 12 hTo
          have l11 : ∀ z : V, (σ.set 11 (some z))[11]? = some (some z) := fun z => List.getElem?_set_self (by rw [hl]; decide)
          have l9 : ∀ z : V, (σ.set 11 (some z))[9]? = some (some (.ref pc)) := fun z => (set_other (by decide)).trans s9
          refine ⟨tb, fun H1 eN T1 => ?_⟩
          have hpc1 := eN _ _ hpc (fun ps z => nomatch z)
          have hro1 := eN _ _ hro (fun ps z => nomatch z)
          refine ⟨_, s9, _, s10, pc, ro, _, _, rfl, rfl, hpc1, hro1, by rw [ivs_len, ivs_len, sizeLine_eq]; omega, fun p1 hp1 => ?_⟩
          have e1 := same_new hp1 (.lst (ivs (cel ea) ++ ivs (cel eo)))
          have tm := treeOf_more hTa (cel_ne hTo)
          refine ⟨p1, cel ea ++ cel eo, rfl, .inl (SqL.of (by rw [upd_same, ivs_app])), by rw [List.length_append]; omega, fun z hz => ?_, fun d' hd' => (by rw [tm] at hd'; cases hd'), fun i hi dd H2 e2 hdd => ⟨L.emF, fun a' ha' => ?_⟩⟩
          · rcases List.mem_append.mp hz with h | h
            · exact cel_range ea 12 hTa z h
            · exact cel_range eo 12 hTo z h
          obtain rfl : i = (cel ea).length := by rw [tm] at hi; exact (Except.error.inj hi).symm
          have e3 := same_new ha' (xo a' (.ref CF) (some dd))
          have e13 := e1.trans (e2.trans e3)
          refine ⟨_, l11 _, a', CF, some dd, _, _, true, rfl, upd_same, ⟨_, e3 _ _ hdd⟩, L.exF, .own CF, L.ktF, true, rfl, iteF ⟨_, l11 _, a', CF, dd, _, _, rfl, upd_same, e3 _ _ hdd, L.xfF, L.noat, rfl, _, l9 _, pc, _, rfl, .inl (SqL.of (e13 _ _ hpc1)), rfl, _, rfl, ?_⟩⟩
          rw [ivs_len, decide_eq_true (rfl : V.int ((cel ea).length : Nat) = V.int ((cel ea).length : Nat))]
          exact iteF (fin _ H1 _ eN T1 e13)))))))))) fun D σ H h => by
          obtain ⟨d, w, c, kl, b, B, rows, v, dt, r, hl, s1, s2, s4, s5, LI, hb, hrl, hv, hg, hnd, hr1, fin⟩ := h
          have sl : ∀ {j : Nat} {x : Option V} {τ : L2.St}, τ.length = 12 → j < 12 → (τ.set j x)[j]? = some x := fun h1 h2 => List.getElem?_set_self (by rw [h1]; exact h2)
          have so : ∀ {i j : Nat} {x : Option V} {y : Option V} {τ : L2.St}, i ≠ j → τ[j]? = some y → (τ.set i x)[j]? = some y := fun h1 h2 => (set_other h1).trans h2
          have ln : ∀ {j : Nat} {x : Option V} {τ : L2.St}, τ.length = 12 → (τ.set j x).length = 12 := fun h => by rw [List.length_set]; exact h
          refine ⟨d, w, c, b, B, v, dt, r, s1, s4, s5, LI.dr, by omega, hv, hg, hnd, hr1, fun dn gn nn vn B1 H1 e1 dr1 hvn => ?_⟩
          have LI1 := LI.base e1 dr1
          have u7 : (σ.set 7 (some vn))[7]? = some (some vn) := sl hl (by decide)
          have u1 : (σ.set 7 (some vn))[1]? = some (some (.ref d)) := so (by decide) s1
          have u2 : (σ.set 7 (some vn))[2]? = some (some (.ref kl)) := so (by decide) s2
          have ul : (σ.set 7 (some vn)).length = 12 := ln hl
          refine ⟨LI1.tb.ext LI1.dr.sm, fun H2 eN T2 => ?_⟩
          have LI2 := LI1.lam eN T2
          have hvn2 : Dp K H2 vn dn := dp_ext eN _ _ (dp_same dr1.sm _ _ hvn)
          have Gn : Gd dn := ⟨gn, by omega⟩
          refine ⟨_, u7, vn, dn, rfl, hvn2, Gn, fun hT p H3 e3 hp h3 => ?_, fun hT H3 e3 => ⟨L.emT, fun a' ha' => ?_⟩⟩
          · -- a tree
            have LI3 := LI2.grow e3
            refine ⟨_, so (by decide) u7, vn, dn, 12, rfl, rfl, dp_same e3 _ _ hvn2, Gn, fun H4 e4 => ⟨_, rfl, ?_⟩⟩
            rw [hT]
            refine iteF ⟨_, so (by decide) u7, vn, dn, 12, rfl, rfl, dp_same (e3.trans e4) _ _ hvn2, hT, Gn.n, fun pc H5 e5 hpc hc5 => ?_⟩
            have hp5 : H5 p = some (.tup (ivs (cel dn))) := e5 _ _ (e4 _ _ h3)
            have LI4 := LI3.grow e4
            have pd := LI4.dr.nd hpc
            have pw := LI4.dr.nw hpc
            have pcc := LI4.dr.nc hpc
            have pk : pc ≠ kl := fun z => by
              have q := LI4.dr.sm _ _ LI4.kn
              rw [← z, hpc] at q
              cases q
            have LI5 := (LI4.grow e5).cut
            have B5pc : cutB H5 d w pc = some (.lst (ivs (cel dn))) := by rw [cut_at pd pw]; exact hc5
            have hvn5 : Dp K H5 vn dn := dp_same (e3.trans (e4.trans e5)) _ _ hvn2
            have clen := cel_len dn 12 hT
            have crng := cel_range dn 12 hT
            have τl : (((σ.set 7 (some vn)).set 8 (some (V.ref p))).set 9 (some (V.ref pc))).length = 12 := ln (ln ul)
            have τ1 : (((σ.set 7 (some vn)).set 8 (some (V.ref p))).set 9 (some (V.ref pc)))[1]? = some (some (.ref d)) := so (by decide) (so (by decide) u1)
            have τ2 : (((σ.set 7 (some vn)).set 8 (some (V.ref p))).set 9 (some (V.ref pc)))[2]? = some (some (.ref kl)) := so (by decide) (so (by decide) u2)
            have τ7 : (((σ.set 7 (some vn)).set 8 (some (V.ref p))).set 9 (some (V.ref pc)))[7]? = some (some vn) := so (by decide) (so (by decide) u7)
            have τ8 : (((σ.set 7 (some vn)).set 8 (some (V.ref p))).set 9 (some (V.ref pc)))[8]? = some (some (.ref p)) := so (by decide) (sl ul (by decide))
            have τ9 : (((σ.set 7 (some vn)).set 8 (some (V.ref p))).set 9 (some (V.ref pc)))[9]? = some (some (.ref pc)) := sl (ln ul) (by decide)
            refine ⟨_, τ8, _, τ9, pc, _, rfl, .inl ⟨SqL.of hc5, fun l6 hl6 => ?_⟩⟩
            have e6 := same_new hl6 (.tup (ivs (cel dn)))
            refine ⟨.tuple ((cel dn).map PyData.int), .tuple ((cel dn).map PyData.int), sqT_dp (SqT.of (e6 _ _ hp5)), sqT_dp (SqT.of upd_same), lay_tints _, lay_tints _, by have := depth_tpl (cel dn); omega, _, rfl, ?_⟩
            rw [eqv_tuples, decide_eq_true (rfl : cel dn = cel dn)]
            refine iteF ⟨_, τ9, pc, cel dn, rfl, .inl (SqL.of (e6 _ _ hc5)), by omega, crng, fun d7 hd7 v7 H7 e7 hv7 => ?_, fun i hi => by rw [treeOf_cel hT] at hi; cases hi⟩
            obtain rfl : d7 = dn := by rw [treeOf_cel hT] at hd7; exact (Except.ok.inj hd7).symm
            refine ⟨v7, d7, rfl, hv7, hT, by omega, _, τ7, vn, d7, rfl, dp_same (e6.trans e7) _ _ hvn5, hT, by omega, rfl, _, rfl, ?_⟩
            rw [decide_eq_true (rfl : V.str d7.shown = V.str d7.shown)]
            refine iteF ⟨_, τ9, pc, _, rfl, .inl ⟨SqL.of (e7 _ _ (e6 _ _ hc5)), fun l8 hl8 => ?_⟩⟩
            have e8 := same_new hl8 (.tup (ivs (cel d7)))
            refine ⟨l8, cel d7, rfl, .inr (SqT.of upd_same), by omega, crng, fun d9 hd9 v9 H9 e9 hv9 => ?_, fun i hi => by rw [treeOf_cel hT] at hi; cases hi⟩
            obtain rfl : d9 = d7 := by rw [treeOf_cel hT] at hd9; exact (Except.ok.inj hd9).symm
            have e59 : Same H5 H9 := e6.trans (e7.trans (e8.trans e9))
            refine ⟨v9, d9, rfl, hv9, hT, by omega, _, τ7, vn, d9, rfl, dp_same e59 _ _ hvn5, hT, by omega, rfl, _, rfl, ?_⟩
            rw [decide_eq_true (rfl : V.str d9.shown = V.str d9.shown)]
            refine iteF ?_
            have LI9 := LI5.grow e59
            have kn9 := LI9.dr.sm _ _ LI9.kn
            refine ⟨_, τ2, .inl ⟨rfl, _, SqL.of kn9⟩, _, τ9, kl, _, _, rfl, rfl, kn9, by rw [List.length_map, sizeLine_eq]; omega, ?_⟩
            have kd : kl ≠ d := fun z => by have q := LI9.kn; rw [z, LI9.dr.bd] at q; cases q
            have kw : kl ≠ w := fun z => by have q := LI9.kn; rw [z, LI9.dr.bw] at q; cases q
            have LI10 : LInv K T0 qL d w c kl (b + 200) (upd (cutB H5 d w) kl (.lst ((rows.map fun r => V.ref r.1) ++ [V.ref pc]))) (upd H9 kl (.lst ((rows.map fun r => V.ref r.1) ++ [V.ref pc]))) (rows ++ [(pc, d9)]) := by
              refine ⟨LI9.dr.put kd kw LI9.kc _, tabs_put LI9.tb LI9.kn, ?_, fun r hr => ?_, LI9.kc, fun r hr => ?_⟩
              · rw [upd_same, List.map_append]
                rfl
              · rcases List.mem_append.mp hr with h | h
                · rw [upd_ne (LI9.nk r h)]
                  exact LI9.rw r h
                · obtain rfl : r = (pc, d9) := by simpa using h
                  exact ⟨by rw [upd_ne pk]; exact B5pc, hT, (show nd d9 ≤ 2000 by omega)⟩
              · rcases List.mem_append.mp hr with h | h
                · exact LI9.nk r h
                · obtain rfl : r = (pc, d9) := by simpa using h
                  exact pk
            have pc10 : (upd (cutB H5 d w) kl (.lst ((rows.map fun r => V.ref r.1) ++ [V.ref pc]))) pc = some (.lst (ivs (cel d9))) := (LI10.rw (pc, d9) (by simp)).1
            refine ⟨_, τ1, _, τ2, d, w, c, kl, b + 200, _, _, rfl, LI10.dr, by omega, upd_same, by simp, by simp; omega, fun j x H11 hx dr11 => ?_⟩
            have LI11 := LI10.base (Same.refl _) dr11
            obtain ⟨⟨ro, eo⟩, hmem, rfl⟩ : ∃ r ∈ rows ++ [(pc, d9)], x = V.ref r.1 := by
              have h1 : ((rows ++ [(pc, d9)]).map fun r => V.ref r.1)[j]? = some x := by rw [List.map_append]; exact hx
              rw [List.getElem?_map] at h1
              cases h2 : (rows ++ [(pc, d9)])[j]? with
              | none => rw [h2] at h1; cases h1
              | some r => rw [h2] at h1; exact ⟨r, List.mem_of_getElem? h2, (Option.some.inj h1).symm⟩
            obtain ⟨hro, hTo, hno⟩ := LI11.rw _ hmem
            have ho11 : H11 ro = some (.lst (ivs (cel eo))) := LI11.dr.sm _ _ hro
            have hc11 : H11 pc = some (.lst (ivs (cel d9))) := LI11.dr.sm _ _ pc10
            have olen := cel_len eo 12 hTo
            have orng := cel_range eo 12 hTo
            have hno' : nd eo ≤ 2000 := hno
            have ρl : ((((σ.set 7 (some vn)).set 8 (some (V.ref p))).set 9 (some (V.ref pc))).set 10 (some (V.ref ro))).length = 12 := ln τl
            have ρ1 : ((((σ.set 7 (some vn)).set 8 (some (V.ref p))).set 9 (some (V.ref pc))).set 10 (some (V.ref ro)))[1]? = some (some (.ref d)) := so (by decide) τ1
            have ρ2 : ((((σ.set 7 (some vn)).set 8 (some (V.ref p))).set 9 (some (V.ref pc))).set 10 (some (V.ref ro)))[2]? = some (some (.ref kl)) := so (by decide) τ2
            have ρ9 : ((((σ.set 7 (some vn)).set 8 (some (V.ref p))).set 9 (some (V.ref pc))).set 10 (some (V.ref ro)))[9]? = some (some (.ref pc)) := so (by decide) τ9
            have ρ10 : ((((σ.set 7 (some vn)).set 8 (some (V.ref p))).set 9 (some (V.ref pc))).set 10 (some (V.ref ro)))[10]? = some (some (.ref ro)) := sl τl (by decide)
            have Do : Dp K H11 (.ref ro) (.list ((cel eo).map PyData.int)) := sqL_dp (SqL.of ho11)
            have Dc : Dp K H11 (.ref pc) (.list ((cel d9).map PyData.int)) := sqL_dp (SqL.of hc11)
            -- the last two statements of a turn
            have last : ∀ H12, Same H11 H12 → tTail2 K CF CS T0 D ((((σ.set 7 (some vn)).set 8 (some (V.ref p))).set 9 (some (V.ref pc))).set 10 (some (V.ref ro))) H12 := fun H12 e12 => by
              refine ⟨pc, ro, d9, eo, ρl, ρ9, ρ10, e12 _ _ hc11, e12 _ _ ho11, hT, hTo, by omega, hno', LI11.tb.ext (LI11.dr.grow e12).sm, fun z Ha Hb eN1 T1 e13 => ?_⟩
              have LIz := ((LI11.grow e12).lam eN1 T1).grow e13
              exact (fin _ Hb _ (rows ++ [(pc, d9)]) (ln ρl) (so (by decide) ρ1) (so (by decide) ρ2) (LIz.more (by omega)) (by simp)).1
            refine ⟨_, ρ10, _, ρ9, _, _, Do, Dc, lay_ints _, lay_ints _, by have := depth_lst (cel eo); omega, _, rfl, ?_⟩
            rw [eqv_lists]
            by_cases heq : cel eo = cel d9
            · rw [decide_eq_true heq]
              exact iteF (iteF (last H11 (Same.refl _)))
            · rw [decide_eq_false heq]
              refine iteT ⟨_, ρ10, _, ρ9, _, ρ10, ro, _, rfl, .inl (SqL.of ho11), _, rfl, pc, _, rfl, SqL.of hc11, fun p12 hp12 => ?_⟩
              rw [ivs_len, cut_take]
              have e12 := same_new hp12 (.lst ((ivs (cel d9)).take (cel eo).length))
              have hsl : (upd H11 p12 (.lst ((ivs (cel d9)).take (cel eo).length))) p12 = some (.lst (ivs ((cel d9).take (cel eo).length))) := by
                rw [upd_same]
                unfold ivs
                rw [List.map_take]
              refine ⟨_, _, dp_same e12 _ _ Do, sqL_dp (SqL.of hsl), lay_ints _, lay_ints _, by have := depth_lst (cel eo); omega, _, rfl, ?_⟩
              rw [eqv_lists, decide_eq_false (fun z => heq (cel_prefix hT hTo z))]
              exact iteF (last _ e12)
          · -- no tree
            have LI3 := (LI2.grow e3).grow (same_new ha' (xo a' (.ref (He.ga K "BadTree")) none))
            refine ⟨_, so (by decide) u7, vn, dn, 12, rfl, rfl, dp_same (e3.trans (same_new ha' _)) _ _ hvn2, Gn, fun H4 e4 => ⟨_, rfl, ?_⟩⟩
            rw [hT]
            refine iteT ⟨_, sl ul (by decide), a', He.ga K "BadTree", none, _, _, true, rfl, e4 _ _ upd_same, True.intro, L.exT, .own _, L.ktT, true, rfl, iteF ?_⟩
            exact (fin _ H4 _ rows (ln ul) (so (by decide) u1) (so (by decide) u2) ((LI3.grow e4).more (by omega)) (by omega)).2))))
    (pss_one (ps_ret pe_bl))))), ?_⟩
  have sl : ∀ {j : Nat} {x : Option V} {τ : L2.St}, τ.length = 12 → j < 12 → (τ.set j x)[j]? = some x := fun h1 h2 => List.getElem?_set_self (by rw [h1]; exact h2)
  have so : ∀ {i j : Nat} {x : Option V} {y : Option V} {τ : L2.St}, i ≠ j → τ[j]? = some y → (τ.set i x)[j]? = some y := fun h1 h2 => (set_other h1).trans h2
  have ln : ∀ {j : Nat} {x : Option V} {τ : L2.St}, τ.length = 12 → (τ.set j x).length = 12 := fun h => by rw [List.length_set]; exact h
  have l100 : ∀ {n : Nat}, n ≤ 100 → n ≤ sizeLine := fun h => by rw [sizeLine_eq]; omega
  refine ⟨_, rfl, a, ns, rfl, hs, by omega, fun d w c B H1 e1 dr => ?_⟩
  refine ⟨l100 (Nat.zero_le _), fun kl hkl => ?_⟩
  have LI0 : LInv K T0 qL d w c kl 0 (upd B kl (.lst [])) (upd H1 kl (.lst [])) [] :=
    ⟨dr.new hkl _, ((LamX.Tabs.ext (fun p hp => by rw [List.mem_singleton.mp hp]; exact LamX.TabS.nil hT0) e1 : LamX.Tabs [(T0, qL)] B)).ext (same_new (dr.bnone hkl) _), upd_same, fun r hr => by simp at hr, dr.nc hkl, fun r hr => by simp at hr⟩
  have hs1 : SqL K (upd H1 kl (.lst [])) a (ivs ns) := sqL_same (e1.trans (dr.sm.trans (same_new hkl _))) hs
  refine ⟨_, rfl, a, _, rfl, .inl hs1, _, _, rfl, _, _, rfl, rfl, _, rfl, ?_, ?_, ?_⟩
  · split <;> omega
  · rw [ivs_len]
    split <;> omega
  have hN : ((4 : Int) + (if (16 : Int) < (((ivs ns).length : Nat) : Int) then 16 else (((ivs ns).length : Nat) : Int))).toNat ≤ 20 := by
    rw [ivs_len]
    split <;> omega
  generalize ((4 : Int) + (if (16 : Int) < (((ivs ns).length : Nat) : Int) then 16 else (((ivs ns).length : Nat) : Int))).toNat = N at *
  refine for_range (lo := 0) (n := N) (fun i σ H' => ∃ B' b rows, σ.length = 12 ∧ σ[1]? = some (some (.ref d)) ∧ σ[2]? = some (some (.ref kl)) ∧ LInv K T0 qL d w c kl b B' H' rows ∧ b ≤ i * 40000 ∧ rows.length ≤ i)
    ⟨_, 0, [], rfl, rfl, rfl, LI0, Nat.le_refl _, Nat.le_refl _⟩ (fun i σ H2 hi ⟨B2, b, rows, hl, s1, s2, LI, hb, hrl⟩ => ?_) (fun σ H' _ => rfl)
  have v1 := so (i := 3) (x := some (V.int (0 + (i : Nat)))) (by decide) s1
  have v2 := so (i := 3) (x := some (V.int (0 + (i : Nat)))) (by decide) s2
  have vl := ln (j := 3) (x := some (V.int (0 + (i : Nat)))) hl
  have fin : ∀ (σ' : L2.St) (H' B' : Hp) (rows' : List (Addr × PyData)) (b' : Nat), σ'.length = 12 → σ'[1]? = some (some (.ref d)) → σ'[2]? = some (some (.ref kl)) → LInv K T0 qL d w c kl b' B' H' rows' → b' ≤ b + 40000 → rows'.length ≤ rows.length + 1 →
      ∃ B' b rows, σ'.length = 12 ∧ σ'[1]? = some (some (.ref d)) ∧ σ'[2]? = some (some (.ref kl)) ∧ LInv K T0 qL d w c kl b B' H' rows ∧ b ≤ (i + 1) * 40000 ∧ rows.length ≤ i + 1 :=
    fun σ' H' B' rows' b' h1 h2 h3 h4 h5 h6 => ⟨B', b', rows', h1, h2, h3, h4, by omega, by omega⟩
  refine ⟨_, v1, d, w, c, b, B2, 5, rfl, LI.dr, by omega, by decide, by decide, fun r H3 r0 r5 dr3 => ?_⟩
  refine ⟨_, v1, _, v1, l100 (show 6 ≤ 100 by decide), fun l hl' => ?_⟩
  have dr4 := dr3.new hl' (.lst [.int 1, .int 2, .int 3, .int 5, .int 12, .int 12])
  have e4 := same_new (dr3.bnone hl') (.lst [.int 1, .int 2, .int 3, .int 5, .int 12, .int 12])
  refine ⟨d, w, c, l, b + 1, _, _, rfl, dr4, by omega, upd_same, (show 0 < 6 by decide), (show 6 ≤ 1000000 by decide), fun j x H5 hx dr5 => ?_⟩
  obtain ⟨m, rfl, hm⟩ : ∃ m : Nat, x = .int m ∧ m ≤ 12 := by
    have hxm := List.mem_of_getElem? hx
    simp only [List.mem_cons, List.not_mem_nil, or_false] at hxm
    rcases hxm with rfl | rfl | rfl | rfl | rfl | rfl
    · exact ⟨1, rfl, by decide⟩
    · exact ⟨2, rfl, by decide⟩
    · exact ⟨3, rfl, by decide⟩
    · exact ⟨5, rfl, by decide⟩
    · exact ⟨12, rfl, by decide⟩
    · exact ⟨12, rfl, by decide⟩
  have hNB := nb12 m hm
  refine ⟨d, w, c, b + 2, _, m, rfl, by omega, dr5, by omega, fun v dt B6 H6 e6 dr6 hv ht hn' => ⟨_, _, rfl, ?_⟩⟩
  have LI6 : LInv K T0 qL d w c kl (b + 30800) B6 H6 rows := LI.base (e4.trans e6) (dr6.more (by omega))
  have htt := isT_mono dt m 12 hm ht
  have w1 := so (i := 5) (x := some v) (by decide) (so (i := 4) (x := some (V.int r)) (by decide) v1)
  have w2 := so (i := 5) (x := some v) (by decide) (so (i := 4) (x := some (V.int r)) (by decide) v2)
  have w4 : (((σ.set 3 (some (V.int (0 + (i : Nat))))).set 4 (some (V.int r))).set 5 (some v))[4]? = some (some (.int r)) := so (by decide) (sl vl (by decide))
  have w5 : (((σ.set 3 (some (V.int (0 + (i : Nat))))).set 4 (some (V.int r))).set 5 (some v))[5]? = some (some v) := sl (ln vl) (by decide)
  have wl : (((σ.set 3 (some (V.int (0 + (i : Nat))))).set 4 (some (V.int r))).set 5 (some v)).length = 12 := ln (ln vl)
  refine ⟨_, w4, rfl, _, rfl, ?_⟩
  by_cases hr : r = 0
  · rw [decide_eq_true (by rw [hr])]
    subst hr
    refine iteT ⟨_, w1, l100 (show 3 ≤ 100 by decide), fun l7 hl7 => ?_⟩
    have dr7 := LI6.dr.new hl7 (.lst [.int 11, .int 12, .int 13])
    have e7 := same_new (LI6.dr.bnone hl7) (.lst [.int 11, .int 12, .int 13])
    refine ⟨d, w, c, l7, b + 30800, _, _, rfl, dr7, by omega, upd_same, (show 0 < 3 by decide), (show 3 ≤ 1000000 by decide), fun j7 x7 H7 hx7 dr8 => ?_⟩
    obtain ⟨k, rfl, hk⟩ : ∃ k : Nat, x7 = .int k ∧ k ≤ 13 := by
      have hxm := List.mem_of_getElem? hx7
      simp only [List.mem_cons, List.not_mem_nil, or_false] at hxm
      rcases hxm with rfl | rfl | rfl
      · exact ⟨11, rfl, by decide⟩
      · exact ⟨12, rfl, by decide⟩
      · exact ⟨13, rfl, by decide⟩
    have LI8 : LInv K T0 qL d w c kl (b + 30801) _ H7 rows := LI6.base e7 dr8
    refine ⟨k, rfl, by omega, by omega, for_range (lo := 0) (n := k) (fun i' σ' H' => ∃ B' v' dt', σ'.length = 12 ∧ σ'[1]? = some (some (.ref d)) ∧ σ'[2]? = some (some (.ref kl)) ∧ σ'[4]? = some (some (.int 0)) ∧ σ'[5]? = some (some v') ∧ LInv K T0 qL d w c kl (b + 30801) B' H' rows ∧ Dp K B' v' dt' ∧ isT dt' (12 + i') = true ∧ nd dt' ≤ 769 + i')
      ⟨_, v, dt, wl, w1, w2, w4, w5, LI8, dp_same e7 _ _ hv, htt, by omega⟩ (fun i' σ' H' hi' ⟨B', v', dt', q0, q1, q2, q4, q5, LI', hv', ht', hn''⟩ => ?_) (fun σ' H' ⟨B', v', dt', q0, q1, q2, q4, q5, LI', hv', ht', hn''⟩ => ?_)⟩
    · refine ⟨_, so (by decide) q5, one_line, fun p hp => ?_⟩
      have e9 := same_new (LI'.dr.bnone hp) (.tup [v'])
      refine ⟨_, .ref p, .tuple [dt'], ln (ln q0), so (by decide) (so (by decide) q1), so (by decide) (so (by decide) q2), so (by decide) (so (by decide) q4), sl (ln q0) (by decide), LI'.base e9 (LI'.dr.new hp _), .tup (SqT.of upd_same) (.cons (dp_same e9 _ _ hv') .nil), ?_, ?_⟩
      · simp only [isT, isTAll, Bool.and_eq_true, decide_eq_true_eq, Bool.and_true]
        exact ⟨by omega, ht'⟩
      · simp only [nd, ndAll]
        omega
    · exact ⟨d, w, c, kl, b + 30801, B', rows, v', dt', 0, q0, q1, q2, q4, q5, LI', by omega, by omega, hv', isT_gs dt' _ ht', by omega, (fun z => by cases z), fun σ'' H'' B'' rows'' a1 a2 a3 LI'' hr'' => ⟨fin _ _ _ _ _ a1 a2 a3 LI'' (by omega) hr'', fin _ _ _ _ _ a1 a2 a3 LI'' (by omega) hr''⟩⟩
  · rw [decide_eq_false (fun z => hr (V.int.inj z))]
    exact iteF ⟨d, w, c, kl, b + 30800, B6, rows, v, dt, r, wl, w1, w2, w4, w5, LI6, by omega, by omega, hv, isT_gs dt _ htt, by omega, fun _ => htt, fun σ'' H'' B'' rows'' a1 a2 a3 LI'' hr'' => ⟨fin _ _ _ _ _ a1 a2 a3 LI'' (by omega) hr'', fin _ _ _ _ _ a1 a2 a3 LI'' (by omega) hr''⟩⟩
end
end K17

set_option Elab.async false
set_option linter.all false
set_option maxRecDepth 100000
set_option maxHeartbeats 4000000
set_option autoImplicit false
namespace K17
open PySem PySem.Spec PyProof.Rows L2 LamX
/-! ### the law called from the top -/
theorem law_call17 {P : Program} {w : World} {K : PySem.W.Frag} {mg mb : Str → Option Value} {fa a c T0 CF CS : Addr} {s₁ : Shared} {vs : List Value} {ns : List Int}
    (KX : K.In s₁.heap) (hns : s₁.heap.Ns mainGlobals mg) (hb : s₁.heap.Ns builtinsNs mb) (hbb : ∀ x : Str, x ≠ "__name__" → mb x = bootBuiltins x) (hlim : s₁.heap.NoLimit) (hg : s₁.gens = #[])
    (hT : s₁.heap.get? T0 = some { cls := .none, data := .fields #[] }) (nT : K.lookup T0 = none) (C : PySem.W.CodeHd s₁.heap c T0)
    (hbm : ∃ (bm : Addr) (ob : Obj), mg "__builtins__" = some (.ref bm) ∧ bm ≠ builtinsNs ∧ s₁.heap.get? bm = some ob ∧ ob.cls = .type "module" ∧ ob.dict = some builtinsNs ∧ ob.data = .plain)
    (ha : s₁.heap.get? a = some { cls := .type "list", data := .seq vs.toArray }) (hi : IntsAre vs ns) (hl : ns.length ≤ 63)
    {fd : FuncData} (FD : FunD K dLaw.name dLaw.qual dLaw.params dLaw.body dLaw.scope [] [] fa fd) (hcode : fd.code = .ref c)
    (L : ∀ base : Heap, LawT P w K mg base CF CS) :
    codeAny (model P w) callerA (.call (.ref fa) ⟨[.ref a], []⟩) (fun r s' => r = .ok (.ret (.bool true)) ∧ OldK s₁.heap s'.heap ∧ s'.os = s₁.os ∧ AllBare s'.gens) s₁ := by
  have hl2 : ns.length ≤ sizeLine := by rw [sizeLine_eq]; omega
  have rv := vals_ints hi
  have lenV := hi.length
  have aT : a ≠ T0 := fun z => by
    rw [z, hT] at ha
    have z' : Data.fields #[] = Data.seq vs.toArray _ := congrArg Obj.data (Option.some.inj ha)
    cases z'
  have core : ∀ H : Hp, H T0 = some (.tbl #[]) → (∀ b, H b = none ∨ b = T0 ∨ ∃ o xs, H b = some (.frz o (.lst xs))) → SqL K H a (ns.map V.int) → HOk P w H s₁.heap → (∀ b, H b ≠ none → b = a ∨ b = T0) → (H a ≠ none → K.lookup a = none) →
      codeAny (model P w) callerA (.call (.ref fa) ⟨[.ref a], []⟩) (fun r s' => r = .ok (.ret (.bool true)) ∧ OldK s₁.heap s'.heap ∧ s'.os = s₁.os ∧ AllBare s'.gens) s₁ := by
    intro H hH hO hS hok hA hK
    have base_of : ∀ {b : Addr} {o : Obj}, s₁.heap.get? b = some o → H b = none → (hidT s₁.heap H).get? b = some o := fun e n => hidT_get e n
    have noD : ∀ {b : Addr} {o : Obj}, s₁.heap.get? b = some o → (∀ vs n, o.data ≠ .seq vs n) → o.data ≠ .fields #[] → H b = none := fun {b o} e h1 h2 => by
      cases q : H b with
      | none => rfl
      | some u =>
        rcases hA b (by rw [q]; simp) with e' | e'
        · rw [e', ha] at e
          cases e
          exact (h1 _ _ rfl).elim
        · rw [e', hT] at e
          cases e
          exact (h2 rfl).elim
    have noA : ∀ {b : Addr} {o : Obj} {es : Array DictEntry} {ep : Nat}, s₁.heap.get? b = some o → o.data = .dict es ep → H b = none := fun {b o es ep} e d => by
      refine noD e (fun vs n z => ?_) fun z => ?_
      · rw [d] at z
        cases z
      · rw [d] at z
        cases z
    have nsK : ∀ {b : Addr} {m : Str → Option Value}, s₁.heap.Ns b m → (hidT s₁.heap H).Ns b m := fun {b m} ⟨o, es, ep, e, d, r⟩ => ⟨o, es, ep, base_of e (noA e d), d, r⟩
    have hKb : K.In (hidT s₁.heap H) := fun b o e => base_of (KX b o e) (by
      cases q : H b with
      | none => rfl
      | some u =>
        rcases hA b (by rw [q]; simp) with e' | e'
        · rw [e'] at e q
          rw [hK (by rw [q]; simp)] at e
          cases e
        · rw [e', nT] at e
          cases e)
    have hM : L2.Mod K mg (hidT s₁.heap H) := ⟨hKb, nsK hns, ⟨mb, nsK hb, hbb⟩, let ⟨mc, h1, h2⟩ := hlim; ⟨mc, nsK h1, h2⟩⟩
    have TB : TabB (hidT s₁.heap H) mg c T0 := by
      refine ⟨?_, ?_, fun z => ?_⟩
      · obtain ⟨o, us, file, tf, flags, tg, inF, text, tt, e1, r1, r2, r3, r4, r5, r6, r7, r8, hne⟩ := C
        refine ⟨o, us, file, tf, flags, tg, inF, text, tt, base_of e1 (noD e1 (fun vs n z => ?_) fun z => ?_), r1, r2, r3, r4, r5, r6, r7, r8, hne⟩
        · rw [r2] at z
          cases z
        · rw [r2] at z
          cases z
          simp at r3
      · obtain ⟨bm, ob, b1, b2, b3, b4, b5, b6⟩ := hbm
        have nG : bm ≠ mainGlobals := fun q => by
          obtain ⟨o, es, ep, e, hd, _⟩ := hns
          rw [q, e] at b3
          cases b3
          rw [hd] at b6
          cases b6
        have nP : bm ≠ T0 := fun q => by
          rw [q, hT] at b3
          cases b3
          cases b6
        refine ⟨bm, ob, b1, b2, nG, nP, base_of b3 (noD b3 (fun vs n z => ?_) fun z => ?_), b4, b5, b6⟩
        · rw [b6] at z
          cases z
        · rw [b6] at z
          cases z
      · obtain ⟨o, es, ep, e, hd, _⟩ := hns
        rw [z, hT] at e
        cases e
        cases hd
    have e0 : Env0 P w K mg (hidT s₁.heap H) callerA [] s₁ H := ⟨rfl, hM, fun b o e => of_hidT e, Nat.le_of_eq (hidT_size _ _), trivial, fun b hb => absurd (show b ∈ ([] : List Addr) from hb) (by simp), hok, .of_eq hg⟩
    have hbind := (FunD.bindsA (ps := ["_law_script"]) FD fun _ _ _ _ _ _ us hl => match us, hl with | [_], _ => rfl) s₁ [.ref a] rfl
    obtain ⟨oc, od, dV, kV, doc, pm, an, cdv, ct, osl, rfl, lk, hcd, _, _⟩ := FD.ex
    have hcode' : cdv = .ref c := hcode
    subst hcode'
    refine codeAny_mono (run_ofS (CX := CX0) (A := callerA) (E := fun _ _ _ => False) (Q := fun v _ => v = .bl true) (k := 24) (us := [.ref a]) (vs := [V.ref a]) lk hcd sc_law ⟨rfl, by decide, by decide⟩ e0 hbind (.cons rfl .nil) rfl fun hr => law_walk (L _) TB hr hH hS hl) fun r s' h => ?_
    cases r with
    | error e => exact False.elim h
    | ok fl =>
      cases fl with
      | next => exact False.elim h
      | brk => exact False.elim h
      | cont => exact False.elim h
      | ret u =>
        obtain ⟨v, H', os, bare, un, hok', r', q⟩ := h
        have q' : v = .bl true := q
        subst q'
        obtain rfl : u = Value.bool true := r'
        have key : ∀ b o, b ≠ T0 → s₁.heap.get? b = some o → s'.heap.get? b = some o := fun b o nb e => by
          cases q : H b with
          | none => exact un.keep b o e q (by intro z; exact absurd (show b ∈ ([] : List Addr) from z) (by simp)) (by simp)
          | some u =>
            rcases hO b with z | z | ⟨ob, xs, z⟩
            · rw [q] at z; cases z
            · exact absurd z nb
            · have z2 := un.frzs b ob _ z
              obtain ⟨e1, _⟩ := hok b _ z
              obtain ⟨e2, _⟩ := hok' b _ z2
              rw [e] at e1; cases e1
              exact e2
        have grown : ∃ more : Array Value, s'.heap.get? T0 = some { cls := .none, data := .fields more } := by
          obtain ⟨more, z⟩ := un.tbls T0 #[] hH
          exact ⟨_, hok' T0 _ z⟩
        refine ⟨rfl, ⟨fun b o e => ?_, fun b o e => ?_⟩, os, bare⟩
        · by_cases hb : b = T0
          · obtain ⟨more, hm⟩ := grown
            rw [hb] at e ⊢
            rw [hT] at e
            cases e
            exact .inr (.inl ⟨(C.tab hT).isCodeTable, rfl, #[], more, rfl, by rw [Array.empty_append]; exact hm⟩)
          · exact .inl (key b o hb e)
        · by_cases hb : b = T0
          · obtain ⟨more, hm⟩ := grown
            rw [hb]
            exact ⟨_, hm⟩
          · exact ⟨o, key b o hb e⟩
  cases hk : K.lookup a with
  | some o =>
    have e := KX a o hk
    rw [ha] at e
    cases e
    refine core (fun b => if b = T0 then some (.tbl #[]) else none) (if_pos rfl) (fun b => ?_) (.inr ⟨_, vs.toArray, _, hk, rfl, rfl, rfl, by rw [List.size_toArray, lenV]; exact hl2, by simpa using rv⟩) (fun b u z => ?_) (fun b z => ?_) fun z => absurd (show (if a = T0 then some (HO.tbl #[]) else none) = none from if_neg aT) z
    · by_cases hb : b = T0
      · exact .inr (.inl hb)
      · exact .inl (if_neg hb)
    · by_cases hb : b = T0
      · have z' := (if_pos hb).symm.trans z
        cases z'
        rw [hb]
        exact hT
      · have z' := (if_neg hb).symm.trans z
        cases z'
    · by_cases hb : b = T0
      · exact .inr hb
      · exact absurd (if_neg hb) z
  | none =>
    refine core (fun b => if b = a then some (.frz { cls := .type "list", data := .seq vs.toArray } (.lst (ns.map V.int))) else if b = T0 then some (.tbl #[]) else none) ((if_neg (Ne.symm aT)).trans (if_pos rfl)) (fun b => ?_)
      (.inl (.inr ⟨{ cls := .type "list", data := .seq vs.toArray }, if_pos rfl⟩)) (fun b u z => ?_) (fun b z => ?_) fun _ => hk
    · by_cases hb : b = a
      · exact .inr (.inr ⟨_, _, if_pos hb⟩)
      · by_cases hb2 : b = T0
        · exact .inr (.inl hb2)
        · exact .inl ((if_neg hb).trans (if_neg hb2))
    · by_cases hb : b = a
      · have z' := (if_pos hb).symm.trans z
        cases z'
        rw [hb]
        exact ⟨ha, by rw [List.length_map]; exact hl2, vs, _, rv, ha⟩
      · have z1 := (if_neg hb).symm.trans z
        by_cases hb2 : b = T0
        · have z' := (if_pos hb2).symm.trans z1
          cases z'
          rw [hb2]
          exact hT
        · have z' := (if_neg hb2).symm.trans z1
          cases z'
    · by_cases hb : b = a
      · exact .inl hb
      · by_cases hb2 : b = T0
        · exact .inr hb2
        · exact absurd ((if_neg hb).trans (if_neg hb2)) z
end K17

set_option Elab.async false
set_option linter.all false
set_option maxRecDepth 100000
set_option maxHeartbeats 4000000
set_option autoImplicit false
namespace K17
open PySem PySem.Spec PyProof.Rows L2
/-! ### more that the head tells -/
def entB (i : Int) (v : Value → Bool) (e : DictEntry) : Bool := decide (e.hash = hashInt i) && ((match e.key with
  | .int j _ => decide (j = i)
  | _ => false) && v e.val)
theorem entB_ok {i : Int} {v : Value → Bool} {e : DictEntry} (h : entB i v e = true) : ∃ (t : Tok) (u : Value), e = ⟨hashInt i, .int i t, u⟩ ∧ v u = true := by
  obtain ⟨eh, ek, ev⟩ := e
  obtain ⟨h1, h2⟩ := He.ba h
  obtain ⟨h3, h4⟩ := He.ba h2
  have e1 : eh = hashInt i := of_decide_eq_true h1
  cases ek with
  | int j t =>
    have e2 : j = i := of_decide_eq_true h3
    exact ⟨t, ev, by rw [e1, e2], h4⟩
  | _ => cases h3
def entsB : List DictEntry → Bool
  | [e1, e2, e3, e4] => entB 29 (He.relB .non) e1 && (entB 30 (He.relB (.bl false)) e2 && (entB 31 (He.relB (.bl true)) e3 && entB 32 (He.relB (.str "")) e4))
  | _ => false
def plainB (K : PySem.W.Frag) : Bool := (He.ga K "PLAIN" == sysModules) == false && (match K.lookup (He.ga K "PLAIN") with
  | some ⟨.type c, none, .dict es _, sl⟩ => decide (c = "dict") && (sl.isEmpty && entsB es.toList)
  | _ => false)
theorem plainB_ok {K : PySem.W.Frag} {mg : Str → Option Value} (g : mg "PLAIN" = some (.ref (He.ga K "PLAIN"))) (h : plainB K = true) : PlD K mg (He.ga K "PLAIN") := by
  obtain ⟨h1, h2⟩ := He.ba h
  refine ⟨g, eq_of_beq h1, ?_⟩
  cases q : K.lookup (He.ga K "PLAIN") with
  | none => rw [q] at h2; cases h2
  | some o =>
    obtain ⟨oc, od, dt, osl⟩ := o
    rw [q] at h2
    cases oc with
    | type c =>
      cases od with
      | none =>
        cases dt with
        | dict es n =>
          obtain ⟨h3, h4⟩ := He.ba h2
          obtain ⟨h5, h6⟩ := He.ba h4
          obtain rfl : c = "dict" := of_decide_eq_true h3
          obtain rfl : osl = #[] := Array.isEmpty_iff.mp h5
          cases q2 : es.toList with
          | nil => rw [q2] at h6; cases h6
          | cons e1 l1 =>
          cases l1 with
          | nil => rw [q2] at h6; cases h6
          | cons e2 l2 =>
          cases l2 with
          | nil => rw [q2] at h6; cases h6
          | cons e3 l3 =>
          cases l3 with
          | nil => rw [q2] at h6; cases h6
          | cons e4 l4 =>
          cases l4 with
          | cons e5 l5 => rw [q2] at h6; cases h6
          | nil =>
            rw [q2] at h6
            obtain ⟨k1, k⟩ := He.ba h6
            obtain ⟨k2, k⟩ := He.ba k
            obtain ⟨k3, k4⟩ := He.ba k
            obtain ⟨t1, u1, r1, s1⟩ := entB_ok k1
            obtain ⟨t2, u2, r2, s2⟩ := entB_ok k2
            obtain ⟨t3, u3, r3, s3⟩ := entB_ok k3
            obtain ⟨t4, u4, r4, s4⟩ := entB_ok k4
            have g1 : u1 = .none := He.relB_ok s1
            have g2 : u2 = .bool false := He.relB_ok s2
            have g3 : u3 = .bool true := He.relB_ok s3
            obtain ⟨t5, g4⟩ : ∃ t5, u4 = .str "" t5 := He.relB_ok s4
            subst g1 g2 g3 g4
            exact ⟨es, n, t1, t2, t3, t4, t5, rfl, by rw [q2, r1, r2, r3, r4]⟩
        | _ => cases h2
      | some d => cases dt <;> cases h2
    | _ => cases od <;> cases dt <;> cases h2
/-! ### an error class's facts -/
def oB (a b : Option Bool) : Bool := decide (a = b)
def excCB (K : PySem.W.Frag) (D : Addr) : Bool := He.eqO (PySem.W.findIn K (.ref D) "__getattribute__") (some (some (.builtin "BaseException.__getattribute__"))) && (He.eqO (PySem.W.findIn K (.ref D) "__getattr__") (some none) &&
  (oB (PySem.W.subIn K (.ref D) (.type "BaseException")) (some true) && (PySem.W.hasDictIn K D && (He.eqO (PySem.W.findIn K (.ref D) "__class__") (some (some (.builtin "object.__class__"))) &&
  (He.eqO (PySem.W.specialIn K (.builtin "object.__class__") "__get__") (some (some (.builtin "getset_descriptor.__get__"))) && (oB (PySem.W.takesIn K (.builtin "object.__class__")) (some true) && oB (PySem.W.mroIn K D (.type "object")) (some true)))))))
theorem excCB_ok {K : PySem.W.Frag} {D : Addr} (h : excCB K D = true) : ExcC K D := by
  obtain ⟨h1, h⟩ := He.ba h
  obtain ⟨h2, h⟩ := He.ba h
  obtain ⟨h3, h⟩ := He.ba h
  obtain ⟨h4, h⟩ := He.ba h
  obtain ⟨h5, h⟩ := He.ba h
  obtain ⟨h6, h⟩ := He.ba h
  obtain ⟨h7, h8⟩ := He.ba h
  exact ⟨He.eqO_ok h1, He.eqO_ok h2, of_decide_eq_true h3, h4, He.eqO_ok h5, He.eqO_ok h6, of_decide_eq_true h7, of_decide_eq_true h8⟩
def oexB (K : PySem.W.Frag) (C : Addr) : Bool := (match K.lookup C with
  | some ⟨.type c, _, .cls cd, sl⟩ => decide (c = "type") && ((match cd.mro, sl.toList with
    | .ref C' :: bm, [_, _, _, _, some (.builtin n), _] => decide (C' = C) && (decide (n = "ValueError.__new__") && (cd.hasDict && (!cd.hasDel && PySem.HandSPX.refsVE bm)))
    | _, _ => false))
  | _ => false) && (He.eqO (PySem.W.findIn K (.ref C) "__setattr__") (some (some (.builtin "object.__setattr__"))) && (oB (PySem.W.subIn K (.ref C) (.type "BaseException")) (some true) && (decide (PySem.W.typeIn K (.ref C) = some (.type "type")) && PySem.W.keepIn K (.ref C))))
theorem oexB_ok {K : PySem.W.Frag} {C : Addr} (h : oexB K C = true) : OexC K C := by
  obtain ⟨h1, h⟩ := He.ba h
  obtain ⟨h2, h⟩ := He.ba h
  obtain ⟨h3, h⟩ := He.ba h
  obtain ⟨h4, h5⟩ := He.ba h
  refine ⟨?_, He.eqO_ok h2, of_decide_eq_true h3, of_decide_eq_true h4, h5⟩
  split at h1
  · rename_i c dd cd sl q
    obtain ⟨k1, k2⟩ := He.ba h1
    obtain rfl : c = "type" := of_decide_eq_true k1
    split at k2
    · rename_i C' bm k0 k1' k2' k3 n k5 hm hs
      obtain ⟨j1, j⟩ := He.ba k2
      obtain ⟨j2, j⟩ := He.ba j
      obtain ⟨j3, j⟩ := He.ba j
      obtain ⟨j4, j5⟩ := He.ba j
      obtain rfl : C' = C := of_decide_eq_true j1
      obtain rfl : n = "ValueError.__new__" := of_decide_eq_true j2
      obtain ⟨nm, bs, mro, ns, qn, hd, sn, sub, ab, col, del⟩ := cd
      dsimp only at hm j3 j4
      subst hm
      obtain rfl : hd = true := j3
      obtain rfl : del = false := by cases del with
        | false => rfl
        | true => cases j4
      have hsl : sl = #[k0, k1', k2', k3, some (.builtin "ValueError.__new__"), k5] := by
        obtain ⟨l⟩ := sl
        have hs' : l = _ := hs
        subst hs'
        rfl
      subst hsl
      exact ⟨_, _, _, _, _, _, _, _, _, _, _, _, _, _, _, q, j5⟩
    · cases k2
  · cases h1
end K17

set_option Elab.async false
set_option linter.all false
set_option maxRecDepth 100000
set_option maxHeartbeats 4000000
set_option autoImplicit false
namespace K17
open PySem PySem.Spec PyProof.Rows L2
/-! ### BadFile's facts -/
def atFile : Str × Option Str := ("BadFile", some "__init__")
abbrev FnC17 : Type := Option (Str × Str × Arguments × FuncBody × Scope × Addr × List Str × Value × Addr)
def fnC (K : PySem.W.Frag) (f : Addr) : FnC17 := match K.lookup f with
  | some ⟨_, _, .func fd, _⟩ => some (fd.name, fd.qualname, fd.params, fd.body, fd.scope, fd.globals, fd.closure.map (·.1), fd.defaults, fd.builtins)
  | _ => none
def fnCv : FnC17 := some (dFile.name, dFile.qual, dFile.params, .stmts dFile.body, dFile.scope, mainGlobals, ["__class__"], .none, builtinsNs)
def ccOf (K : PySem.W.Frag) (f : Addr) : Addr := match K.lookup f with
  | some ⟨_, _, .func fd, _⟩ => (match fd.closure with
    | [(_, c)] => c
    | _ => 0)
  | _ => 0
def codB (K : PySem.W.Frag) (f : Addr) (q : Str) : Bool := match K.lookup f with
  | some ⟨_, _, .func fd, _⟩ => PySem.W.codeIn K fd.code q
  | _ => false
def filB (K : PySem.W.Frag) (c : Addr) (file : Str) : Bool := match K.lookup c with
  | some ⟨_, _, .fields vs, _⟩ => (match (vs[2]? : Option Value) with
    | some (.str x _) => file == x
    | _ => false)
  | _ => false
def celB (K : PySem.W.Frag) (c C : Addr) : Bool := match K.lookup c with
  | some ⟨_, _, .cell (some (.ref C')), _⟩ => decide (C' = C)
  | _ => false
theorem fnC_ok {K : PySem.W.Frag} {f : Addr} (h : fnC K f = fnCv) (hc : codB K f dFile.qual = true) :
    ∃ (cda : Addr), (∃ (oc : Value) (od : Option Addr) (kV doc pm : Value) (an : Option Addr) (ct : Value) (osl : Array (Option Value)), K.lookup f = some ⟨oc, od, .func (PySem.W.ksFn dFile.name dFile.qual dFile.params dFile.body dFile.scope .none kV doc pm an (.ref cda) ct (ccOf K f)), osl⟩) ∧ PySem.W.codeIn K (.ref cda) dFile.qual = true ∧
      ∀ (oc : Value) (od : Option Addr) (fd : FuncData) (osl : Array (Option Value)), K.lookup f = some ⟨oc, od, .func fd, osl⟩ → fd.code = .ref cda := by
  unfold fnC at h
  unfold codB at hc
  unfold ccOf
  cases q : K.lookup f with
  | none =>
    rw [q] at hc
    cases hc
  | some o =>
    obtain ⟨oc, od, dt, osl⟩ := o
    rw [q] at hc h
    cases dt with
    | func fd =>
      obtain ⟨n1, n2, n3, n4, n5, n6, n7, n8, n9, n10, n11, n12, n13, n14, n15⟩ := fd
      have e2 : (some (n1, n2, n3, n4, n5, n6, n7.map (·.1), n8, n15) : FnC17) = fnCv := h
      unfold fnCv at e2
      simp only [Option.some.injEq, Prod.mk.injEq] at e2
      obtain ⟨h1, h2, h3, h4, h5, h6, h7, h8, h9⟩ := e2
      have hc' : PySem.W.codeIn K n13 dFile.qual = true := hc
      obtain ⟨cda, ec⟩ := He.codeIn_ref hc'
      cases n7 with
      | nil => cases h7
      | cons p l =>
        cases l with
        | cons _ _ => exact absurd (congrArg List.length h7) (by simp)
        | nil =>
          obtain ⟨y, cc⟩ := p
          have hy : y = "__class__" := (List.cons.inj h7).1
          subst h1 h2 h3 h4 h5 h6 h8 h9 ec hy
          exact ⟨cda, ⟨oc, od, n9, n10, n11, n12, n14, osl, rfl⟩, hc', fun oc' od' fd' osl' e => by cases e; rfl⟩
    | _ => cases hc
abbrev cF (K : PySem.W.Frag) : Addr := He.ga K "BadFile"
abbrev fF (K : PySem.W.Frag) : Addr := He.fAd K atFile
def fileB (K : PySem.W.Frag) : Bool := oexB K (cF K) && (He.eqO (PySem.W.findIn K (.ref (cF K)) "__init__") (some (some (.ref (fF K)))) && (decide (PySem.W.typeIn K (.ref (fF K)) = some (.type "function")) &&
  (codB K (fF K) dFile.qual && (filB K (He.codeOf K atFile) prog17.main.file && (celB K (ccOf K (fF K)) (cF K) && (oB (PySem.W.mroIn K (cF K) (.ref (cF K))) (some true) &&
  (He.eqO (PySem.W.ks_superIn K (cF K) (cF K) "__init__") (some (some (.builtin "ValueError.__init__"))) && (He.eqO (PySem.W.nsIn K cStatics "thirdparty.any") (some none) && (oB (PySem.W.subIn K (.ref (cF K)) (.type "ValueError")) (some true) &&
  He.eqO (PySem.W.findIn K (.ref (cF K)) "at") (some none))))))))))
theorem top17 : (prog17.main.scope.names.lookup ("super" : Str)).isSome = false := by decide +kernel
theorem fileB_ok {K : PySem.W.Frag} {mg : Str → Option Value} (g : mg "BadFile" = some (.ref (cF K))) (hf : fnC K (fF K) = fnCv) (h : fileB K = true) : ∃ cda, FlT prog17 K mg (cF K) (fF K) cda (ccOf K (fF K)) := by
  obtain ⟨h1, h⟩ := He.ba h
  obtain ⟨h2, h⟩ := He.ba h
  obtain ⟨h3, h⟩ := He.ba h
  obtain ⟨h4, h⟩ := He.ba h
  obtain ⟨h5, h⟩ := He.ba h
  obtain ⟨h6, h⟩ := He.ba h
  obtain ⟨h7, h⟩ := He.ba h
  obtain ⟨h8, h⟩ := He.ba h
  obtain ⟨h9, h⟩ := He.ba h
  obtain ⟨h10, h11⟩ := He.ba h
  obtain ⟨cda, lk, hc, he⟩ := fnC_ok hf h4
  obtain ⟨oc, od, kV, doc, pm, an, ct, osl, lk0⟩ := lk
  have ecd : He.codeOf K atFile = cda := He.codeOf_eq lk0 rfl
  rw [ecd] at h5
  refine ⟨cda, ?_⟩
  have k1 := oexB_ok h1
  have k2 := He.eqO_ok h2
  have k3 := of_decide_eq_true h3
  have k7 : PySem.W.mroIn K (cF K) (.ref (cF K)) = some true := of_decide_eq_true h7
  have k8 := He.eqO_ok h8
  have k9 := He.eqO_ok h9
  have k10 : PySem.W.subIn K (.ref (cF K)) (.type "ValueError") = some true := of_decide_eq_true h10
  have k11 := He.eqO_ok h11
  have k12 : (prog17.main.scope.names.lookup ("super" : Str)).isSome = false := top17
  refine ⟨k1, g, k2, k3, ?_, hc, ?_, ?_, k7, k8, k9, k10, k11, k12⟩
  · exact ⟨oc, od, kV, doc, pm, an, ct, osl, lk0⟩
  · unfold filB at h5
    cases q : K.lookup cda with
    | none => rw [q] at h5; cases h5
    | some o =>
      obtain ⟨oc, od, dt, osl⟩ := o
      rw [q] at h5
      cases dt with
      | fields vs =>
        have h5' : (match (vs[2]? : Option Value) with | some (.str x _) => prog17.main.file == x | _ => false) = true := h5
        cases q2 : (vs[2]? : Option Value) with
        | none => rw [q2] at h5'; cases h5'
        | some v =>
          rw [q2] at h5'
          cases v with
          | str x t => exact ⟨oc, od, vs, osl, x, t, rfl, q2, h5'⟩
          | _ => cases h5'
      | _ => cases h5
  · unfold celB at h6
    cases q : K.lookup (ccOf K (fF K)) with
    | none => rw [q] at h6; cases h6
    | some o =>
      obtain ⟨oc, od, dt, osl⟩ := o
      rw [q] at h6
      cases dt with
      | cell v =>
        cases v with
        | none => cases h6
        | some v =>
          cases v with
          | ref C' =>
            obtain rfl : C' = cF K := of_decide_eq_true h6
            exact ⟨oc, od, osl, rfl⟩
          | _ => cases h6
      | _ => cases h6
/-! ### the Bool -/
def exK (K : PySem.W.Frag) : Bool := plainB K && (fileB K && (excCB K (He.ga K "BadTree") && (excCB K (cF K) && (xfB K (cF K) && (oB (PySem.W.kitOne K (.ref (He.ga K "BadTree")) (.ref (He.ga K "BadTree"))) (some true) && oB (PySem.W.kitOne K (.ref (cF K)) (.ref (cF K))) (some true))))))
/-! ### the Hook -/
def fn : List He.DefD := [dNumber, dAre, dIsTree, dCellsIn, dTreeCells, dTreeOf, dInit, dWhole, dTakes, dLetter, dDigit, dBegun, dMixed, dTake, dPick, dCaught, dLNumber, dStrange, dChanged, dLCells, dLIsTree, dLeaf, dLTree, dLaw]
def defNames : List Str := ["is_number", "are_cells", "is_tree", "cells_in", "tree_cells", "tree_of", "_law_begun", "_law_mixed", "_law_take", "_law_pick", "_law_caught", "_law_is_number", "_law_strange", "_law_changed", "_law_tree_cells", "_law_is_tree", "_law_leaf", "_law_tree", "law"]
def clsNames : List Str := ["LinkError", "BadCells", "BadFile", "BadTree", "Reading"]
def bltNames : List Str := ["isinstance", "int", "bool", "tuple", "list", "all", "str", "len", "enumerate", "abs", "range", "min", "repr", "super"]
def faMore : List He.Fa := [.int "MOST_DEEP" 12, .int "MOST_LETTERS" 8, .int "MOST_DIGITS" 3, .int "MOST_NUMBER" 32767, .str "LETTERS" "abcdefghijklmnopqrstuvwxyz", .glo "PLAIN",
   .cls "Reading", .noat "Reading" "stack", .noat "Reading" "letters", .noat "Reading" "digits", .meth "Reading" "is_whole", .meth "Reading" "takes", .meth "Reading" "takes_letter", .meth "Reading" "takes_digit", .mkr "Reading",
   .exc "BadTree", .exm "BadTree" "LinkError" true, .exm "BadFile" "LinkError" true]
def fa : List He.Fa := (defNames.map He.Fa.glo ++ clsNames.map He.Fa.glo) ++ (bltNames.map He.Fa.free ++ faMore)
def tf : List He.Defn := [("law", none)]
def asK (g : Addr → Option Obj) : List Addr := He.asD g 5 ++ [cStatics]
def kOf (g : Addr → Option Obj) : PySem.W.Frag := He.frT g (asK g)
abbrev Al17 : Type := He.AlX × FnC17
def obsK (g : Addr → Option Obj) (K : PySem.W.Frag) : Al17 := ((He.obsT fa fn [] K, exK K && He.tabsB g tf K), fnC K (fF K))
def val17 (w : World) : Al17 := (He.valX fn [] w, fnCv)
structure Says17 (w : World) (h : Heap) (K : PySem.W.Frag) : Prop where
  x : He.SaysX fa fn [] tf exK w h K
  f : fnC K (fF K) = fnCv
theorem obsK_parts {w : World} {g : Addr → Option Obj} {K : PySem.W.Frag} (e : obsK g K = val17 w) : He.obsT fa fn [] K = He.valT fn [] w ∧ exK K = true ∧ He.tabsB g tf K = true ∧ fnC K (fF K) = fnCv := by
  have e0 : (He.obsT fa fn [] K, exK K && He.tabsB g tf K) = He.valX fn [] w := congrArg (fun z : Al17 => z.1) e
  have e2 : (exK K && He.tabsB g tf K) = true := congrArg (fun z : He.AlX => z.2) e0
  exact ⟨congrArg (fun z : He.AlX => z.1) e0, (He.ba e2).1, (He.ba e2).2, congrArg (fun z : Al17 => z.2) e⟩
theorem tab_of {g : Addr → Option Obj} {K : PySem.W.Frag} {p : He.Defn} (hp : p ∈ tf) (h2 : He.tabsB g tf K = true) : PySem.W.codeHdIn K (He.cT K p).1 (He.cT K p).2 = true ∧ ∃ o, g (He.cT K p).2 = some o ∧ He.emptyTab o = true := by
  obtain ⟨h3, h4⟩ := He.ba (List.all_eq_true.mp h2 p hp)
  refine ⟨h3, ?_⟩
  cases q : g (He.cT K p).2 with
  | none => rw [q] at h4; cases h4
  | some o => rw [q] at h4; exact ⟨o, rfl, h4⟩
theorem says17_of {w : World} {h : Heap} {as : List Addr} (e : obsK h.get? (He.frT h.get? as) = val17 w) : Says17 w h (He.frT h.get? as) := by
  obtain ⟨e1, h1, h2, e3⟩ := obsK_parts e
  refine ⟨⟨e1, h1, fun p hp => (tab_of hp h2).1, fun p hp => ?_, fun p hp => ?_⟩, e3⟩
  · obtain ⟨_, o, q, z⟩ := tab_of hp h2
    exact He.frT_none q z
  · obtain ⟨_, o, q, z⟩ := tab_of hp h2
    rw [q, He.emptyTab_eq z]
def hk : PySem.W.Hook where
  α := Al17
  obs := fun s => obsK s.heap.get? (kOf s.heap.get?)
  val := fun w => val17 w
  says := fun w h => ∃ K : PySem.W.Frag, K.In h ∧ Says17 w h K
  of := fun _ _ e => ⟨_, He.frT_in, says17_of e⟩
  keeps := fun _ _ _ ⟨K, hK, c⟩ k => ⟨K, PySem.W.Frag.In.keeps hK k, ⟨c.x.t, c.x.more, c.x.hd, c.x.out, fun p hp => k _ _ (c.x.empty p hp)⟩, c.f⟩
def ob (s : PySem.W.SharedT) : Al17 := obsK (HandSHeadRun.getT s) (kOf (HandSHeadRun.getT s))
theorem ob_eq (s : PySem.W.SharedT) : ob s = hk.obs s.abs := by
  have e : HandSHeadRun.getT s = s.abs.heap.get? := funext (HandSHeadRun.getT_eq s)
  unfold ob
  rw [e] <;> rfl
def loose : List Str := ["LinkError", "BadCells", "BadFile", "BadTree", "LETTERS", "is_number", "are_cells", "MOST_DEEP", "MOST_LETTERS", "MOST_DIGITS", "MOST_NUMBER", "PLAIN", "is_tree", "cells_in", "tree_cells", "Reading", "tree_of",
  "_law_begun", "_law_mixed", "_law_take", "_law_pick", "_law_caught", "_law_is_number", "_law_strange", "_law_changed", "_law_tree_cells", "_law_is_tree", "_law_leaf", "_law_tree"]
abbrev R : PySem.W.OpenRow := PySem.W.OpenLaw.row law17
end K17

set_option Elab.async false
set_option linter.all false
set_option maxRecDepth 100000
set_option maxHeartbeats 0
set_option autoImplicit false
namespace K17
open PySem PySem.Spec PyProof.Rows L2
theorem run17 (w : World) : HandSHeadRun.RunEq R (PySem.W.view R.prog [34]) hk ob 2500 loose w :=
  PySem.W.byRow2 "special-get-raises" (P := fun w => HandSHeadRun.RunEq R (PySem.W.view R.prog [34]) hk ob 2500 loose w) (fun w os => by kernel_rfl) (fun w os => by kernel_rfl) w
end K17

set_option Elab.async false
set_option linter.all false
set_option maxRecDepth 100000
set_option maxHeartbeats 4000000
set_option autoImplicit false
namespace K17
open PySem PySem.Spec PyProof.Rows L2
/-! ### all facts, by name -/
theorem fa_def {x : Str} (h : x ∈ defNames) : He.Fa.glo x ∈ fa := List.mem_append_left _ (List.mem_append_left _ (List.mem_map.mpr ⟨x, h, rfl⟩))
theorem fa_cls {x : Str} (h : x ∈ clsNames) : He.Fa.glo x ∈ fa := List.mem_append_left _ (List.mem_append_right _ (List.mem_map.mpr ⟨x, h, rfl⟩))
theorem fa_blt {x : Str} (h : x ∈ bltNames) : He.Fa.free x ∈ fa := List.mem_append_right _ (List.mem_append_left _ (List.mem_map.mpr ⟨x, h, rfl⟩))
theorem fa_more {f : He.Fa} (i : Nat) (h : faMore[i]? = some f := by rfl) : f ∈ fa := List.mem_append_right _ (List.mem_append_right _ (List.mem_of_getElem? h))
section
variable {w : World} {K : PySem.W.Frag} {h : Heap} {mg : Str → Option Value}
theorem dn_ok (c : He.SaysD fa fn K) (X : K.In h) (G : h.Ns mainGlobals mg) (i : Nat) {x : Str} {s : Stmt} (hi : fn[i]? = some (mkD x s) := by rfl) (hx : x ∈ defNames := by decide +kernel) : Dn K mg (mkD x s) := by
  obtain ⟨fd, F⟩ := c.def_ i hi
  exact ⟨⟨fd, F⟩, He.glo_ok X G (c.facts (fa_def hx))⟩
theorem mn_ok (c : He.SaysD fa fn K) (i j : Nat) {m q : Str} {s : Stmt} (hi : fn[i]? = some (mkM "Reading" m q s) := by rfl) (hj : faMore[j]? = some (.meth "Reading" m) := by rfl) : Mn K (mkM "Reading" m q s) m := by
  obtain ⟨fd, F⟩ := c.def_ i hi
  exact ⟨⟨fd, F⟩, He.meth_ok (c.facts (fa_more j hj))⟩
theorem blt_ok (c : He.SaysD fa fn K) (X : K.In h) (G : h.Ns mainGlobals mg) (x : Str) (hx : x ∈ bltNames := by decide +kernel) : mg x = none := He.free_ok X G (c.facts (fa_blt hx))
theorem tx_ok (c : He.SaysD fa fn K) (X : K.In h) (G : h.Ns mainGlobals mg) : Tx K mg where
  isi := blt_ok c X G _
  int := blt_ok c X G _
  bool := blt_ok c X G _
  tuple := blt_ok c X G _
  list := blt_ok c X G _
  all := blt_ok c X G _
  str := blt_ok c X G _
  len := blt_ok c X G _
  enum := blt_ok c X G _
  abs := blt_ok c X G _
  range := blt_ok c X G _
  min := blt_ok c X G _
  repr := blt_ok c X G _
  sup := blt_ok c X G _
  deep := He.int_ok X G (c.facts (fa_more 0))
  lets := He.int_ok X G (c.facts (fa_more 1))
  digs := He.int_ok X G (c.facts (fa_more 2))
  numb := He.int_ok X G (c.facts (fa_more 3))
  bt := by
    obtain ⟨h1, h2, h3, h4⟩ := He.exc_ok (c.facts (fa_more (f := .exc "BadTree") 15))
    exact ⟨h1, h2, h3, h4, He.glo_ok X G (c.facts (fa_cls (by decide +kernel)))⟩
  abc := He.str_ok X G (c.facts (fa_more 4))
theorem rd_ok (c : He.SaysD fa fn K) (X : K.In h) (G : h.Ns mainGlobals mg) (hp : plainB K = true) : RdT K mg where
  cl := He.cls_ok (c.facts (fa_more 6))
  mkr := He.mkr_ok (c.facts (fa_more 14))
  n1 := He.noat_ok (c.facts (fa_more 7))
  n2 := He.noat_ok (c.facts (fa_more 8))
  n3 := He.noat_ok (c.facts (fa_more 9))
  gl := He.glo_ok X G (c.facts (fa_cls (by decide +kernel)))
  fi := c.def_ 6 (d := dInit) rfl
  whole := mn_ok c 7 10
  takes := mn_ok c 8 11
  letter := mn_ok c 9 12
  digit := mn_ok c 10 13
  pl := ⟨_, plainB_ok (He.glo_ok X G (c.facts (fa_more 5))) hp⟩
theorem law_ok (c : Says17 w h K) (X : K.In h) (G : h.Ns mainGlobals mg) (base : Heap) : LawT prog17 w K mg base (cF K) (He.ga K "LinkError") := by
  have d := c.x.t.d
  obtain ⟨m1, m⟩ := He.ba c.x.more
  obtain ⟨m2, m⟩ := He.ba m
  obtain ⟨m3, m⟩ := He.ba m
  obtain ⟨m4, m⟩ := He.ba m
  obtain ⟨m5, m⟩ := He.ba m
  obtain ⟨m6, m7⟩ := He.ba m
  have T := tx_ok d X G
  have R := rd_ok d X G m1
  have gF : mg "BadFile" = some (.ref (cF K)) := He.glo_ok X G (d.facts (fa_cls (by decide +kernel)))
  obtain ⟨cda, F⟩ := fileB_ok gF c.f m2
  have cN : Cal prog17 w K mg base CX0 1 "is_number" (spNumber K) := ok_number T (dn_ok d X G 0)
  have cLN : Cal prog17 w K mg base CX0 1 "_law_is_number" (spNumber K) := ok_lNumber T (dn_ok d X G 16)
  have cT := ok_isTree T (dn_ok d X G 2) cN 13
  have cC : Cal prog17 w K mg base CX0 13 "cells_in" (spCells K 13) := ok_cells T (dn_ok d X G 3) 13
  have cA := ok_are T (dn_ok d X G 1) cN
  have cW : CalM prog17 w K mg base CX0 1 "is_whole" (spWhole K) := ok_whole T R
  have cTk := ok_takes T R cW (ok_letter T R) (ok_digit T R)
  have cM : Cal prog17 w K mg base CX0 1 "_law_mixed" spMixed := ok_mixed T (dn_ok d X G 12)
  have cTake := ok_take T (dn_ok d X G 13) cM
  have cPick := ok_pick T (dn_ok d X G 14) cTake
  have cLeaf := ok_leaf T (dn_ok d X G 21) cTake cPick
  have cStr := ok_strange T (dn_ok d X G 17) cPick
  exact
    { tx := T
      caught := dn_ok d X G 15
      link := He.glo_ok X G (d.facts (fa_cls (by decide +kernel)))
      file := gF
      begun := ok_begun T (dn_ok d X G 11)
      take := cTake
      pick := cPick
      tree := ok_tree T (dn_ok d X G 22) cTake cPick cLeaf 13
      changed := ok_changed T (dn_ok d X G 18) cTake cStr 13
      isTree := ok_lIsTree T (dn_ok d X G 20) cLN 13
      lcells := ok_lCells T (dn_ok d X G 19) 13
      cells := ok_treeCells T (dn_ok d X G 4) cT cC
      treeOf := ok_treeOf T R F (dn_ok d X G 5) cA cTk cW
      exT := excCB_ok m3
      exF := excCB_ok m4
      xfF := xfB_ok m5
      noat := F.noat
      ktT := of_decide_eq_true m6
      ktF := of_decide_eq_true m7
      emT := He.exm_ok (d.facts (fa_more 16))
      emF := He.exm_ok (d.facts (fa_more 17)) }
theorem top_call {mb : Str → Option Value} {fa' a : Addr} {s₁ : Shared} {vs : List Value} {ns : List Int} (KX : K.In s₁.heap) (hns : s₁.heap.Ns mainGlobals mg) (hb : s₁.heap.Ns builtinsNs mb) (hbb : ∀ x : Str, x ≠ "__name__" → mb x = bootBuiltins x) (hlim : s₁.heap.NoLimit) (hg : s₁.gens = #[])
    (hbm : ∃ (bm : Addr) (ob : Obj), mg "__builtins__" = some (.ref bm) ∧ bm ≠ builtinsNs ∧ s₁.heap.get? bm = some ob ∧ ob.cls = .type "module" ∧ ob.dict = some builtinsNs ∧ ob.data = .plain)
    (ha : s₁.heap.get? a = some { cls := .type "list", data := .seq vs.toArray }) (hi : IntsAre vs ns) (hl : ns.length ≤ 63) (hmg : mg "law" = some (.ref fa')) (c : Says17 w s₁.heap K) :
    codeAny (model prog17 w) callerA (.call (.ref fa') ⟨[.ref a], []⟩) (fun r s' => r = .ok (.ret (.bool true)) ∧ OldK s₁.heap s'.heap ∧ s'.os = s₁.os ∧ AllBare s'.gens) s₁ := by
  have D : Dn K mg dLaw := dn_ok c.x.t.d KX hns 23
  obtain ⟨fd, F⟩ := D.fn
  have e : He.fAd K dLaw.at_ = fa' := by
    have z := hmg.symm.trans D.gl
    injection z with z
    injection z with z
    exact z.symm
  rw [e] at F
  obtain ⟨oc, od, dV, kV, doc, pm, an, cdv, ct, osl, efd, lk, hcd, _, _⟩ := F.ex
  obtain ⟨c0, ec0⟩ := He.codeIn_ref hcd
  have hcode : fd.code = .ref c0 := by rw [efd, ec0]
  have lk' : K.lookup (He.fAd K ("law", none)) = some ⟨oc, od, .func fd, osl⟩ := by
    rw [← e] at lk
    exact lk
  have ecd : He.codeOf K ("law", none) = c0 := He.codeOf_eq lk' hcode
  have hm : (("law", none) : He.Defn) ∈ tf := List.mem_singleton.mpr rfl
  have h1 := c.x.hd _ hm
  have h2 := c.x.out _ hm
  have h3 := c.x.empty _ hm
  have e1 : (He.cT K ("law", none)).1 = c0 := ecd
  rw [e1] at h1
  exact law_call17 KX hns hb hbb hlim hg h3 h2 (PySem.W.codeHd_of_K KX h1) hbm ha hi hl F hcode fun base => law_ok c KX hns base
end
end K17

set_option Elab.async false
set_option linter.all false
set_option maxRecDepth 100000
set_option maxHeartbeats 0
set_option autoImplicit false
open PySem PySem.W PySem.Calls PyProof.Rows
theorem PySem.Challenge.cw_onebase_k17_whole_trees_there_and_back_holds : PySem.Challenge.rw_onebase_k17_whole_trees_there_and_back.Holds := by
  w_on; o_law
  refine HandSHeadRun.head_any (r := OpenLaw.row PySem.Challenge.rw_onebase_k17_whole_trees_there_and_back) (q := view (OpenLaw.row PySem.Challenge.rw_onebase_k17_whole_trees_there_and_back).prog [34]) (H := K17.hk) (ob := K17.ob) (M := 2500) (loose := K17.loose) (d := HandSHeadRun.topDef (OpenLaw.row PySem.Challenge.rw_onebase_k17_whole_trees_there_and_back).prog 34) (kwd := []) K17.ob_eq
    (by kernel_rfl) (fun s => by kernel_rfl) K17.run17 (by kernel_rfl) (by kernel_rfl) (by kernel_rfl) (by rfl) (by first | assumption | decide +kernel) (by decide +kernel) ⟨rfl, rfl, rfl, rfl, rfl, by decide +kernel⟩ ?hw ?hc
  case hw => w_witness2
  case hc =>
    refine Att.attach_callB (l := PySem.Challenge.rw_onebase_k17_whole_trees_there_and_back) (n := 63) rfl (by kernel_rfl) fun w s₀ s₁ mg mb fa o pm cd doc a vs ns G Y ho hd hcd hmg hobj hints hlen hbits hg => ?_
    obtain ⟨K, KX, c⟩ := Y
    have hmg' : mg ("law" : PySem.Str) = some (.ref fa) := by
      have e : (HandSHeadRun.topDef (OpenLaw.row PySem.Challenge.rw_onebase_k17_whole_trees_there_and_back).prog 34).name = ("law" : PySem.Str) := by kernel_rfl
      rw [← e]
      exact hmg
    exact K17.top_call KX G.T.g G.T.b G.T.builtins G.T.nolimit hg G.T.bmain hobj hints hlen hmg' c


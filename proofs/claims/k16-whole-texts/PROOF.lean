import PyProof.Rows.All
import Wide.All
import OpenK.AllK
import Wide.FinOn
import PyProof.EqAt
import PyProof.EqKinds
import PyProof.TupleCall
import PySem.Challenge.RW_surehouse_k16_whole_texts
import HandS.ForMost
import HandS.ForExc
import HandS.Deep
import HandS.Walk
import HandS.Zip
import HandS.IsInst
import HandS.RaiseMore
import HandS.TupAny
import HandS.DictComp
import HandS.More
import HandS.ExcInit
import HandS.ExcField
import HandS.Lambda
import HandS.EndTab
import HandS.Conv
import HandS.Flow
import KE.KDflt
import KE.KNestM
import KE.GoesEnum
import HandS.Style
import KE.KLam
set_option linter.all false
/-! The plain law, part 1: words, names, numbers, cutting and joining. No program in sight. -/
namespace Km
abbrev W := List Nat
def isSm (c : Nat) : Bool := decide (97 ≤ c) && decide (c ≤ 122)
def isFg (c : Nat) : Bool := decide (48 ≤ c) && decide (c ≤ 57)
def hdSm : W → Bool
  | c :: _ => isSm c
  | [] => false
def isName (w : W) : Bool := decide (1 ≤ w.length ∧ w.length ≤ 8) && hdSm w && w.all fun c => isSm c || isFg c
def val (w : W) : Nat := w.foldl (fun a c => a * 10 + (c - 48)) 0
def hd0 (w : W) : Bool := decide (w.head? = some 48) && !decide (w = [48])
def numOk (w : W) : Bool := decide (1 ≤ w.length ∧ w.length ≤ 3) && w.all isFg && !hd0 w
def numIn (w : W) (most : Int) : Int := if numOk w = true then (if (val w : Int) ≤ most then (val w : Int) else -1) else -1
def dig (n : Nat) : W := if n < 10 then [48 + n] else if n < 100 then [48 + n / 10, 48 + n % 10] else [48 + n / 100, 48 + n / 10 % 10, 48 + n % 10]

theorem isFg_iff {c : Nat} : isFg c = true ↔ 48 ≤ c ∧ c ≤ 57 := by simp [isFg]
theorem isSm_iff {c : Nat} : isSm c = true ↔ 97 ≤ c ∧ c ≤ 122 := by simp [isSm]
theorem dig_ok {n : Nat} (h : n < 1000) : numOk (dig n) = true ∧ val (dig n) = n := by
  unfold dig
  split
  · simp [numOk, val, hd0, isFg, List.foldl]
    omega
  · split
    · simp [numOk, val, hd0, isFg, List.foldl]
      omega
    · simp [numOk, val, hd0, isFg, List.foldl]
      omega
theorem numIn_dig {n : Nat} {m : Int} (h : n < 1000) (hm : (n : Int) ≤ m) : numIn (dig n) m = n := by
  obtain ⟨a, b⟩ := dig_ok h
  unfold numIn
  rw [if_pos a, b, if_pos hm]
theorem numOk_dig {w : W} (h : numOk w = true) : dig (val w) = w ∧ val w < 1000 := by
  simp only [numOk, Bool.and_eq_true, decide_eq_true_eq, List.all_eq_true, isFg_iff, Bool.not_eq_true', hd0] at h
  obtain ⟨⟨⟨h1, h2⟩, h3⟩, h4⟩ := h
  match w, h1, h2, h3, h4 with
  | [a], _, _, h3, _ =>
    have := h3 a (by simp)
    simp only [val, List.foldl]
    unfold dig
    rw [if_pos (by omega)]
    exact ⟨by congr 1; omega, by omega⟩
  | [a, b], _, _, h3, h4 =>
    have ha := h3 a (by simp)
    have hb := h3 b (by simp)
    have h0 : a ≠ 48 := by
      intro e
      subst e
      simp at h4
    simp only [val, List.foldl]
    unfold dig
    rw [if_neg (by omega), if_pos (by omega)]
    refine ⟨?_, by omega⟩
    have e1 : 48 + ((0 * 10 + (a - 48)) * 10 + (b - 48)) / 10 = a := by omega
    have e2 : 48 + ((0 * 10 + (a - 48)) * 10 + (b - 48)) % 10 = b := by omega
    rw [e1, e2]
  | [a, b, c], _, _, h3, h4 =>
    have ha := h3 a (by simp)
    have hb := h3 b (by simp)
    have hc := h3 c (by simp)
    have h0 : a ≠ 48 := by
      intro e
      subst e
      simp at h4
    simp only [val, List.foldl]
    unfold dig
    rw [if_neg (by omega), if_neg (by omega)]
    refine ⟨?_, by omega⟩
    have e1 : 48 + (((0 * 10 + (a - 48)) * 10 + (b - 48)) * 10 + (c - 48)) / 100 = a := by omega
    have e2 : 48 + (((0 * 10 + (a - 48)) * 10 + (b - 48)) * 10 + (c - 48)) / 10 % 10 = b := by omega
    have e3 : 48 + (((0 * 10 + (a - 48)) * 10 + (b - 48)) * 10 + (c - 48)) % 10 = c := by omega
    rw [e1, e2, e3]
theorem numIn_back {w : W} {m : Int} (h : 0 ≤ numIn w m) : numOk w = true ∧ numIn w m = val w ∧ (val w : Int) ≤ m := by
  unfold numIn at h ⊢
  by_cases a : numOk w = true
  · rw [if_pos a] at h ⊢
    by_cases b : (val w : Int) ≤ m
    · rw [if_pos b] at h ⊢
      exact ⟨a, rfl, b⟩
    · rw [if_neg b] at h
      omega
  · rw [if_neg a] at h
    omega
theorem dig_numIn {w : W} {m : Int} (h : 0 ≤ numIn w m) : dig (numIn w m).toNat = w ∧ numIn w m ≤ m := by
  obtain ⟨a, b, c⟩ := numIn_back h
  rw [b]
  exact ⟨(numOk_dig a).1, c⟩
theorem numIn_name {w : W} {m : Int} (h : isName w = true) : numIn w m = -1 := by
  have : numOk w = false := by
    match w, h with
    | [], h => rfl
    | c :: r, h =>
      simp only [isName, hdSm, Bool.and_eq_true, isSm_iff] at h
      have hc : isFg c = false := by
        simp only [isFg]
        have := h.1.2
        simp
        omega
      simp [numOk, hc]
  unfold numIn
  rw [if_neg (by rw [this]; exact Bool.false_ne_true)]

/-! ### cut and join -/
def splA (c : Nat) : W → W → List W
  | acc, [] => [acc]
  | acc, x :: r => if x = c then acc :: splA c [] r else splA c (acc ++ [x]) r
def jn (s : W) : List W → W
  | [] => []
  | [x] => x
  | x :: y :: r => x ++ s ++ jn s (y :: r)
theorem splA_mid (c : Nat) (b : W) : ∀ (a acc : W), splA c acc (a ++ c :: b) = splA c acc a ++ splA c [] b
  | [], acc => by simp [splA]
  | x :: a, acc => by
    by_cases h : x = c
    · subst h
      simp [splA, splA_mid x b a []]
    · simp [splA, h, splA_mid c b a (acc ++ [x])]
theorem splA_none (c : Nat) : ∀ (a acc : W), c ∉ a → splA c acc a = [acc ++ a]
  | [], acc, _ => by simp [splA]
  | x :: a, acc, h => by
    have h1 : x ≠ c := fun e => h (by simp [e])
    have h2 : c ∉ a := fun e => h (by simp [e])
    simp [splA, h1, splA_none c a (acc ++ [x]) h2]
theorem splA_jn (c : Nat) : ∀ {ps : List W}, ps ≠ [] → (∀ p ∈ ps, c ∉ p) → splA c [] (jn [c] ps) = ps
  | [], h, _ => absurd rfl h
  | [x], _, h => by
    have := splA_none c x [] (h x (by simp))
    simpa [jn] using this
  | x :: y :: r, _, h => by
    have ih := splA_jn c (ps := y :: r) (by simp) (fun p hp => h p (by simp at hp ⊢; exact Or.inr hp))
    have e : jn [c] (x :: y :: r) = x ++ c :: jn [c] (y :: r) := by simp [jn]
    rw [e, splA_mid, ih, splA_none c x [] (h x (by simp))]
    simp
def wordsOf (w : W) : List W := (splA 32 [] w).filter fun p => !decide (p = [])
theorem wordsOf_mid (a b : W) : wordsOf (a ++ 32 :: b) = wordsOf a ++ wordsOf b := by
  unfold wordsOf
  rw [splA_mid, List.filter_append]
theorem wordsOf_nil : wordsOf [] = [] := by decide
theorem wordsOf_sp (b : W) : wordsOf (32 :: b) = wordsOf b := by
  have := wordsOf_mid [] b
  rw [wordsOf_nil] at this
  simpa using this
theorem wordsOf_one {p : W} (h : 32 ∉ p) (h0 : p ≠ []) : wordsOf p = [p] := by
  unfold wordsOf
  rw [splA_none 32 p [] h]
  simp [h0]
theorem wordsOf_reps (n : Nat) (b : W) : wordsOf (List.replicate n 32 ++ b) = wordsOf b := by
  induction n with
  | zero => simp
  | succ n ih => rw [List.replicate_succ, List.cons_append, wordsOf_sp, ih]
theorem wordsOf_end (b : W) : wordsOf (b ++ [32]) = wordsOf b := by
  have := wordsOf_mid b []
  rw [wordsOf_nil] at this
  simpa using this
/-- a plain word: it is not void, and no blank stands in it -/
def PlainW (p : W) : Prop := p ≠ [] ∧ 32 ∉ p ∧ 10 ∉ p
theorem wordsOf_jn (s : W) : ∀ {ws : List W}, (∀ p ∈ ws, PlainW p) → wordsOf (jn (32 :: List.replicate s.length 32) ws) = ws
  | [], _ => wordsOf_nil
  | [x], h => wordsOf_one (h x (by simp)).2.1 (h x (by simp)).1
  | x :: y :: r, h => by
    have ih := wordsOf_jn s (ws := y :: r) (fun p hp => h p (by simp at hp ⊢; exact Or.inr hp))
    have e : jn (32 :: List.replicate s.length 32) (x :: y :: r) = x ++ 32 :: (List.replicate s.length 32 ++ jn (32 :: List.replicate s.length 32) (y :: r)) := by simp [jn]
    rw [e, wordsOf_mid, wordsOf_reps, ih, wordsOf_one (h x (by simp)).2.1 (h x (by simp)).1]
    simp
theorem wordsOf_jn1 {ws : List W} (h : ∀ p ∈ ws, PlainW p) : wordsOf (jn [32] ws) = ws := wordsOf_jn [] h
theorem wordsOf_jn3 {ws : List W} (h : ∀ p ∈ ws, PlainW p) : wordsOf (jn [32, 32, 32] ws) = ws := wordsOf_jn [0, 0] h
theorem jn_free {c : Nat} {s : W} (hs : c ∉ s) : ∀ {ps : List W}, (∀ p ∈ ps, c ∉ p) → c ∉ jn s ps
  | [], _ => by simp [jn]
  | [x], h => h x (by simp)
  | x :: y :: r, h => by
    have ih := jn_free hs (ps := y :: r) (fun p hp => h p (by simp at hp ⊢; exact Or.inr hp))
    have hx := h x (by simp)
    simp [jn, hs, hx, ih]
theorem dig_plain (n : Nat) : PlainW (dig n) := by
  unfold dig PlainW
  split
  · refine ⟨by simp, ?_, ?_⟩ <;> (simp only [List.mem_cons, List.mem_nil_iff, or_false]; omega)
  · split
    · refine ⟨by simp, ?_, ?_⟩ <;> (simp only [List.mem_cons, List.mem_nil_iff, or_false]; omega)
    · refine ⟨by simp, ?_, ?_⟩ <;> (simp only [List.mem_cons, List.mem_nil_iff, or_false]; omega)
theorem name_plain {w : W} (h : isName w = true) : PlainW w ∧ 47 ∉ w := by
  simp only [isName, Bool.and_eq_true, decide_eq_true_eq, List.all_eq_true, Bool.or_eq_true, isSm_iff, isFg_iff] at h
  refine ⟨⟨?_, ?_, ?_⟩, ?_⟩
  · intro e
    subst e
    simp at h
  · intro m
    have := h.2 _ m
    omega
  · intro m
    have := h.2 _ m
    omega
  · intro m
    have := h.2 _ m
    omega
end Km
set_option linter.all false
/-! The plain law, part 2: what the reader of catalogs does, row by row. -/
namespace Km
/-- a field of a row: a word or a number -/
inductive Fld where
  | inl (w : W)
  | inr (n : Int)
  deriving DecidableEq
abbrev Row := List Fld
/-- the rows that stand, by kind: 0 houses, 1 regions, 2 items, 3 lanes, 4 supplies -/
abbrev Ps := Nat → List Row
def ps0 : Ps := fun _ => []
def put (q : Ps) (k : Nat) (r : Row) : Ps := fun j => if j = k then q j ++ [r] else q j
def kw : Nat → W
  | 0 => [104, 111, 117, 115, 101]
  | 1 => [114, 101, 103, 105, 111, 110]
  | 2 => [105, 116, 101, 109]
  | 3 => [108, 97, 110, 101]
  | _ => [115, 117, 112, 112, 108, 121]
def kindOf (w : W) : Option Nat :=
  if w = kw 0 then some 0 else if w = kw 1 then some 1 else if w = kw 2 then some 2 else if w = kw 3 then some 3 else if w = kw 4 then some 4 else none
inductive FK where
  | new
  | old (k : Nat)
  | num (m : Int)
def form : Nat → List FK
  | 0 => [.new]
  | 1 => [.new]
  | 2 => [.new]
  | 3 => [.old 0, .old 1, .num 9, .num 9, .num 99]
  | _ => [.new, .old 0, .old 2, .num 60, .num 99]
def room : Nat → Nat
  | 0 => 5
  | 1 => 5
  | 2 => 5
  | 3 => 20
  | _ => 14
def nameOf : Row → W
  | .inl w :: _ => w
  | _ => []
def names (q : Ps) (k : Nat) : List W := (q k).map nameOf
def partM (q : Ps) (own : Nat) : FK → W → Option Fld
  | .new, w => if isName w = true ∧ w ∉ names q own then some (.inl w) else none
  | .old k, w => if w ∈ names q k then some (.inl w) else none
  | .num m, w => if numIn w m < 0 then none else some (.inr (numIn w m))
def less4 : Row → Bool
  | [_, _, .inr a, .inr b] => decide (b < a)
  | _ => false
def laneBad (q : Ps) (found : Row) : Bool := (decide (found.length = 2) && decide (found ∈ (q 3).map (List.take 2))) || (decide (found.length = 4) && less4 found)
def go (q : Ps) (own : Nat) : List FK → List W → Row → Nat → Except Nat Row
  | [], [], found, _ => .ok found
  | [], _ :: _, _, p => .error (p + 2)
  | _ :: _, [], _, p => .error (p + 2)
  | f :: fs, w :: ws, found, p => match partM q own f w with
    | none => .error (p + 2)
    | some x => if own = 3 ∧ laneBad q (found ++ [x]) = true then .error (p + 2) else go q own fs ws (found ++ [x]) (p + 1)
def readRow (q : Ps) : List W → Except Nat Ps
  | [] => .ok q
  | w :: as => match kindOf w with
    | none => .error 1
    | some k => if (q k).length = room k then .error 1 else match go q k (form k) as [] 0 with
      | .error e => .error e
      | .ok r => .ok (put q k r)
def readRows (q : Ps) : List (List W) → Nat → Except (Nat × Nat) Ps
  | [], _ => .ok q
  | ws :: r, n => match readRow q ws with
    | .error e => .error (n + 1, e)
    | .ok q' => readRows q' r (n + 1)
def lacks (q : Ps) : Bool := (q 0).isEmpty || (q 1).isEmpty || (q 2).isEmpty
def rowsOf (t : W) : List (List W) := (splA 10 [] t).map wordsOf
def readCat (t : W) : Except (Nat × Nat) Ps := match readRows ps0 (rowsOf t) 0 with
  | .error e => .error e
  | .ok q => if lacks q = true then .error ((rowsOf t).length + 1, 1) else .ok q
/-! ### the writer -/
def fText : Fld → W
  | .inl w => w
  | .inr n => dig n.toNat
def rowWs (k : Nat) (r : Row) : List W := kw k :: r.map fText
def lines (q : Ps) : List (List W) := (q 0).map (rowWs 0) ++ ((q 1).map (rowWs 1) ++ ((q 2).map (rowWs 2) ++ ((q 3).map (rowWs 3) ++ (q 4).map (rowWs 4))))
def writeCat (q : Ps) : W := jn [10] ((lines q).map (jn [32]))

/-! ### what it takes to append a row -/
def Ext (q : Ps) : Nat → Row → Prop
  | 3, r => ∃ h g a b p, r = [.inl h, .inl g, .inr a, .inr b, .inr p] ∧ h ∈ names q 0 ∧ g ∈ names q 1 ∧ 0 ≤ a ∧ a ≤ b ∧ b ≤ 9 ∧ 0 ≤ p ∧ p ≤ 99 ∧ ([.inl h, .inl g] : Row) ∉ (q 3).map (List.take 2)
  | 4, r => ∃ s h i d c, r = [.inl s, .inl h, .inl i, .inr d, .inr c] ∧ isName s = true ∧ s ∉ names q 4 ∧ h ∈ names q 0 ∧ i ∈ names q 2 ∧ 0 ≤ d ∧ d ≤ 60 ∧ 0 ≤ c ∧ c ≤ 99
  | k, r => ∃ w, r = [.inl w] ∧ isName w = true ∧ w ∉ names q k
theorem kindOf_kw {k : Nat} (h : k < 5) : kindOf (kw k) = some k := by
  match k, h with
  | 0, _ => decide
  | 1, _ => decide
  | 2, _ => decide
  | 3, _ => decide
  | 4, _ => decide
theorem kw_of {w : W} {k : Nat} (h : kindOf w = some k) : w = kw k ∧ k < 5 := by
  unfold kindOf at h
  split at h
  · cases h; exact ⟨by assumption, by omega⟩
  · split at h
    · cases h; exact ⟨by assumption, by omega⟩
    · split at h
      · cases h; exact ⟨by assumption, by omega⟩
      · split at h
        · cases h; exact ⟨by assumption, by omega⟩
        · split at h
          · cases h; exact ⟨by assumption, by omega⟩
          · cases h
theorem numIn_ge {n : Int} {m : Int} (h0 : 0 ≤ n) (h1 : n ≤ m) (hm : m < 1000) : numIn (dig n.toNat) m = n := by
  have e : ((n.toNat : Nat) : Int) = n := Int.toNat_of_nonneg h0
  have := numIn_dig (n := n.toNat) (m := m) (by omega) (by omega)
  rw [this, e]
theorem partM_num {q : Ps} {own : Nat} {n m : Int} (h0 : 0 ≤ n) (h1 : n ≤ m) (hm : m < 1000) : partM q own (.num m) (dig n.toNat) = some (.inr n) := by
  show (if numIn (dig n.toNat) m < 0 then none else some (.inr (numIn (dig n.toNat) m)) : Option Fld) = _
  rw [numIn_ge h0 h1 hm, if_neg (by omega)]
theorem partM_num_back {q : Ps} {own : Nat} {m : Int} {w : W} {x : Fld} (h : partM q own (.num m) w = some x) : ∃ n, x = .inr n ∧ 0 ≤ n ∧ n ≤ m ∧ w = dig n.toNat := by
  replace h : (if numIn w m < 0 then none else some (.inr (numIn w m)) : Option Fld) = some x := h
  split at h
  · cases h
  · rename_i hn
    obtain ⟨a, b⟩ := dig_numIn (w := w) (m := m) (by omega)
    cases h
    exact ⟨_, rfl, by omega, b, a.symm⟩
theorem partM_new_back {q : Ps} {own : Nat} {w : W} {x : Fld} (h : partM q own .new w = some x) : x = .inl w ∧ isName w = true ∧ w ∉ names q own := by
  replace h : (if isName w = true ∧ w ∉ names q own then some (.inl w) else none : Option Fld) = some x := h
  split at h
  · rename_i hn
    cases h
    exact ⟨rfl, hn⟩
  · cases h
theorem partM_old_back {q : Ps} {own k : Nat} {w : W} {x : Fld} (h : partM q own (.old k) w = some x) : x = .inl w ∧ w ∈ names q k := by
  replace h : (if w ∈ names q k then some (.inl w) else none : Option Fld) = some x := h
  split at h
  · rename_i hn
    cases h
    exact ⟨rfl, hn⟩
  · cases h
theorem partM_new {q : Ps} {own : Nat} {w : W} (h : isName w = true) (h2 : w ∉ names q own) : partM q own .new w = some (.inl w) := by
  show (if isName w = true ∧ w ∉ names q own then some (.inl w) else none : Option Fld) = _
  rw [if_pos ⟨h, h2⟩]
theorem partM_old {q : Ps} {own k : Nat} {w : W} (h : w ∈ names q k) : partM q own (.old k) w = some (.inl w) := by
  show (if w ∈ names q k then some (.inl w) else none : Option Fld) = _
  rw [if_pos h]
/-- one step of go, where the part is known -/
theorem go_step {q : Ps} {own : Nat} {f : FK} {fs : List FK} {w : W} {ws : List W} {found : Row} {p : Nat} {x : Fld} (h : partM q own f w = some x) (h2 : own = 3 → laneBad q (found ++ [x]) = false) : go q own (f :: fs) (w :: ws) found p = go q own fs ws (found ++ [x]) (p + 1) := by
  have e : go q own (f :: fs) (w :: ws) found p = match partM q own f w with
    | none => .error (p + 2)
    | some x => if own = 3 ∧ laneBad q (found ++ [x]) = true then .error (p + 2) else go q own fs ws (found ++ [x]) (p + 1) := rfl
  rw [e, h]
  dsimp only
  rw [if_neg]
  rintro ⟨a, b⟩
  rw [h2 a] at b
  cases b
theorem go_back {q : Ps} {own : Nat} {f : FK} {fs : List FK} {ws : List W} {found r : Row} {p : Nat} (h : go q own (f :: fs) ws found p = .ok r) : ∃ w ws' x, ws = w :: ws' ∧ partM q own f w = some x ∧ (own = 3 → laneBad q (found ++ [x]) = false) ∧ go q own fs ws' (found ++ [x]) (p + 1) = .ok r := by
  match ws, h with
  | [], h => cases h
  | w :: ws', h =>
    have e : go q own (f :: fs) (w :: ws') found p = match partM q own f w with
      | none => .error (p + 2)
      | some x => if own = 3 ∧ laneBad q (found ++ [x]) = true then .error (p + 2) else go q own fs ws' (found ++ [x]) (p + 1) := rfl
    rw [e] at h
    cases hx : partM q own f w with
    | none => rw [hx] at h; cases h
    | some x =>
      rw [hx] at h
      dsimp only at h
      split at h
      · cases h
      · rename_i hn
        refine ⟨w, ws', x, rfl, hx, fun ho => ?_, h⟩
        cases hl : laneBad q (found ++ [x]) with
        | false => rfl
        | true => exact absurd ⟨ho, hl⟩ hn
theorem go_end {q : Ps} {own : Nat} {ws : List W} {found r : Row} {p : Nat} (h : go q own [] ws found p = .ok r) : ws = [] ∧ r = found := by
  match ws, h with
  | [], h => cases h; exact ⟨rfl, rfl⟩
  | _ :: _, h => cases h
/-- a row that fits is read -/
theorem go_ext {q : Ps} {k : Nat} {r : Row} (hk : k < 5) (h : Ext q k r) : go q k (form k) (r.map fText) [] 0 = .ok r := by
  match k, hk, h with
  | 0, _, h =>
    obtain ⟨w, rfl, h1, h2⟩ := h
    show go q 0 [.new] [w] [] 0 = _
    rw [go_step (partM_new h1 h2) (by omega)]
    rfl
  | 1, _, h =>
    obtain ⟨w, rfl, h1, h2⟩ := h
    show go q 1 [.new] [w] [] 0 = _
    rw [go_step (partM_new h1 h2) (by omega)]
    rfl
  | 2, _, h =>
    obtain ⟨w, rfl, h1, h2⟩ := h
    show go q 2 [.new] [w] [] 0 = _
    rw [go_step (partM_new h1 h2) (by omega)]
    rfl
  | 3, _, h =>
    obtain ⟨u, g, a, b, p, rfl, h1, h2, h3, h4, h5, h6, h7, h8⟩ := h
    show go q 3 [.old 0, .old 1, .num 9, .num 9, .num 99] [u, g, dig a.toNat, dig b.toNat, dig p.toNat] [] 0 = _
    rw [go_step (partM_old h1) (by intro _; simp [laneBad])]
    rw [go_step (partM_old h2) (by intro _; simp [laneBad]; simpa using h8)]
    rw [go_step (partM_num h3 (by omega) (by omega)) (by intro _; simp [laneBad])]
    rw [go_step (partM_num (by omega) h5 (by omega)) (by intro _; simp [laneBad, less4]; omega)]
    rw [go_step (partM_num h6 h7 (by omega)) (by intro _; simp [laneBad])]
    rfl
  | 4, _, h =>
    obtain ⟨s, u, i, d, c, rfl, h1, h2, h3, h4, h5, h6, h7, h8⟩ := h
    show go q 4 [.new, .old 0, .old 2, .num 60, .num 99] [s, u, i, dig d.toNat, dig c.toNat] [] 0 = _
    rw [go_step (partM_new h1 h2) (by omega), go_step (partM_old h3) (by omega), go_step (partM_old h4) (by omega), go_step (partM_num h5 h6 (by omega)) (by omega), go_step (partM_num h7 h8 (by omega)) (by omega)]
    rfl
theorem go_ext_back {q : Ps} {k : Nat} {as : List W} {r : Row} (hk : k < 5) (h : go q k (form k) as [] 0 = .ok r) : Ext q k r ∧ as = r.map fText := by
  match k, hk, h with
  | 0, _, h =>
    obtain ⟨w, ws, x, rfl, h1, _, h⟩ := go_back (fs := []) h
    obtain ⟨rfl, rfl⟩ := go_end h
    obtain ⟨rfl, h2, h3⟩ := partM_new_back h1
    exact ⟨⟨w, rfl, h2, h3⟩, rfl⟩
  | 1, _, h =>
    obtain ⟨w, ws, x, rfl, h1, _, h⟩ := go_back (fs := []) h
    obtain ⟨rfl, rfl⟩ := go_end h
    obtain ⟨rfl, h2, h3⟩ := partM_new_back h1
    exact ⟨⟨w, rfl, h2, h3⟩, rfl⟩
  | 2, _, h =>
    obtain ⟨w, ws, x, rfl, h1, _, h⟩ := go_back (fs := []) h
    obtain ⟨rfl, rfl⟩ := go_end h
    obtain ⟨rfl, h2, h3⟩ := partM_new_back h1
    exact ⟨⟨w, rfl, h2, h3⟩, rfl⟩
  | 3, _, h =>
    obtain ⟨w0, ws0, x0, rfl, a0, _, h⟩ := go_back (fs := [.old 1, .num 9, .num 9, .num 99]) h
    obtain ⟨w1, ws1, x1, rfl, a1, b1, h⟩ := go_back h
    obtain ⟨w2, ws2, x2, rfl, a2, _, h⟩ := go_back h
    obtain ⟨w3, ws3, x3, rfl, a3, b3, h⟩ := go_back h
    obtain ⟨w4, ws4, x4, rfl, a4, _, h⟩ := go_back h
    obtain ⟨rfl, rfl⟩ := go_end h
    obtain ⟨rfl, c0⟩ := partM_old_back a0
    obtain ⟨rfl, c1⟩ := partM_old_back a1
    obtain ⟨n2, rfl, d2, e2, rfl⟩ := partM_num_back a2
    obtain ⟨n3, rfl, d3, e3, rfl⟩ := partM_num_back a3
    obtain ⟨n4, rfl, d4, e4, rfl⟩ := partM_num_back a4
    have b1 := b1 rfl
    have b3 := b3 rfl
    simp [laneBad] at b1
    simp [laneBad, less4] at b3
    exact ⟨⟨w0, w1, n2, n3, n4, rfl, c0, c1, d2, b3, e3, d4, e4, by simpa using b1⟩, rfl⟩
  | 4, _, h =>
    obtain ⟨w0, ws0, x0, rfl, a0, _, h⟩ := go_back (fs := [.old 0, .old 2, .num 60, .num 99]) h
    obtain ⟨w1, ws1, x1, rfl, a1, b1, h⟩ := go_back h
    obtain ⟨w2, ws2, x2, rfl, a2, _, h⟩ := go_back h
    obtain ⟨w3, ws3, x3, rfl, a3, b3, h⟩ := go_back h
    obtain ⟨w4, ws4, x4, rfl, a4, _, h⟩ := go_back h
    obtain ⟨rfl, rfl⟩ := go_end h
    obtain ⟨rfl, c0, c0'⟩ := partM_new_back a0
    obtain ⟨rfl, c1⟩ := partM_old_back a1
    obtain ⟨rfl, c2⟩ := partM_old_back a2
    obtain ⟨n3, rfl, d3, e3, rfl⟩ := partM_num_back a3
    obtain ⟨n4, rfl, d4, e4, rfl⟩ := partM_num_back a4
    exact ⟨⟨w0, w1, w2, n3, n4, rfl, c0, c0', c1, c2, d3, e3, d4, e4⟩, rfl⟩
theorem readRow_ext {q : Ps} {k : Nat} {r : Row} (hk : k < 5) (h : Ext q k r) (hr : (q k).length < room k) : readRow q (rowWs k r) = .ok (put q k r) := by
  show (match kindOf (kw k) with
    | none => .error 1
    | some k => if (q k).length = room k then .error 1 else match go q k (form k) (r.map fText) [] 0 with
      | .error e => .error e
      | .ok r => .ok (put q k r) : Except Nat Ps) = _
  rw [kindOf_kw hk]
  dsimp only
  rw [if_neg (by omega), go_ext hk h]
theorem readRow_back {q q' : Ps} {ws : List W} (h : readRow q ws = .ok q') (h0 : ws ≠ []) : ∃ k r, k < 5 ∧ ws = rowWs k r ∧ Ext q k r ∧ (q k).length ≠ room k ∧ q' = put q k r := by
  match ws, h0, h with
  | w :: as, _, h =>
    have e : readRow q (w :: as) = match kindOf w with
      | none => .error 1
      | some k => if (q k).length = room k then .error 1 else match go q k (form k) as [] 0 with
        | .error e => .error e
        | .ok r => .ok (put q k r) := rfl
    rw [e] at h
    cases hk : kindOf w with
    | none => rw [hk] at h; cases h
    | some k =>
      rw [hk] at h
      dsimp only at h
      obtain ⟨rfl, k5⟩ := kw_of hk
      split at h
      · cases h
      · rename_i hr
        cases hg : go q k (form k) as [] 0 with
        | error e => rw [hg] at h; cases h
        | ok r =>
          rw [hg] at h
          cases h
          obtain ⟨x, rfl⟩ := go_ext_back k5 hg
          exact ⟨k, r, k5, rfl, x, hr, rfl⟩
end Km
set_option linter.all false
/-! The plain law, part 3: what is read stays sound; the lines of a catalog are read back; a bent line. -/
namespace Km
structure Sound (q : Ps) : Prop where
  nm : ∀ k, k < 3 → ∀ r ∈ q k, ∃ w, r = [.inl w] ∧ isName w = true
  nd : ∀ k, k < 3 → (names q k).Nodup
  ln : ∀ r ∈ q 3, ∃ h g a b p, r = [.inl h, .inl g, .inr a, .inr b, .inr p] ∧ h ∈ names q 0 ∧ g ∈ names q 1 ∧ 0 ≤ a ∧ a ≤ b ∧ b ≤ 9 ∧ 0 ≤ p ∧ p ≤ 99
  lnd : ((q 3).map (List.take 2)).Nodup
  sp : ∀ r ∈ q 4, ∃ s h i d c, r = [.inl s, .inl h, .inl i, .inr d, .inr c] ∧ isName s = true ∧ h ∈ names q 0 ∧ i ∈ names q 2 ∧ 0 ≤ d ∧ d ≤ 60 ∧ 0 ≤ c ∧ c ≤ 99
  snd : (names q 4).Nodup
  rm : ∀ k, k < 5 → (q k).length ≤ room k
structure Valid (q : Ps) : Prop extends Sound q where
  ne : ∀ k, k < 3 → q k ≠ []
theorem Sound.names_ok {q : Ps} (S : Sound q) {k : Nat} (h : k < 3) : ∀ w ∈ names q k, isName w = true := fun w hw => by
  obtain ⟨r, hr, e⟩ := List.mem_map.mp hw
  obtain ⟨u, rfl, hu⟩ := S.nm k h r hr
  have : u = w := e
  rw [← this]
  exact hu
theorem sound0 : Sound ps0 where
  nm := fun k _ r h => by simp [ps0] at h
  nd := fun k _ => by simp [ps0, names]
  ln := fun r h => by simp [ps0] at h
  lnd := by simp [ps0]
  sp := fun r h => by simp [ps0] at h
  snd := by simp [ps0, names]
  rm := fun k _ => by simp [ps0]
theorem put_same (q : Ps) (k : Nat) (r : Row) : put q k r k = q k ++ [r] := by simp [put]
theorem put_ne (q : Ps) {k j : Nat} (r : Row) (h : j ≠ k) : put q k r j = q j := by simp [put, h]
theorem names_put_sub {q : Ps} {k : Nat} {r : Row} {j : Nat} {w : W} (h : w ∈ names q j) : w ∈ names (put q k r) j := by
  unfold names at h ⊢
  by_cases e : j = k
  · subst e
    rw [put_same, List.map_append]
    exact List.mem_append.mpr (.inl h)
  · rw [put_ne q r e]
    exact h
theorem names_put_same (q : Ps) (k : Nat) (r : Row) : names (put q k r) k = names q k ++ [nameOf r] := by
  unfold names
  rw [put_same, List.map_append]
  rfl
theorem names_put_ne (q : Ps) {k j : Nat} (r : Row) (h : j ≠ k) : names (put q k r) j = names q j := by
  unfold names
  rw [put_ne q r h]
theorem nodup_snoc {α : Type} {l : List α} {x : α} (h : l.Nodup) (hx : x ∉ l) : (l ++ [x]).Nodup := by
  rw [List.nodup_append]
  refine ⟨h, by simp, fun a ha b hb e => ?_⟩
  rw [List.mem_singleton] at hb
  subst hb
  subst e
  exact hx ha
theorem ext_new {q : Ps} {k : Nat} {r : Row} (hk : k < 3) (h : Ext q k r) : ∃ w, r = [.inl w] ∧ isName w = true ∧ w ∉ names q k := by
  match k, hk, h with
  | 0, _, h => exact h
  | 1, _, h => exact h
  | 2, _, h => exact h
theorem sound_put {q : Ps} {k : Nat} {r : Row} (S : Sound q) (hk : k < 5) (h : Ext q k r) (hr : (q k).length ≠ room k) : Sound (put q k r) := by
  refine ⟨fun j hj u hu => ?_, fun j hj => ?_, fun u hu => ?_, ?_, fun u hu => ?_, ?_, fun j hj => ?_⟩
  · by_cases e : j = k
    · subst e
      rw [put_same] at hu
      rcases List.mem_append.mp hu with hu | hu
      · exact S.nm j hj u hu
      · rw [List.mem_singleton] at hu
        subst hu
        obtain ⟨w, rfl, h1, _⟩ := ext_new hj h
        exact ⟨w, rfl, h1⟩
    · rw [put_ne q r e] at hu
      exact S.nm j hj u hu
  · by_cases e : j = k
    · subst e
      rw [names_put_same]
      obtain ⟨w, rfl, _, h2⟩ := ext_new hj h
      exact nodup_snoc (S.nd j hj) h2
    · rw [names_put_ne q r e]
      exact S.nd j hj
  · have old : u ∈ q 3 → ∃ h g a b p, u = [.inl h, .inl g, .inr a, .inr b, .inr p] ∧ h ∈ names (put q k r) 0 ∧ g ∈ names (put q k r) 1 ∧ 0 ≤ a ∧ a ≤ b ∧ b ≤ 9 ∧ 0 ≤ p ∧ p ≤ 99 := fun hu => by
      obtain ⟨x, g, a, b, p, e, h1, h2, h3⟩ := S.ln u hu
      exact ⟨x, g, a, b, p, e, names_put_sub h1, names_put_sub h2, h3⟩
    by_cases e : 3 = k
    · subst e
      rw [put_same] at hu
      rcases List.mem_append.mp hu with hu | hu
      · exact old hu
      · rw [List.mem_singleton] at hu
        subst hu
        obtain ⟨x, g, a, b, p, e, h1, h2, h3, h4, h5, h6, h7, _⟩ := h
        exact ⟨x, g, a, b, p, e, names_put_sub h1, names_put_sub h2, h3, h4, h5, h6, h7⟩
    · rw [put_ne q r e] at hu
      exact old hu
  · by_cases e : 3 = k
    · subst e
      rw [put_same, List.map_append]
      obtain ⟨x, g, a, b, p, rfl, _, _, _, _, _, _, _, h8⟩ := h
      exact nodup_snoc S.lnd h8
    · rw [put_ne q r e]
      exact S.lnd
  · have old : u ∈ q 4 → ∃ s h i d c, u = [.inl s, .inl h, .inl i, .inr d, .inr c] ∧ isName s = true ∧ h ∈ names (put q k r) 0 ∧ i ∈ names (put q k r) 2 ∧ 0 ≤ d ∧ d ≤ 60 ∧ 0 ≤ c ∧ c ≤ 99 := fun hu => by
      obtain ⟨x, g, a, b, p, e, h0, h1, h2, h3⟩ := S.sp u hu
      exact ⟨x, g, a, b, p, e, h0, names_put_sub h1, names_put_sub h2, h3⟩
    by_cases e : 4 = k
    · subst e
      rw [put_same] at hu
      rcases List.mem_append.mp hu with hu | hu
      · exact old hu
      · rw [List.mem_singleton] at hu
        subst hu
        obtain ⟨x, g, a, b, p, e, h0, _, h1, h2, h3⟩ := h
        exact ⟨x, g, a, b, p, e, h0, names_put_sub h1, names_put_sub h2, h3⟩
    · rw [put_ne q r e] at hu
      exact old hu
  · by_cases e : 4 = k
    · subst e
      rw [names_put_same]
      obtain ⟨x, g, a, b, p, rfl, _, h2, _⟩ := h
      exact nodup_snoc S.snd h2
    · rw [names_put_ne q r e]
      exact S.snd
  · by_cases e : j = k
    · subst e
      rw [put_same, List.length_append]
      have := S.rm j hj
      simp
      omega
    · rw [put_ne q r e]
      exact S.rm j hj

/-! ### reading many rows -/
theorem readRows_nil (q : Ps) (n : Nat) : readRows q [] n = .ok q := rfl
theorem readRows_cons (q : Ps) (ws : List W) (r : List (List W)) (n : Nat) : readRows q (ws :: r) n = match readRow q ws with
    | .error e => .error (n + 1, e)
    | .ok q' => readRows q' r (n + 1) := rfl
theorem readRows_ok {q q' : Ps} {ws : List W} {r : List (List W)} {n : Nat} (h : readRow q ws = .ok q') : readRows q (ws :: r) n = readRows q' r (n + 1) := by
  rw [readRows_cons, h]
theorem readRows_app (B : List (List W)) : ∀ (A : List (List W)) (q q' : Ps) (n : Nat), readRows q A n = .ok q' → readRows q (A ++ B) n = readRows q' B (n + A.length)
  | [], q, q', n, h => by
    cases h
    rfl
  | ws :: A, q, q', n, h => by
    rw [readRows_cons] at h
    rw [List.cons_append, readRows_cons]
    cases hx : readRow q ws with
    | error e => rw [hx] at h; cases h
    | ok q1 =>
      rw [hx] at h
      have := readRows_app B A q1 q' (n + 1) h
      dsimp only
      rw [this, List.length_cons]
      congr 1
      omega
theorem readRows_split {q q' : Ps} : ∀ {A B : List (List W)} {n : Nat}, readRows q (A ++ B) n = .ok q' → ∃ q1, readRows q A n = .ok q1 ∧ readRows q1 B (n + A.length) = .ok q'
  | [], B, n, h => ⟨q, rfl, h⟩
  | ws :: A, B, n, h => by
    rw [List.cons_append, readRows_cons] at h
    rw [readRows_cons]
    cases hx : readRow q ws with
    | error e => rw [hx] at h; cases h
    | ok q2 =>
      rw [hx] at h
      obtain ⟨q1, h1, h2⟩ := readRows_split (q := q2) (A := A) (B := B) h
      exact ⟨q1, h1, by rw [List.length_cons, show n + (A.length + 1) = n + 1 + A.length by omega]; exact h2⟩
theorem readRows_line : ∀ {L : List (List W)} {q : Ps} {n l e : Nat}, readRows q L n = .error (l, e) → n + 1 ≤ l
  | [], q, n, l, e, h => by cases h
  | ws :: L, q, n, l, e, h => by
    rw [readRows_cons] at h
    cases hx : readRow q ws with
    | error e' => rw [hx] at h; cases h; exact Nat.le_refl _
    | ok q2 =>
      rw [hx] at h
      have := readRows_line (L := L) h
      omega
/-- void rows are passed over -/
theorem readRows_void : ∀ (M : List (List W)) (q q' : Ps) (n m : Nat), readRows q (M.filter fun p => !decide (p = [])) n = .ok q' → readRows q M m = .ok q'
  | [], q, q', n, m, h => h
  | ws :: M, q, q', n, m, h => by
    by_cases e : ws = []
    · subst e
      rw [readRows_ok (q' := q) rfl]
      exact readRows_void M q q' n (m + 1) (by simpa using h)
    · have e' : (ws :: M).filter (fun p => !decide (p = [])) = ws :: M.filter (fun p => !decide (p = [])) := by simp [e]
      rw [e', readRows_cons] at h
      rw [readRows_cons]
      cases hx : readRow q ws with
      | error e' => rw [hx] at h; cases h
      | ok q2 =>
        rw [hx] at h
        exact readRows_void M q2 q' (n + 1) (m + 1) h

/-! ### a catalog's own lines are read back -/
def setK (q : Ps) (k : Nat) (v : List Row) : Ps := fun j => if j = k then v else q j
theorem setK_same (q : Ps) (k : Nat) (v : List Row) : setK q k v k = v := by simp [setK]
theorem setK_ne (q : Ps) {k j : Nat} (v : List Row) (h : j ≠ k) : setK q k v j = q j := by simp [setK, h]
theorem put_setK (q : Ps) (k : Nat) (v : List Row) (r : Row) : put (setK q k v) k r = setK q k (v ++ [r]) := by
  funext j
  by_cases e : j = k
  · subst e
    rw [put_same, setK_same, setK_same]
  · rw [put_ne _ _ e, setK_ne q _ e, setK_ne q _ e]
theorem setK_self (q : Ps) (k : Nat) : setK q k (q k) = q := by
  funext j
  by_cases e : j = k
  · subst e
    rw [setK_same]
  · rw [setK_ne q _ e]
theorem stage {k : Nat} (hk : k < 5) (q : Ps) : ∀ (L A : List Row) (n : Nat), (∀ B r C, A ++ L = B ++ r :: C → A.length ≤ B.length → Ext (setK q k B) k r ∧ B.length < room k) →
    readRows (setK q k A) (L.map (rowWs k)) n = .ok (setK q k (A ++ L))
  | [], A, n, _ => by rw [List.append_nil]; rfl
  | r :: L, A, n, h => by
    obtain ⟨h1, h2⟩ := h A r L rfl (Nat.le_refl _)
    rw [List.map_cons, readRows_ok (readRow_ext hk h1 (by rw [setK_same]; exact h2)), put_setK]
    have := stage hk q L (A ++ [r]) (n + 1) (fun B r' C e hl => h B r' C (by rw [← e, List.append_assoc]; rfl) (by rw [List.length_append] at hl; simp at hl; omega))
    rw [this, List.append_assoc]
    rfl
theorem names_setK_same (q : Ps) (k : Nat) (v : List Row) : names (setK q k v) k = v.map nameOf := by unfold names; rw [setK_same]
theorem names_setK_ne (q : Ps) {k j : Nat} (v : List Row) (h : j ≠ k) : names (setK q k v) j = names q j := by unfold names; rw [setK_ne q v h]
/-- the catalog up to a kind -/
def upTo (q : Ps) (n : Nat) : Ps := fun j => if j < n then q j else []
theorem upTo_setK (q : Ps) (k : Nat) : setK (upTo q k) k (q k) = upTo q (k + 1) := by
  funext j
  unfold setK upTo
  by_cases e : j = k
  · subst e
    rw [if_pos rfl, if_pos (by omega)]
  · rw [if_neg e]
    by_cases h : j < k
    · rw [if_pos h, if_pos (by omega)]
    · rw [if_neg h, if_neg (by omega)]
theorem setK_upTo_nil (q : Ps) (k : Nat) : setK (upTo q k) k [] = upTo q k := by
  funext j
  unfold setK upTo
  by_cases e : j = k
  · subst e
    rw [if_pos rfl, if_neg (by omega)]
  · rw [if_neg e]
theorem names_upTo {q : Ps} {n j : Nat} (h : j < n) : names (upTo q n) j = names q j := by
  unfold names upTo
  rw [if_pos h]
theorem ext_of {q : Ps} (S : Sound q) {k : Nat} (hk : k < 5) {B C : List Row} {r : Row} (e : q k = B ++ r :: C) : Ext (setK (upTo q k) k B) k r ∧ B.length < room k := by
  have hr : r ∈ q k := by rw [e]; simp
  have hl : B.length < room k := by
    have := S.rm k hk
    rw [e, List.length_append, List.length_cons] at this
    omega
  refine ⟨?_, hl⟩
  have newN : k < 3 → ∃ w, r = [.inl w] ∧ isName w = true ∧ w ∉ names (setK (upTo q k) k B) k := fun h3 => by
    obtain ⟨w, rfl, hw⟩ := S.nm k h3 r hr
    have nd := S.nd k h3
    unfold names at nd
    rw [e, List.map_append, List.map_cons, List.nodup_append] at nd
    refine ⟨w, rfl, hw, fun hm => ?_⟩
    rw [names_setK_same] at hm
    exact nd.2.2 w hm w (by simp [nameOf]) rfl
  match k, hk, e, hr, newN with
  | 0, _, _, _, newN => exact newN (by omega)
  | 1, _, _, _, newN => exact newN (by omega)
  | 2, _, _, _, newN => exact newN (by omega)
  | 3, _, e, hr, _ =>
    obtain ⟨h, g, a, b, p, rfl, h1, h2, h3, h4, h5, h6, h7⟩ := S.ln r hr
    refine ⟨h, g, a, b, p, rfl, ?_, ?_, h3, h4, h5, h6, h7, ?_⟩
    · rw [names_setK_ne _ _ (by omega), names_upTo (by omega)]
      exact h1
    · rw [names_setK_ne _ _ (by omega), names_upTo (by omega)]
      exact h2
    · rw [setK_same]
      intro hm
      have nd := S.lnd
      rw [e, List.map_append, List.map_cons, List.nodup_append] at nd
      exact nd.2.2 _ hm _ (List.mem_cons_self) rfl
  | 4, _, e, hr, _ =>
    obtain ⟨s, h, i, d, c, rfl, h0, h1, h2, h3⟩ := S.sp r hr
    refine ⟨s, h, i, d, c, rfl, h0, ?_, ?_, ?_, h3⟩
    · intro hm
      rw [names_setK_same] at hm
      have nd := S.snd
      unfold names at nd
      rw [e, List.map_append, List.map_cons, List.nodup_append] at nd
      exact nd.2.2 _ hm _ (List.mem_cons_self) rfl
    · rw [names_setK_ne _ _ (by omega), names_upTo (by omega)]
      exact h1
    · rw [names_setK_ne _ _ (by omega), names_upTo (by omega)]
      exact h2
theorem stage_of {q : Ps} (S : Sound q) {k : Nat} (hk : k < 5) (n : Nat) : readRows (upTo q k) ((q k).map (rowWs k)) n = .ok (upTo q (k + 1)) := by
  have h := stage hk (upTo q k) (q k) [] n (fun B r C e _ => ext_of S hk (by simpa using e))
  rw [setK_upTo_nil, List.nil_append, upTo_setK] at h
  exact h
theorem read_lines {q : Ps} (S : Sound q) (n : Nat) : readRows ps0 (lines q) n = .ok (upTo q 5) := by
  have e0 : upTo q 0 = ps0 := by
    funext j
    unfold upTo ps0
    rw [if_neg (by omega)]
  unfold lines
  rw [← e0, readRows_app _ _ _ _ _ (stage_of S (k := 0) (by omega) n), readRows_app _ _ _ _ _ (stage_of S (k := 1) (by omega) _), readRows_app _ _ _ _ _ (stage_of S (k := 2) (by omega) _),
    readRows_app _ _ _ _ _ (stage_of S (k := 3) (by omega) _), stage_of S (k := 4) (by omega)]

/-! ### what was read, written again -/
def putAll (q : Ps) : List (Nat × Row) → Ps
  | [] => q
  | (k, r) :: s => putAll (put q k r) s
theorem putAll_at : ∀ (s : List (Nat × Row)) (q : Ps) (j : Nat), putAll q s j = q j ++ (s.filter fun p => p.1 == j).map (·.2)
  | [], q, j => by simp [putAll]
  | (k, r) :: s, q, j => by
    show putAll (put q k r) s j = _
    rw [putAll_at s (put q k r) j]
    by_cases e : k = j
    · subst e
      rw [put_same]
      simp
    · rw [put_ne q r (fun h => e h.symm)]
      simp [e]
theorem readRows_back : ∀ {L : List (List W)} {q q' : Ps} {n : Nat}, readRows q L n = .ok q' → (∀ ws ∈ L, ws ≠ []) → Sound q → Sound q' ∧ ∃ s : List (Nat × Row), L = s.map (fun p => rowWs p.1 p.2) ∧ (∀ p ∈ s, p.1 < 5) ∧ q' = putAll q s
  | [], q, q', n, h, _, S => by
    cases h
    exact ⟨S, [], rfl, by simp, rfl⟩
  | ws :: L, q, q', n, h, h0, S => by
    rw [readRows_cons] at h
    cases hx : readRow q ws with
    | error e => rw [hx] at h; cases h
    | ok q1 =>
      rw [hx] at h
      obtain ⟨k, r, hk, rfl, x, hr, rfl⟩ := readRow_back hx (h0 ws (by simp))
      obtain ⟨S', s, e1, e2, e3⟩ := readRows_back h (fun u hu => h0 u (by simp [hu])) (sound_put S hk x hr)
      refine ⟨S', (k, r) :: s, by rw [List.map_cons, ← e1], fun p hp => ?_, e3⟩
      rcases List.mem_cons.mp hp with rfl | hp
      · exact hk
      · exact e2 p hp
theorem sorted_parts : ∀ {s : List (Nat × Row)}, (s.map (·.1)).Pairwise (· ≤ ·) → (∀ p ∈ s, p.1 < 5) →
    (s.filter fun p => p.1 == 0) ++ ((s.filter fun p => p.1 == 1) ++ ((s.filter fun p => p.1 == 2) ++ ((s.filter fun p => p.1 == 3) ++ s.filter fun p => p.1 == 4))) = s
  | [], _, _ => rfl
  | (k, r) :: s, h, h5 => by
    rw [List.map_cons, List.pairwise_cons] at h
    obtain ⟨h1, h2⟩ := h
    have ih := sorted_parts h2 (fun p hp => h5 p (by simp [hp]))
    have hk : k < 5 := h5 (k, r) (by simp)
    have none_ : ∀ j, j < k → (s.filter fun p => p.1 == j) = [] := fun j hj => by
      rw [List.filter_eq_nil_iff]
      intro p hp
      have := h1 p.1 (List.mem_map.mpr ⟨p, hp, rfl⟩)
      simp
      omega
    match k, hk, none_ with
    | 0, _, _ => simpa using ih
    | 1, _, no =>
      rw [no 0 (by omega)] at ih
      simpa [no 0 (by omega)] using ih
    | 2, _, no =>
      rw [no 0 (by omega), no 1 (by omega)] at ih
      simpa [no 0 (by omega), no 1 (by omega)] using ih
    | 3, _, no =>
      rw [no 0 (by omega), no 1 (by omega), no 2 (by omega)] at ih
      simpa [no 0 (by omega), no 1 (by omega), no 2 (by omega)] using ih
    | 4, _, no =>
      rw [no 0 (by omega), no 1 (by omega), no 2 (by omega), no 3 (by omega)] at ih
      simpa [no 0 (by omega), no 1 (by omega), no 2 (by omega), no 3 (by omega)] using ih
theorem map_kind (s : List (Nat × Row)) (j : Nat) : ((s.filter fun p => p.1 == j).map (·.2)).map (rowWs j) = (s.filter fun p => p.1 == j).map (fun p => rowWs p.1 p.2) := by
  rw [List.map_map]
  refine List.map_congr_left fun p hp => ?_
  have := (List.mem_filter.mp hp).2
  simp at this
  simp [this]
theorem lines_putAll {s : List (Nat × Row)} (h : (s.map (·.1)).Pairwise (· ≤ ·)) (h5 : ∀ p ∈ s, p.1 < 5) : lines (putAll ps0 s) = s.map (fun p => rowWs p.1 p.2) := by
  have e : ∀ j, putAll ps0 s j = (s.filter fun p => p.1 == j).map (·.2) := fun j => by
    rw [putAll_at]
    rfl
  unfold lines
  rw [e 0, e 1, e 2, e 3, e 4, map_kind, map_kind, map_kind, map_kind, map_kind, ← List.map_append, ← List.map_append, ← List.map_append, ← List.map_append, sorted_parts h h5]
/-- the kind of a row's words -/
def kd (ws : List W) : Nat := (kindOf (ws.headD [])).getD 9
theorem kd_row {k : Nat} (r : Row) (h : k < 5) : kd (rowWs k r) = k := by
  unfold kd rowWs
  rw [List.headD_cons, kindOf_kw h]
  rfl
theorem kd_rows {s : List (Nat × Row)} (h : ∀ p ∈ s, p.1 < 5) : (s.map (fun p => rowWs p.1 p.2)).map kd = s.map (·.1) := by
  rw [List.map_map]
  exact List.map_congr_left fun p hp => kd_row p.2 (h p hp)
theorem kd_const {k : Nat} (hk : k < 5) (L : List Row) : (L.map (rowWs k)).map kd = List.replicate L.length k := by
  induction L with
  | nil => rfl
  | cons r L ih => rw [List.map_cons, List.map_cons, ih, kd_row r hk]; rfl
theorem kd_lines (q : Ps) : ((lines q).map kd).Pairwise (· ≤ ·) := by
  unfold lines
  rw [List.map_append, List.map_append, List.map_append, List.map_append, kd_const (by omega), kd_const (by omega), kd_const (by omega), kd_const (by omega), kd_const (by omega)]
  have one : ∀ (n k : Nat), (List.replicate n k).Pairwise (· ≤ ·) := fun n k => List.pairwise_replicate.mpr (.inr (Nat.le_refl k))
  refine List.pairwise_append.mpr ⟨one _ _, List.pairwise_append.mpr ⟨one _ _, List.pairwise_append.mpr ⟨one _ _, List.pairwise_append.mpr ⟨one _ _, one _ _, ?_⟩, ?_⟩, ?_⟩, ?_⟩
  · intro a ha b hb
    have := (List.mem_replicate.mp ha).2
    have := (List.mem_replicate.mp hb).2
    omega
  · intro a ha b hb
    have := (List.mem_replicate.mp ha).2
    simp only [List.mem_append, List.mem_replicate] at hb
    omega
  · intro a ha b hb
    have := (List.mem_replicate.mp ha).2
    simp only [List.mem_append, List.mem_replicate] at hb
    omega
  · intro a ha b hb
    have := (List.mem_replicate.mp ha).2
    simp only [List.mem_append, List.mem_replicate] at hb
    omega
end Km
set_option linter.all false
/-! The plain law, part 4: orders as texts. -/
namespace Km
abbrev Wish := List W × Int
structure Ord where
  name : W
  region : W
  wishes : List Wish
  day : Int
  worth : Int
  deriving DecidableEq
def fitsW (items : List W) (its : List W) : Bool := decide (1 ≤ its.length ∧ its.length ≤ 3) && its.all fun i => decide (i ∈ items)
def wishesM (items : List W) : List W → List Wish → Nat → Except Nat (List Wish)
  | [], found, p => if found = [] then .error (p + 1) else .ok found
  | [w], found, p => if fitsW items (splA 47 [] w) = true ∧ found.length ≠ 3 ∧ (splA 47 [] w).Nodup then .error (p + 2) else .error (p + 1)
  | w :: c :: ws, found, p => if fitsW items (splA 47 [] w) = true ∧ found.length ≠ 3 ∧ (splA 47 [] w).Nodup then
      (if numIn c 99 < 1 then .error (p + 2) else wishesM items ws (found ++ [(splA 47 [] w, numIn c 99)]) (p + 2)) else .error (p + 1)
def readOrdW (regs items : List W) : List W → Except Nat Ord
  | [] => .error 1
  | [n] => if isName n = true then .error 2 else .error 1
  | [n, g] => if isName n = true then (if g ∈ regs then .error 3 else .error 2) else .error 1
  | [n, g, b] => if isName n = true then (if g ∈ regs then (if numIn b 60 < 0 then .error 3 else .error 4) else .error 2) else .error 1
  | n :: g :: b :: o :: ws => if isName n = true then (if g ∈ regs then (if numIn b 60 < 0 then .error 3 else (if numIn o 999 < 0 then .error 4 else match wishesM items ws [] 4 with
      | .error e => .error e
      | .ok us => .ok ⟨n, g, us, numIn b 60, numIn o 999⟩)) else .error 2) else .error 1
def readOrd (regs items : List W) (t : W) : Except Nat Ord := readOrdW regs items (wordsOf t)
def wishWs (u : Wish) : List W := [jn [47] u.1, dig u.2.toNat]
def ordWs (o : Ord) : List W := [o.name, o.region, dig o.day.toNat, dig o.worth.toNat] ++ o.wishes.flatMap wishWs
def ordText (o : Ord) : W := jn [32] (ordWs o)
structure OkWish (items : List W) (u : Wish) : Prop where
  n1 : 1 ≤ u.1.length
  n3 : u.1.length ≤ 3
  nm : ∀ i ∈ u.1, isName i = true
  mem : ∀ i ∈ u.1, i ∈ items
  nd : u.1.Nodup
  c1 : 1 ≤ u.2
  c99 : u.2 ≤ 99
structure OkOrd (regs items : List W) (o : Ord) : Prop where
  nm : isName o.name = true
  rnm : isName o.region = true
  reg : o.region ∈ regs
  w1 : 1 ≤ o.wishes.length
  w3 : o.wishes.length ≤ 3
  ws : ∀ u ∈ o.wishes, OkWish items u
  d0 : 0 ≤ o.day
  d1 : o.day ≤ 60
  v0 : 0 ≤ o.worth
  v1 : o.worth ≤ 999
theorem okWish_spl {items : List W} {u : Wish} (h : OkWish items u) : splA 47 [] (jn [47] u.1) = u.1 := splA_jn 47 (List.length_pos_iff.mp (by have := h.n1; omega)) fun p hp => (name_plain (h.nm p hp)).2
theorem okWish_fits {items : List W} {u : Wish} (h : OkWish items u) : fitsW items u.1 = true := by
  unfold fitsW
  rw [decide_eq_true ⟨h.n1, h.n3⟩, Bool.true_and, List.all_eq_true]
  exact fun i hi => decide_eq_true (h.mem i hi)
theorem wishes_back {items : List W} : ∀ {us found : List Wish} {p : Nat}, (∀ u ∈ us, OkWish items u) → found.length + us.length ≤ 3 → found ++ us ≠ [] → wishesM items (us.flatMap wishWs) found p = .ok (found ++ us)
  | [], found, p, _, _, h => by
    rw [List.append_nil] at h ⊢
    show (if found = [] then .error (p + 1) else .ok found : Except Nat (List Wish)) = _
    rw [if_neg h]
  | u :: us, found, p, h, hl, _ => by
    have hu := h u (by simp)
    rw [List.length_cons] at hl
    show (if fitsW items (splA 47 [] (jn [47] u.1)) = true ∧ found.length ≠ 3 ∧ (splA 47 [] (jn [47] u.1)).Nodup then
      (if numIn (dig u.2.toNat) 99 < 1 then .error (p + 2) else wishesM items (us.flatMap wishWs) (found ++ [(splA 47 [] (jn [47] u.1), numIn (dig u.2.toNat) 99)]) (p + 2)) else .error (p + 1) : Except Nat (List Wish)) = _
    have := hu.c1
    have := hu.c99
    rw [okWish_spl hu, if_pos ⟨okWish_fits hu, by omega, hu.nd⟩, numIn_ge (by omega) (by omega) (by omega), if_neg (by omega)]
    have ih := wishes_back (us := us) (found := found ++ [(u.1, u.2)]) (p := p + 2) (fun v hv => h v (by simp [hv])) (by rw [List.length_append]; simp; omega) (by simp)
    rw [ih, List.append_assoc]
    rfl
theorem ord_plain {regs items : List W} {o : Ord} (h : OkOrd regs items o) : ∀ p ∈ ordWs o, PlainW p := by
  intro p hp
  unfold ordWs at hp
  rw [List.mem_append] at hp
  rcases hp with hp | hp
  · simp only [List.mem_cons, List.mem_nil_iff, or_false] at hp
    rcases hp with rfl | rfl | rfl | rfl
    · exact (name_plain h.nm).1
    · exact (name_plain h.rnm).1
    · exact dig_plain _
    · exact dig_plain _
  · obtain ⟨u, hu, hp⟩ := List.mem_flatMap.mp hp
    have hu := h.ws u hu
    simp only [wishWs, List.mem_cons, List.mem_nil_iff, or_false] at hp
    rcases hp with rfl | rfl
    · refine ⟨?_, jn_free (by decide) fun q hq => (name_plain (hu.nm q hq)).1.2.1, jn_free (by decide) fun q hq => (name_plain (hu.nm q hq)).1.2.2⟩
      intro e
      have h1 := okWish_spl hu
      rw [e] at h1
      have h2 : u.1 = [[]] := h1.symm
      have h3 := hu.nm [] (by rw [h2]; simp)
      simp [isName] at h3
    · exact dig_plain _
theorem ord_back {regs items : List W} {o : Ord} (h : OkOrd regs items o) : readOrd regs items (ordText o) = .ok o := by
  unfold readOrd ordText
  rw [wordsOf_jn1 (ord_plain h)]
  show (if isName o.name = true then (if o.region ∈ regs then (if numIn (dig o.day.toNat) 60 < 0 then .error 3 else (if numIn (dig o.worth.toNat) 999 < 0 then .error 4 else match wishesM items (o.wishes.flatMap wishWs) [] 4 with
      | .error e => .error e
      | .ok us => .ok ⟨o.name, o.region, us, numIn (dig o.day.toNat) 60, numIn (dig o.worth.toNat) 999⟩)) else .error 2) else .error 1 : Except Nat Ord) = _
  have hd1 := h.d1
  have hv1 := h.v1
  have hd0 := h.d0
  have hv0 := h.v0
  have w1 := h.w1
  have w3 := h.w3
  rw [if_pos h.nm, if_pos h.reg, numIn_ge h.d0 hd1 (by omega), if_neg (by omega), numIn_ge h.v0 hv1 (by omega), if_neg (by omega),
    wishes_back h.ws (by simpa using w3) (by rw [List.nil_append]; exact List.length_pos_iff.mp (by omega))]
  rfl
/-! ### the small texts -/
def ra : W := [114, 97]
def rb : W := [114, 98]
def tea : W := [116, 101, 97]
def pot : W := [112, 111, 116]
def cup : W := [99, 117, 112]
def errIs {α : Type} (x : Except Nat α) (n : Nat) : Bool := match x with
  | .error e => e == n
  | .ok _ => false
/-- the law's ten texts, each with the word that is wrong in it -/
def someTexts : List (W × Nat) := [([], 1), ([79], 1), ([111, 32, 110, 111, 110, 101], 2), ([111, 32] ++ ra, 3), ([111, 32] ++ ra ++ [32, 54, 49], 3), ([111, 32] ++ ra ++ [32, 49, 32, 49], 5), ([111, 32] ++ ra ++ [32, 49, 32, 49, 32] ++ tea, 6),
  ([111, 32] ++ ra ++ [32, 49, 32, 49, 32] ++ tea ++ [32, 48], 6), ([111, 32] ++ ra ++ [32, 49, 32, 49, 32] ++ tea ++ [47] ++ tea ++ [32, 49], 5), ([111, 32] ++ ra ++ [32, 49, 32, 49, 32] ++ tea ++ [32, 49, 32, 110, 111, 32, 49], 7)]
theorem some_ok : ∀ regs ∈ [[ra], [ra, rb]], ∀ items ∈ [[tea], [tea, pot], [tea, pot, cup]], ∀ p ∈ someTexts, errIs (readOrd regs items p.1) p.2 = true := by decide +kernel
def errIs2 {α : Type} (x : Except (Nat × Nat) α) (n : Nat × Nat) : Bool := match x with
  | .error e => e == n
  | .ok _ => false
def hA : W := jn [32] [kw 0, [97]]
def rB : W := jn [32] [kw 1, [98]]
def iC : W := jn [32] [kw 2, [99]]
/-- the law's ten catalog texts, each with the line and word that is wrong in it -/
def caseTexts : List (W × (Nat × Nat)) := [([], (2, 1)), (kw 0, (1, 2)), (jn [10] [hA, hA], (2, 2)), (hA ++ [32, 98], (1, 3)), (jn [32] [[115, 104, 101, 100], [97]], (1, 1)),
  (jn [10] [hA, rB, iC, jn [32] [kw 3, [97], [98], [51], [50], [49]]], (4, 5)), (jn [10] [hA, jn [32] [kw 3, [97], [98], [49], [49], [49]]], (2, 3)),
  (jn [10] [hA, rB, iC, jn [32] [kw 4, [115], [97], [99], [54, 49], [49]]], (4, 5)), (jn [10] [hA, rB], (3, 1)),
  (jn [10] [hA, rB, jn [32] [kw 3, [97], [98], [48], [49], [49]], jn [32] [kw 3, [97], [98], [48], [49], [49]]], (4, 3))]
theorem case_ok : ∀ p ∈ caseTexts, errIs2 (readCat p.1) p.2 = true := by decide +kernel
end Km
set_option linter.all false
/-! The plain law, part 5: sizes of texts; a bent line. -/
namespace Km
theorem jn_len (s : W) : ∀ ws : List W, (jn s ws).length ≤ (ws.map List.length).sum + ws.length * s.length
  | [] => by simp [jn]
  | [x] => by simp [jn]
  | x :: y :: r => by
    have ih := jn_len s (y :: r)
    have e : jn s (x :: y :: r) = x ++ s ++ jn s (y :: r) := rfl
    rw [e, List.length_append, List.length_append]
    simp only [List.map_cons, List.sum_cons, List.length_cons] at ih ⊢
    have : (r.length + 1 + 1) * s.length = (r.length + 1) * s.length + s.length := by rw [Nat.add_mul, Nat.one_mul]
    omega
theorem sum_le {k : Nat} : ∀ {ws : List W}, (∀ p ∈ ws, p.length ≤ k) → (ws.map List.length).sum ≤ ws.length * k
  | [], _ => by simp
  | x :: r, h => by
    have ih := sum_le (k := k) (ws := r) fun p hp => h p (by simp [hp])
    have hx := h x (by simp)
    simp only [List.map_cons, List.sum_cons, List.length_cons]
    have : (r.length + 1) * k = r.length * k + k := by rw [Nat.add_mul, Nat.one_mul]
    omega
theorem dig_len (n : Nat) : (dig n).length ≤ 3 := by
  unfold dig
  split
  · simp
  · split <;> simp
theorem name_len {w : W} (h : isName w = true) : w.length ≤ 8 := by
  simp only [isName, Bool.and_eq_true, decide_eq_true_eq] at h
  omega
/-- the words of a catalog's line: plain, few and short -/
structure LineOk (ws : List W) : Prop where
  pl : ∀ p ∈ ws, PlainW p
  sh : ∀ p ∈ ws, p.length ≤ 8
  fw : ws.length ≤ 6
  ne : ws ≠ []
  lo : ∀ p ∈ ws, ∀ c ∈ p, c < 128
theorem kw_ok (k : Nat) : PlainW (kw k) ∧ (kw k).length ≤ 8 ∧ ∀ c ∈ kw k, c < 128 := by
  match k with
  | 0 => exact ⟨⟨by decide, by decide, by decide⟩, by decide, by decide⟩
  | 1 => exact ⟨⟨by decide, by decide, by decide⟩, by decide, by decide⟩
  | 2 => exact ⟨⟨by decide, by decide, by decide⟩, by decide, by decide⟩
  | 3 => exact ⟨⟨by decide, by decide, by decide⟩, by decide, by decide⟩
  | _ + 4 => show PlainW [115, 117, 112, 112, 108, 121] ∧ ([115, 117, 112, 112, 108, 121] : W).length ≤ 8 ∧ ∀ c ∈ ([115, 117, 112, 112, 108, 121] : W), c < 128; exact ⟨⟨by decide, by decide, by decide⟩, by decide, by decide⟩
theorem name_low {w : W} (h : isName w = true) : ∀ c ∈ w, c < 128 := fun c hc => by
  simp only [isName, Bool.and_eq_true, decide_eq_true_eq, List.all_eq_true, Bool.or_eq_true, isSm_iff, isFg_iff] at h
  have := h.2 c hc
  omega
theorem dig_low {n : Nat} (hn : n < 1000) : ∀ c ∈ dig n, c < 128 := by
  intro c hc
  unfold dig at hc
  split at hc
  · simp at hc; omega
  · split at hc
    · simp at hc; omega
    · simp at hc; omega
def FldOk : Fld → Prop
  | .inl w => isName w = true
  | .inr n => n.toNat < 1000
theorem fText_ok {x : Fld} (h : FldOk x) : PlainW (fText x) ∧ (fText x).length ≤ 8 ∧ ∀ c ∈ fText x, c < 128 := by
  cases x with
  | inl w => exact ⟨(name_plain h).1, name_len h, name_low h⟩
  | inr n => exact ⟨dig_plain _, Nat.le_trans (dig_len _) (by omega), dig_low h⟩
theorem row_ok {k : Nat} {r : Row} (h : ∀ x ∈ r, FldOk x) (hl : r.length ≤ 5) : LineOk (rowWs k r) := by
  refine ⟨fun p hp => ?_, fun p hp => ?_, by show (r.map fText).length + 1 ≤ 6; rw [List.length_map]; omega, by simp [rowWs], fun p hp => ?_⟩
  all_goals
    rcases List.mem_cons.mp hp with rfl | hp
    first
      | exact (kw_ok k).1
      | exact (kw_ok k).2.1
      | exact (kw_ok k).2.2
    obtain ⟨x, hx, rfl⟩ := List.mem_map.mp hp
    first
      | exact (fText_ok (h x hx)).1
      | exact (fText_ok (h x hx)).2.1
      | exact (fText_ok (h x hx)).2.2
theorem Sound.rows_ok {q : Ps} (S : Sound q) {k : Nat} (hk : k < 5) : ∀ r ∈ q k, (∀ x ∈ r, FldOk x) ∧ r.length ≤ 5 ∧ r ≠ [] := by
  have nm : k < 3 → ∀ r ∈ q k, (∀ x ∈ r, FldOk x) ∧ r.length ≤ 5 ∧ r ≠ [] := fun h3 r hr => by
    obtain ⟨w, rfl, hw⟩ := S.nm k h3 r hr
    refine ⟨fun x hx => ?_, by simp, by simp⟩
    rw [List.mem_singleton] at hx
    subst hx
    exact hw
  match k, hk, nm with
  | 0, _, nm => exact nm (by omega)
  | 1, _, nm => exact nm (by omega)
  | 2, _, nm => exact nm (by omega)
  | 3, _, _ =>
    intro r hr
    obtain ⟨h, g, a, b, p, rfl, h1, h2, h3, h4, h5, h6, h7⟩ := S.ln r hr
    refine ⟨fun x hx => ?_, by simp, by simp⟩
    simp only [List.mem_cons, List.mem_nil_iff, or_false] at hx
    rcases hx with rfl | rfl | rfl | rfl | rfl
    · exact S.names_ok (by omega) _ h1
    · exact S.names_ok (by omega) _ h2
    · show Int.toNat _ < 1000; omega
    · show Int.toNat _ < 1000; omega
    · show Int.toNat _ < 1000; omega
  | 4, _, _ =>
    intro r hr
    obtain ⟨s, h, i, a, b, rfl, h0, h1, h2, h3, h4, h5, h6⟩ := S.sp r hr
    refine ⟨fun x hx => ?_, by simp, by simp⟩
    simp only [List.mem_cons, List.mem_nil_iff, or_false] at hx
    rcases hx with rfl | rfl | rfl | rfl | rfl
    · exact h0
    · exact S.names_ok (by omega) _ h1
    · exact S.names_ok (by omega) _ h2
    · show Int.toNat _ < 1000; omega
    · show Int.toNat _ < 1000; omega
theorem mem_lines {q : Ps} {ws : List W} (h : ws ∈ lines q) : ∃ k r, k < 5 ∧ r ∈ q k ∧ ws = rowWs k r := by
  unfold lines at h
  simp only [List.mem_append, List.mem_map] at h
  rcases h with ⟨r, hr, rfl⟩ | ⟨r, hr, rfl⟩ | ⟨r, hr, rfl⟩ | ⟨r, hr, rfl⟩ | ⟨r, hr, rfl⟩
  · exact ⟨0, r, by omega, hr, rfl⟩
  · exact ⟨1, r, by omega, hr, rfl⟩
  · exact ⟨2, r, by omega, hr, rfl⟩
  · exact ⟨3, r, by omega, hr, rfl⟩
  · exact ⟨4, r, by omega, hr, rfl⟩
theorem Sound.lines_ok {q : Ps} (S : Sound q) : ∀ ws ∈ lines q, LineOk ws := fun ws h => by
  obtain ⟨k, r, hk, hr, rfl⟩ := mem_lines h
  obtain ⟨h1, h2, _⟩ := S.rows_ok hk r hr
  exact row_ok h1 h2
theorem lines_len (q : Ps) : (lines q).length = (q 0).length + (q 1).length + (q 2).length + (q 3).length + (q 4).length := by
  unfold lines
  simp only [List.length_append, List.length_map]
  omega
theorem Sound.lines_few {q : Ps} (S : Sound q) : (lines q).length ≤ 49 := by
  rw [lines_len]
  have h0 : (q 0).length ≤ 5 := S.rm 0 (by omega)
  have h1 : (q 1).length ≤ 5 := S.rm 1 (by omega)
  have h2 : (q 2).length ≤ 5 := S.rm 2 (by omega)
  have h3 : (q 3).length ≤ 20 := S.rm 3 (by omega)
  have h4 : (q 4).length ≤ 14 := S.rm 4 (by omega)
  omega
theorem LineOk.len {ws : List W} (h : LineOk ws) {s : W} (hs : s.length ≤ 3) : (jn s ws).length ≤ 66 ∧ (ws.map List.length).sum + ws.length * s.length ≤ 66 := by
  have h1 := jn_len s ws
  have h2 := sum_le h.sh
  have h3 := h.fw
  have h4 : ws.length * 8 ≤ 6 * 8 := Nat.mul_le_mul_right 8 h3
  have h5 : ws.length * s.length ≤ 6 * 3 := Nat.mul_le_mul h3 hs
  omega
theorem rows_txt {L : List (List W)} (h : ∀ ws ∈ L, LineOk ws) (hne : L ≠ []) : splA 10 [] (jn [10] (L.map (jn [32]))) = L.map (jn [32]) :=
  splA_jn 10 (by simpa using hne) fun p hp => by
    obtain ⟨ws, hws, rfl⟩ := List.mem_map.mp hp
    exact jn_free (by decide) fun x hx => ((h ws hws).pl x hx).2.2
theorem rowsOf_txt {L : List (List W)} (h : ∀ ws ∈ L, LineOk ws) (hne : L ≠ []) : rowsOf (jn [10] (L.map (jn [32]))) = L := by
  unfold rowsOf
  rw [rows_txt h hne, List.map_map]
  conv => rhs; rw [← List.map_id L]
  exact List.map_congr_left fun ws hws => wordsOf_jn1 (h ws hws).pl
/-! ### a text with its rows loosened -/
/-- one row and a void one, with blanks -/
def looseOf (a b : Nat) (ws : List W) : List W := [List.replicate (2 * a) 32, List.replicate b 32 ++ jn [32, 32, 32] ws ++ [32]]
theorem loose_words {a b : Nat} {ws : List W} (h : LineOk ws) : (looseOf a b ws).map wordsOf = [[], ws] := by
  have e1 : wordsOf (List.replicate (2 * a) 32) = [] := by
    have := wordsOf_reps (2 * a) []
    rw [List.append_nil, wordsOf_nil] at this
    exact this
  have e2 : wordsOf (List.replicate b 32 ++ jn [32, 32, 32] ws ++ [32]) = ws := by rw [wordsOf_end, wordsOf_reps, wordsOf_jn3 h.pl]
  show [wordsOf _, wordsOf _] = _
  rw [e1, e2]
theorem loose_free {a b : Nat} {ws : List W} (h : LineOk ws) : ∀ p ∈ looseOf a b ws, 10 ∉ p := by
  intro p hp
  have r : ∀ n, 10 ∉ List.replicate n 32 := fun n z => by
    have := (List.mem_replicate.mp z).2
    omega
  simp only [looseOf, List.mem_cons, List.mem_nil_iff, or_false] at hp
  rcases hp with rfl | rfl
  · exact r _
  · intro hm
    rcases List.mem_append.mp hm with hm | hm
    · rcases List.mem_append.mp hm with hm | hm
      · exact r _ hm
      · exact jn_free (c := 10) (by decide) (fun x hx => (h.pl x hx).2.2) hm
    · simp at hm
/-- the loosened rows of many lines -/
def looseAll : List ((Nat × Nat) × List W) → List W
  | [] => []
  | p :: r => looseOf p.1.1 p.1.2 p.2 ++ looseAll r
theorem looseAll_app (l : List ((Nat × Nat) × List W)) (p : (Nat × Nat) × List W) : looseAll (l ++ [p]) = looseAll l ++ looseOf p.1.1 p.1.2 p.2 := by
  induction l with
  | nil => simp [looseAll]
  | cons a l ih =>
    show looseOf a.1.1 a.1.2 a.2 ++ looseAll (l ++ [p]) = looseOf a.1.1 a.1.2 a.2 ++ looseAll l ++ _
    rw [ih, List.append_assoc]
theorem looseAll_words : ∀ {l : List ((Nat × Nat) × List W)}, (∀ p ∈ l, LineOk p.2) → ((looseAll l).map wordsOf).filter (fun p => !decide (p = [])) = l.map (·.2)
  | [], _ => rfl
  | p :: l, h => by
    have hp := h p (by simp)
    show ((looseOf p.1.1 p.1.2 p.2 ++ looseAll l).map wordsOf).filter _ = _
    rw [List.map_append, loose_words hp, List.filter_append, looseAll_words (fun x hx => h x (by simp [hx]))]
    simp [hp.ne]
theorem looseAll_free : ∀ {l : List ((Nat × Nat) × List W)}, (∀ p ∈ l, LineOk p.2) → ∀ x ∈ looseAll l, 10 ∉ x
  | [], _, x, hx => by simp [looseAll] at hx
  | p :: l, h, x, hx => by
    rcases List.mem_append.mp hx with hx | hx
    · exact loose_free (h p (by simp)) x hx
    · exact looseAll_free (fun y hy => h y (by simp [hy])) x hx
theorem lacks_upTo {q : Ps} (V : Valid q) : lacks (upTo q 5) = false := by
  have e : ∀ k, k < 3 → (upTo q 5 k).isEmpty = false := fun k hk => by
    show (if k < 5 then q k else []).isEmpty = false
    rw [if_pos (by omega)]
    have := V.ne k hk
    cases h : q k with
    | nil => exact absurd h this
    | cons a b => rfl
  unfold lacks
  rw [e 0 (by omega), e 1 (by omega), e 2 (by omega)]
  rfl
theorem lines_ne {q : Ps} (V : Valid q) : lines q ≠ [] := fun e => by
  have h := lines_len q
  rw [e] at h
  have := V.ne 0 (by omega)
  have := List.length_pos_iff.mpr this
  simp at h
  omega
theorem read_written {q : Ps} (V : Valid q) : readCat (writeCat q) = .ok (upTo q 5) := by
  unfold readCat writeCat
  rw [rowsOf_txt V.lines_ok (lines_ne V), read_lines V.toSound]
  dsimp only
  rw [lacks_upTo V, if_neg Bool.false_ne_true]
theorem read_loose {q : Ps} (V : Valid q) {l : List ((Nat × Nat) × List W)} (h : l.map (·.2) = lines q) : readCat (jn [10] (looseAll l)) = .ok (upTo q 5) := by
  have ok : ∀ p ∈ l, LineOk p.2 := fun p hp => V.lines_ok p.2 (by rw [← h]; exact List.mem_map.mpr ⟨p, hp, rfl⟩)
  have ne : looseAll l ≠ [] := by
    cases l with
    | nil => exact absurd h.symm (lines_ne V)
    | cons a b =>
      show looseOf _ _ _ ++ _ ≠ []
      simp [looseOf]
  have e : rowsOf (jn [10] (looseAll l)) = (looseAll l).map wordsOf := by
    unfold rowsOf
    rw [splA_jn 10 ne (looseAll_free ok)]
  have r : readRows ps0 ((looseAll l).map wordsOf) 0 = .ok (upTo q 5) := readRows_void _ _ _ 0 0 (by rw [looseAll_words ok, h]; exact read_lines V.toSound 0)
  unfold readCat
  rw [e, r]
  dsimp only
  rw [lacks_upTo V, if_neg Bool.false_ne_true]
end Km
set_option Elab.async false
set_option linter.all false
set_option maxRecDepth 100000
set_option maxHeartbeats 4000000
/-! The walk, part 0: the text by places, what the written part tells, short words. -/
namespace Kw
open PySem PySem.Spec PyProof.Rows L2
/-! ### the text -/
def topS (i : Nat) : Stmt := PySem.Challenge.pw_surehouse_k16_whole_texts.main.body.getD i (.Pass ⟨0, 0, 0, 0⟩)
abbrev sLineI : Stmt := inClass (topS 4) 0
abbrev sIsWhole : Stmt := topS 15
abbrev sIsName : Stmt := topS 16
abbrev sUnlike : Stmt := topS 17
abbrev sAreNames : Stmt := topS 18
abbrev sAreRows : Stmt := topS 19
abbrev sIsLane : Stmt := topS 20
abbrev sIsSupply : Stmt := topS 21
abbrev sIsCat : Stmt := topS 22
abbrev sNeedCat : Stmt := topS 23
abbrev sIsWish : Stmt := topS 24
abbrev sIsOrder : Stmt := topS 25
abbrev sNeedOrder : Stmt := topS 26
abbrev sWriteCat : Stmt := topS 32
abbrev sNumIn : Stmt := topS 33
abbrev sRdInit : Stmt := inClass (topS 34) 0
abbrev sRdNames : Stmt := inClass (topS 34) 1
abbrev sRdPart : Stmt := inClass (topS 34) 2
abbrev sRdRead : Stmt := inClass (topS 34) 3
abbrev sRdNeed : Stmt := inClass (topS 34) 4
abbrev sReadCat : Stmt := topS 35
abbrev sWriteOrd : Stmt := topS 36
abbrev sReadOrd : Stmt := topS 37
abbrev sWishes : Stmt := topS 38
abbrev sTaken : Stmt := topS 40
abbrev sPick : Stmt := topS 41
abbrev sAlike : Stmt := topS 42
abbrev sLawCat : Stmt := topS 43
abbrev sLawOrd : Stmt := topS 44
abbrev sSaid : Stmt := topS 45
abbrev sLaw : Stmt := topS 46

/-! ### defs of the module, by name -/
structure DefAt (K : PySem.W.Frag) (mg : Str → Option Value) (x : Str) (st : Stmt) : Prop where
  ex : ∃ (f : Addr) (fd : FuncData), Fun K x x st f fd ∧ mg x = some (.ref f)
/-- a def of the module keeps a promise -/
structure Dn (P : Program) (w : World) (K : PySem.W.Frag) (mg : Str → Option Value) (base : Heap) (CX : CXT) (k : Nat) (x : Str) (ps : List Str) (sp : Sp) : Prop where
  ex : ∃ (f : Addr) (fd : FuncData), FnOk P w K mg base CX k f fd ps sp ∧ mg x = some (.ref f) ∧ PySem.W.keepIn K (.ref f) = true ∧ Binds K fd ps []
theorem DefAt.dn {P : Program} {w : World} {K : PySem.W.Frag} {mg : Str → Option Value} {base : Heap} {CX : CXT} {k : Nat} {x : Str} {st : Stmt} {ps : List Str} {sp : Sp} (D : DefAt K mg x st)
    (ok : ∀ f fd, Fun K x x st f fd → FnOk P w K mg base CX k f fd ps sp)
    (hb : ∀ (kV doc pm : Value) (an : Option Addr) (cdv ct : Value) (us : List Value), us.length = ps.length → bindArgs (PySem.W.fnOf x x (defArgs st) (defBody st) (defScope st) .none kV doc pm an cdv ct) ⟨us, []⟩ = pure (ps.zip us)) :
    Dn P w K mg base CX k x ps sp := by
  obtain ⟨f, fd, F, hm⟩ := D.ex
  exact ⟨f, fd, ok f fd F, hm, F.kp, F.binds hb⟩
theorem Dn.mono {P : Program} {w : World} {K : PySem.W.Frag} {mg : Str → Option Value} {base : Heap} {CX : CXT} {j k : Nat} {x : Str} {ps : List Str} {sp : Sp} (D : Dn P w K mg base CX j x ps sp) (h : j ≤ k) : Dn P w K mg base CX k x ps sp := by
  obtain ⟨f, fd, F, r⟩ := D.ex
  exact ⟨f, fd, F.mono h, r⟩
theorem pe_dn {X : Cx} {CX : CXT} {k : Nat} {x : Str} {ps : List Str} {sp : Sp} {E : XK} {e : Expr} {es : List Expr} {t : TA} {p pos : Pos} (D : Dn X.prog X.w X.K X.mg X.base CX k x ps sp) (hr : Room k X.A) (hx : Passes CX X E) (ha : PA X (e :: es) t) (hg : Gl X x := by rfl)
    (hdb : (x == ("__debug__" : Str)) = false := by decide) (he : starEach (e :: es) X.env = (false, eval e X.env) :: starEach es X.env := by rfl) (hpl : (backTo pos (starEach es X.env)).any (·.1) = false := by rfl) :
    PE X (.Call (.Name x p) (e :: es) [] pos) (tCall sp [] E t) := by
  obtain ⟨f, fd, F, hm, hk, hb⟩ := D.ex
  exact pe_call F hr hg hm hk hb .nil hx ha (hdb := hdb) (he := he) (hpl := hpl)
end Kw
set_option Elab.async false
set_option linter.all false
set_option maxRecDepth 100000
set_option maxHeartbeats 4000000
/-! The walk, part 1: what the top has left; built-ins by name; values. -/
namespace Kw
open PySem PySem.Spec PyProof.Rows L2 Km
def mk (w : W) : Str := ⟨w.toArray⟩
def sv (w : W) : V := .str (mk w)
theorem tl_mk' (w : W) : TL.tl (mk w) = w := TL.tl_mk w
theorem mk_tl' (x : Str) : mk (TL.tl x) = x := TL.mk_tl x
theorem mk_inj {a b : W} (h : mk a = mk b) : a = b := by
  have := congrArg TL.tl h
  rwa [tl_mk', tl_mk'] at this
theorem mk_len (w : W) : (mk w).length = w.length := by
  rw [TL.len_tl, tl_mk']
theorem sv_inj {a b : W} (h : sv a = sv b) : a = b := mk_inj (V.str.inj h)
/-- a tuple of the written part -/
def KTup (K : PySem.W.Frag) (a : Addr) (xs : List V) : Prop :=
  ∃ (o : Obj) (its : Array Value) (n : Nat), K.lookup a = some o ∧ o.cls = .type "tuple" ∧ o.data = .seq its n ∧ its.size ≤ sizeLine ∧ Vals xs its.toList
theorem KTup.sq {K : PySem.W.Frag} {a : Addr} {xs : List V} (k : KTup K a xs) (H : Hp) : SqT K H a xs := .inr k
/-- the names of the kinds -/
def ks : Nat → Str
  | 0 => "house"
  | 1 => "region"
  | 2 => "item"
  | 3 => "lane"
  | _ => "supply"
theorem ks_tl : ∀ k, TL.tl (ks k) = kw k
  | 0 => by decide +kernel
  | 1 => by decide +kernel
  | 2 => by decide +kernel
  | 3 => by decide +kernel
  | _ + 4 => show TL.tl ("supply" : Str) = [115, 117, 112, 112, 108, 121] by decide +kernel
theorem ks_mk (k : Nat) : mk (kw k) = ks k := by rw [← ks_tl k, mk_tl']
/-- the text of a part's kind -/
def fkS : Nat → List Str
  | 0 => ["new"]
  | 1 => ["new"]
  | 2 => ["new"]
  | 3 => ["house", "region", "span", "span", "price"]
  | _ => ["new", "house", "item", "day", "count"]
structure Txt (K : PySem.W.Frag) (mg : Str → Option Value) (w : World) : Prop where
  len : mg "len" = none
  isinst : mg "isinstance" = none
  all : mg "all" = none
  zip : mg "zip" = none
  enum : mg "enumerate" = none
  range : mg "range" = none
  sum : mg "sum" = none
  int : mg "int" = none
  bool : mg "bool" = none
  str : mg "str" = none
  tuple : mg "tuple" = none
  list : mg "list" = none
  SMALL : ∃ t, mg "SMALL" = some (.str "abcdefghijklmnopqrstuvwxyz" t)
  FIGS : ∃ t, mg "FIGURES" = some (.str "0123456789" t)
  PLACES : ∃ t, mg "MOST_PLACES" = some (.int 5 t)
  LANES : ∃ t, mg "MOST_LANES" = some (.int 20 t)
  SUPPLIES : ∃ t, mg "MOST_SUPPLIES" = some (.int 14 t)
  WISHES : ∃ t, mg "MOST_WISHES" = some (.int 3 t)
  DAY : ∃ t, mg "LAST_DAY" = some (.int 60 t)
  REGIONS : ∃ t, mg "REGIONS" = some (.int 1 t)
  ITEMS : ∃ t, mg "ITEMS" = some (.int 2 t)
  WORDS : ∃ a, mg "WORDS" = some (.ref a) ∧ KTup K a ((List.range 5).map fun k => .str (ks k))
  FORMS : ∃ (a : Addr) (es : Array DictEntry) (n : Nat), mg "FORMS" = some (.ref a) ∧ KDict K w a es n ∧ (∀ z : Str, ∃ r, PySem.W.nsIn K a z = some r ∧ r.isSome = (kindOf (TL.tl z)).isSome) ∧
    ∀ k, k < 5 → ∃ f, KDct K w a (ks k) (.ref f) ∧ KTup K f ((fkS k).map .str)
  ROOM : ∃ (a : Addr), mg "ROOM" = some (.ref a) ∧ ∀ k, k < 5 → KDct K w a (ks k) (.int (room k : Nat))
  MOST : ∃ (a : Addr), mg "MOST" = some (.ref a) ∧ KDct K w a "span" (.int 9) ∧ KDct K w a "price" (.int 99) ∧ KDct K w a "day" (.int 60) ∧ KDct K w a "count" (.int 99) ∧ KDct K w a "worth" (.int 999)
  dWhole : DefAt K mg "is_whole" sIsWhole
  dName : DefAt K mg "is_name" sIsName
  dUnlike : DefAt K mg "are_unlike" sUnlike
  dNames : DefAt K mg "are_names" sAreNames
  dRows : DefAt K mg "are_rows" sAreRows
  dLane : DefAt K mg "is_lane" sIsLane
  dSupply : DefAt K mg "is_supply" sIsSupply
  dCat : DefAt K mg "is_catalog" sIsCat
  dNeedC : DefAt K mg "need_catalog" sNeedCat
  dWish : DefAt K mg "is_wish" sIsWish
  dOrder : DefAt K mg "is_order" sIsOrder
  dNeedO : DefAt K mg "need_order" sNeedOrder
  dWriteC : DefAt K mg "write_catalog" sWriteCat
  dNumIn : DefAt K mg "number_in" sNumIn
  dReadC : DefAt K mg "read_catalog" sReadCat
  dWriteO : DefAt K mg "write_order" sWriteOrd
  dReadO : DefAt K mg "read_order" sReadOrd
  dWishes : DefAt K mg "wishes_in" sWishes
  dTaken : DefAt K mg "_law_taken" sTaken
  dPick : DefAt K mg "_law_pick" sPick
  dAlike : DefAt K mg "_law_alike" sAlike
  dLawC : DefAt K mg "_law_catalog" sLawCat
  dLawO : DefAt K mg "_law_order" sLawOrd
/-! ### heaps -/
theorem same_new {H0 H : Hp} {p : Addr} {o : HO} (s : Same H0 H) (n : H p = none) : Same H0 (upd H p o) := fun b x e => by
  have e' := s b x e
  rw [upd_ne (ne_of_none e' n)]
  exact e'
/-- a fresh object of ours is written -/
theorem same_set {H0 H : Hp} {p : Addr} {o : HO} (s : Same H0 H) (n : H0 p = none) : Same H0 (upd H p o) := fun b x e => by
  rw [upd_ne (ne_of_none e n)]
  exact s b x e
theorem same_sqt {K : PySem.W.Frag} {H H' : Hp} {a : Addr} {xs : List V} (e : Same H H') (h : SqT K H a xs) : SqT K H' a xs := by
  rcases h with (h | ⟨o, h⟩) | h
  · exact .inl (.inl (e _ _ h))
  · exact .inl (.inr ⟨o, e _ _ h⟩)
  · exact .inr h
mutual
theorem dp_same {K : PySem.W.Frag} {H H' : Hp} (e : Same H H') : ∀ (d : PyData) (v : V), Dp K H v d → Dp K H' v d
  | .none, _, .non => .non
  | .bool _, _, .bl b => .bl b
  | .int _, _, .int i => .int i
  | .str _, _, .str x => .str x
  | .list ds, _, .lst h k => .lst (Same.seq e h) (dps_same e ds _ k)
  | .tuple ds, _, .tup h k => .tup (same_sqt e h) (dps_same e ds _ k)
theorem dps_same {K : PySem.W.Frag} {H H' : Hp} (e : Same H H') : ∀ (ds : List PyData) (vs : List V), DpAll K H vs ds → DpAll K H' vs ds
  | [], _, .nil => .nil
  | d :: ds, _, .cons h k => .cons (dp_same e d _ h) (dps_same e ds _ k)
end
/-! ### built-ins by name -/
/-- a rule asked of one value -/
def on1 (k : V → Hp → VK → Prop) : List V → Hp → VK → Prop := fun xs H Q => match xs with
  | [x] => k x H Q
  | _ => False
theorem callR_imp {X : Cx} {f : Value} {r r' : List V → Hp → VK → Prop} (h : CallR X f r) (i : ∀ xs H Q, r' xs H Q → r xs H Q) : CallR X f r' := fun pins s σ H xs us Q I rv q => h pins s σ H xs us Q I rv (i xs H Q q)
theorem callR_on1 {X : Cx} {f : Value} {r : List V → Hp → VK → Prop} {k : V → Hp → VK → Prop} (h : CallR X f r) (i : ∀ x H Q, k x H Q → r [x] H Q) : CallR X f (on1 k) := callR_imp h fun xs H Q q => match xs, q with
  | [x], q => i x H Q q
def kLen (K : PySem.W.Frag) (x : V) (H : Hp) (Q : VK) : Prop := ∃ n : Nat, LenV K x H n ∧ Q (.int n) H
def kAll (K : PySem.W.Frag) (x : V) (H : Hp) (Q : VK) : Prop := ∃ (a : Addr) (bs : List Bool), x = .ref a ∧ SqL K H a (bs.map V.bl) ∧ Q (.bl (bs.all id)) H
def kSum (K : PySem.W.Frag) (x : V) (H : Hp) (Q : VK) : Prop := ∃ (a : Addr) (ns : List Int), x = .ref a ∧ SqL K H a (ns.map V.int) ∧ Q (.int ns.sum) H
def kInt (x : V) (H : Hp) (Q : VK) : Prop := match x with
  | .int i => Q (.int i) H
  | .str a => ∃ n : Int, PySem.intText? a = some n ∧ a.length ≤ 640 ∧ Q (.int n) H
  | _ => False
def kStr (x : V) (H : Hp) (Q : VK) : Prop := match x with
  | .int i => i.natAbs.log2 < 1920 ∧ Q (.str (toString i)) H
  | .str a => Q (.str a) H
  | _ => False
def kList (K : PySem.W.Frag) (x : V) (H : Hp) (Q : VK) : Prop := ∃ (p : Addr) (ys : List V), x = .ref p ∧ (SqL K H p ys ∨ SqT K H p ys) ∧ ∀ l, H l = none → Q (.ref l) (upd H l (.lst ys))
def kTuple (K : PySem.W.Frag) (x : V) (H : Hp) (Q : VK) : Prop := ∃ (p : Addr) (ys : List V), x = .ref p ∧ SqL K H p ys ∧ ∀ l, H l = none → Q (.ref l) (upd H l (.tup ys))
section
variable {X : Cx} {K : PySem.W.Frag} {mg : Str → Option Value} {w : World} {e : Expr} {te : TE} {p pos : Pos}
theorem pe_len (T : Txt K mg w) (he : PE X e te) (eK : X.K = K := by rfl) (em : X.mg = mg := by rfl) (hg : Gl X "len" := by rfl) (hs : starEach [e] X.env = (false, eval e X.env) :: starEach [] X.env := by rfl) :
    PE X (.Call (.Name "len" p) [e] [] pos) (tCB (on1 (kLen K)) (tCons te tNil)) := by
  subst eK em
  exact pe_callB (callR_on1 call_len fun x H Q ⟨n, h, q⟩ => ⟨x, n, rfl, h, q⟩) hg T.len PySem.boot_len (pa_cons he pa_nil hs) (he := hs)
theorem pe_all (T : Txt K mg w) (hc : X.calm = true) (he : PE X e te) (eK : X.K = K := by rfl) (em : X.mg = mg := by rfl) (hg : Gl X "all" := by rfl) (hs : starEach [e] X.env = (false, eval e X.env) :: starEach [] X.env := by rfl) :
    PE X (.Call (.Name "all" p) [e] [] pos) (tCB (on1 (kAll K)) (tCons te tNil)) := by
  subst eK em
  exact pe_callB (callR_on1 (cr_all hc) fun x H Q ⟨a, bs, h1, h2, q⟩ => ⟨a, bs, by rw [h1], h2, q⟩) hg T.all (by decide +kernel) (pa_cons he pa_nil hs) (he := hs)
theorem pe_sum (T : Txt K mg w) (hc : X.calm = true) (he : PE X e te) (eK : X.K = K := by rfl) (em : X.mg = mg := by rfl) (hg : Gl X "sum" := by rfl) (hs : starEach [e] X.env = (false, eval e X.env) :: starEach [] X.env := by rfl) :
    PE X (.Call (.Name "sum" p) [e] [] pos) (tCB (on1 (kSum K)) (tCons te tNil)) := by
  subst eK em
  exact pe_callB (callR_on1 (cr_sum hc) fun x H Q ⟨a, bs, h1, h2, q⟩ => ⟨a, bs, by rw [h1], h2, q⟩) hg T.sum (by decide +kernel) (pa_cons he pa_nil hs) (he := hs)
theorem pe_int1 (T : Txt K mg w) (he : PE X e te) (eK : X.K = K := by rfl) (em : X.mg = mg := by rfl) (hg : Gl X "int" := by rfl) (hs : starEach [e] X.env = (false, eval e X.env) :: starEach [] X.env := by rfl) :
    PE X (.Call (.Name "int" p) [e] [] pos) (tCB (on1 kInt) (tCons te tNil)) := by
  subst eK em
  exact pe_callTy (callR_on1 (call_int1.or call_int_str) fun x H Q q => match x, q with
      | .int i, q => .inl (.inl ⟨i, rfl, q⟩)
      | .str a, ⟨n, h1, h2, q⟩ => .inr ⟨a, n, rfl, h1, h2, q⟩) hg T.int boot_int (pa_cons he pa_nil hs) (he := hs)
theorem pe_str1 (T : Txt K mg w) (he : PE X e te) (eK : X.K = K := by rfl) (em : X.mg = mg := by rfl) (hg : Gl X "str" := by rfl) (hs : starEach [e] X.env = (false, eval e X.env) :: starEach [] X.env := by rfl) :
    PE X (.Call (.Name "str" p) [e] [] pos) (tCB (on1 kStr) (tCons te tNil)) := by
  subst eK em
  exact pe_callTy (callR_on1 (call_str_int.or SkE.call_str_str) fun x H Q q => match x, q with
      | .int i, ⟨h, q⟩ => .inl ⟨i, rfl, h, q⟩
      | .str a, q => .inr ⟨a, rfl, q⟩) hg T.str boot_str (pa_cons he pa_nil hs) (he := hs)
theorem pe_list1 (T : Txt K mg w) (he : PE X e te) (eK : X.K = K := by rfl) (em : X.mg = mg := by rfl) (hg : Gl X "list" := by rfl) (hs : starEach [e] X.env = (false, eval e X.env) :: starEach [] X.env := by rfl) :
    PE X (.Call (.Name "list" p) [e] [] pos) (tCB (on1 (kList K)) (tCons te tNil)) := by
  subst eK em
  exact pe_callTy (callR_on1 call_list_of fun x H Q ⟨a, ys, h1, h2, q⟩ => ⟨a, ys, by rw [h1], h2, q⟩) hg T.list boot_list (pa_cons he pa_nil hs) (he := hs)
theorem pe_tuple1 (T : Txt K mg w) (he : PE X e te) (eK : X.K = K := by rfl) (em : X.mg = mg := by rfl) (hg : Gl X "tuple" := by rfl) (hs : starEach [e] X.env = (false, eval e X.env) :: starEach [] X.env := by rfl) :
    PE X (.Call (.Name "tuple" p) [e] [] pos) (tCB (on1 (kTuple K)) (tCons te tNil)) := by
  subst eK em
  exact pe_callTy (callR_on1 call_tuple_of fun x H Q ⟨a, ys, h1, h2, q⟩ => ⟨a, ys, by rw [h1], .inl ⟨h2, q⟩⟩) hg T.tuple boot_tuple (pa_cons he pa_nil hs) (he := hs)
end
theorem pe_gS {X : Cx} {x z : Str} {t : Tok} {pos : Pos} (hm : X.mg x = some (.str z t)) (hg : Gl X x := by rfl) (hd : (x == ("__debug__" : Str)) = false := by decide) : PE X (.Name x pos) (tC (.str z)) := pe_glob hg hm ⟨_, rfl⟩ hd
theorem pe_gI {X : Cx} {x : Str} {i : Int} {t : Tok} {pos : Pos} (hm : X.mg x = some (.int i t)) (hg : Gl X x := by rfl) (hd : (x == ("__debug__" : Str)) = false := by decide) : PE X (.Name x pos) (tC (.int i)) := pe_glob hg hm ⟨_, rfl⟩ hd
theorem pe_gR {X : Cx} {x : Str} {a : Addr} {pos : Pos} (hm : X.mg x = some (.ref a)) (hg : Gl X x := by rfl) (hd : (x == ("__debug__" : Str)) = false := by decide) : PE X (.Name x pos) (tC (.ref a)) := pe_glob hg hm rfl hd
/-- isinstance(e, T), T one built-in type -/
def kIsi (K : PySem.W.Frag) : List V → Hp → VK → Prop := fun xs H Q => match xs with
  | [x, .ty n] => ∃ (t : String) (b : Bool), TyX K H x (.type t) ∧ kitB t n = some b ∧ Q (.bl b) H
  | _ => False
theorem callR_isi {X : Cx} : CallR X (.builtin "isinstance") (kIsi X.K) := callR_imp call_isi fun xs H Q q => match xs, q with
  | [x, .ty n], ⟨t, b, ty, h, q⟩ => ⟨x, .ty n, .type t, .type n, b, rfl, .ty n, ty, kit_ty h, q⟩
theorem pe_isi {X : Cx} {K : PySem.W.Frag} {mg : Str → Option Value} {w : World} {e : Expr} {te : TE} {p p2 pos : Pos} {c : Str} {n : String} (T : Txt K mg w) (he : PE X e te) (hm : mg c = none) (hv : bootBuiltins c = some (.type n)) (eK : X.K = K := by rfl) (em : X.mg = mg := by rfl) (hg : Gl X "isinstance" := by rfl) (hg2 : Gl X c := by rfl)
    (hn : c ≠ "__name__" := by decide) (hd : (c == ("__debug__" : Str)) = false := by decide)
    (hs : starEach [e, .Name c p2] X.env = (false, eval e X.env) :: starEach [.Name c p2] X.env := by rfl) (hs2 : starEach [.Name c p2] X.env = (false, eval (.Name c p2) X.env) :: starEach [] X.env := by rfl)
    (hpl : (backTo pos (starEach [.Name c p2] X.env)).any (·.1) = false := by rfl) :
    PE X (.Call (.Name "isinstance" p) [e, .Name c p2] [] pos) (tCB (kIsi K) (tCons te (tCons (tC (.ty n)) tNil))) := by
  subst eK em
  exact pe_callB callR_isi hg T.isinst boot_isinstance (pa_cons he (pa_cons (pe_bltn hg2 hm hv rfl hn hd) pa_nil hs2) hs) (he := hs) (hpl := hpl)
/-! ### rules of the layer, the written part named -/
section
variable {X : Cx} (K : PySem.W.Frag)
theorem ix_lK (e : X.K = K := by rfl) : IxR X (rIxL K) := e ▸ ix_list
theorem ix_tK (e : X.K = K := by rfl) : IxR X (rIxT K) := e ▸ ix_tup
theorem sl_lK (e : X.K = K := by rfl) : SlR X (rSlL K) := e ▸ sl_list
theorem sl_tK (e : X.K = K := by rfl) : SlR X (rSlA K) := e ▸ sl_tupA
theorem op_inDK (hu : X.A.units + 65 < cLine) (e : X.K = K := by rfl) : OpR X (compareOp .In) (rInD K) := e ▸ op_inD hu
theorem op_ninDK (hu : X.A.units + 65 < cLine) (e : X.K = K := by rfl) : OpR X (compareOp .NotIn) (rNotInD K) := e ▸ op_notInD hu
theorem op_inSK (e : X.K = K := by rfl) : OpR X (compareOp .In) (rIn K false) := e ▸ op_in_seq
theorem op_ninSK (e : X.K = K := by rfl) : OpR X (compareOp .NotIn) (rIn K true) := e ▸ op_notIn_seq
theorem op_eqDK (hu : X.A.units + 64 < cLine) (e : X.K = K := by rfl) : OpR X (compareOp .Eq) (rEqD K) := e ▸ op_eqD hu
theorem op_neDK (hu : X.A.units + 64 < cLine) (e : X.K = K := by rfl) : OpR X (compareOp .NotEq) (rNeD K) := e ▸ op_neD hu
end
end Kw
set_option Elab.async false
set_option linter.all false
set_option maxRecDepth 100000
set_option maxHeartbeats 4000000
/-! The walk, part 2: comprehensions; numbers and names. -/
namespace Kw
open PySem PySem.Spec PyProof.Rows L2 Km
/-- the tuples stay -/
structure TS (H H' : Hp) : Prop where
  tup : ∀ b xs, H b = some (.tup xs) → H' b = some (.tup xs)
  frz : ∀ b o u, H b = some (.frz o u) → H' b = some (.frz o u)
theorem same_ts {H H' : Hp} (s : Same H H') : TS H H' := ⟨fun b xs e => s b _ e, fun b o u e => s b _ e⟩
theorem TS.trans {H H1 H2 : Hp} (a : TS H H1) (b : TS H1 H2) : TS H H2 := ⟨fun c o h => b.tup c o (a.tup c o h), fun c o u h => b.frz c o u (a.frz c o u h)⟩
theorem ts_new {H : Hp} {D : Addr} {o : HO} (h : H D = none) : TS H (upd H D o) := same_ts (same_new (Same.refl H) h)
/-- a list is written -/
theorem ts_lst {H : Hp} {D : Addr} {xs : List V} {o : HO} (h : H D = some (.lst xs)) : TS H (upd H D o) := ⟨fun b zs e => by
    rw [upd_ne (ne_of e h (by intro z; cases z))]
    exact e, fun b z u e => by
    rw [upd_ne (ne_of e h (by intro z; cases z))]
    exact e⟩
theorem sqt_ts {K : PySem.W.Frag} {H H' : Hp} {a : Addr} {xs : List V} (e : TS H H') (h : SqT K H a xs) : SqT K H' a xs := by
  rcases h with (h | ⟨o, h⟩) | h
  · exact .inl (.inl (e.tup _ _ h))
  · exact .inl (.inr ⟨o, e.frz _ _ _ h⟩)
  · exact .inr h
mutual
/-- no list in it -/
def tupOnly : PyData → Bool
  | .list _ => false
  | .tuple ds => tupOnlys ds
  | _ => true
def tupOnlys : List PyData → Bool
  | [] => true
  | d :: ds => tupOnly d && tupOnlys ds
end
mutual
theorem dp_ts {K : PySem.W.Frag} {H H' : Hp} (e : TS H H') : ∀ (d : PyData) (v : V), tupOnly d = true → Dp K H v d → Dp K H' v d
  | .none, _, _, .non => .non
  | .bool _, _, _, .bl b => .bl b
  | .int _, _, _, .int i => .int i
  | .str _, _, _, .str x => .str x
  | .list ds, _, z, .lst h k => absurd (show false = true from z) Bool.false_ne_true
  | .tuple ds, _, z, .tup h k => .tup (sqt_ts e h) (dps_ts e ds _ z k)
theorem dps_ts {K : PySem.W.Frag} {H H' : Hp} (e : TS H H') : ∀ (ds : List PyData) (vs : List V), tupOnlys ds = true → DpAll K H vs ds → DpAll K H' vs ds
  | [], _, _, .nil => .nil
  | d :: ds, _, z, .cons h k => .cons (dp_ts e d _ (Bool.and_eq_true_iff.mp z).1 h) (dps_ts e ds _ (Bool.and_eq_true_iff.mp z).2 k)
end
theorem tyes {σ : L2.St} {H : Hp} {Qb : Bool → Hp → Prop} (h : Qb true H) : tYes σ H Qb := h
section
variable {J : It} {n : Nat} {G : Hp → Prop} {Y : Nat → Hp → V → Hp → Prop}
/-- a comprehension whose turns leave what is tracked, by a word over the list so far; G: what the walk needs, by the heap ahead -/
theorem lc_gen (w : Walk J n G Y) {g : TG} {tt : TT} {te : TE} {vs : List Nat} {σ : L2.St} {H1 : Hp} {D : Addr} {Qd : Hp → Prop} (In : Nat → List V → Hp → Prop) (hD : H1 D = none) (hn : n < sizeLine) (hG : ∀ H, Same H1 H → G H)
    (st : ∀ i acc H H', In i acc H → TS H H' → In i acc H') (h0 : In 0 [] H1)
    (hs : ∀ i x acc H H' (QT : VK) (QF : Hp → Prop), i < n → Same H1 H → In i acc H → Y i H x H' → (∀ y H4, Same H H4 → In (i + 1) (acc ++ [y]) H4 → QT y H4) → (∀ H3, Same H H3 → In (i + 1) acc H3 → QF H3) →
      g x (wipe σ vs) H' fun σ2 H2 => wipe σ2 vs = wipe σ vs ∧ tt σ2 H2 fun b H3 => if b = true then te σ2 H3 QT else QF H3)
    (hd : ∀ acc H, Same H1 H → H D = some (.lst acc) → In n acc H → Qd H) :
    ∃ W : Nat → Nat → Hp → Prop, (∃ m, W 0 m (upd H1 D (.lst []))) ∧ ∀ i m H, W i m H →
      (J.stop i H ∧ Qd H) ∨ (J.go i H ∧ ∃ Nx : Hp → Prop, (∀ H', Nx H' → ∃ m', m' < m ∧ W (i + 1) m' H') ∧ ∀ x H', J.yld i H x H' → g x (wipe σ vs) H' fun σ2 H2 => wipe σ2 vs = wipe σ vs ∧ tt σ2 H2 fun b H3 =>
        if b = true then te σ2 H3 fun y H4 => ∃ acc, H4 D = some (.lst acc) ∧ acc.length < sizeLine ∧ Nx (upd H4 D (.lst (acc ++ [y]))) else Nx H3) := by
  have ts0 : TS H1 (upd H1 D (.lst [])) := ts_new hD
  refine lc_it w (fun i H => Same H1 H ∧ ∃ acc, H D = some (.lst acc) ∧ acc.length ≤ i ∧ In i acc H) ⟨same_new (Same.refl H1) hD, [], upd_same, Nat.le_refl _, st _ _ _ _ h0 ts0⟩ (fun i H _ p => hG H p.1) ?_ (fun H ⟨s, acc, h1, _, h2⟩ => hd acc H s h1 h2)
  rintro i x H H' hi ⟨s, acc, hacc, hl, hin⟩ y
  refine hs i x acc H H' _ _ hi s hin y (fun z H4 s4 h4 => ?_) (fun H3 s3 h3 => ?_)
  · have hD4 := s4 _ _ hacc
    refine ⟨acc, hD4, by omega, same_set (s.trans s4) hD, acc ++ [z], upd_same, by rw [List.length_append]; simp; omega, st _ _ _ _ h4 (ts_lst hD4)⟩
  · exact ⟨s.trans s3, acc, s3 _ _ hacc, by omega, h3⟩
end
section
variable {P : Program} {w : World} {K : PySem.W.Frag} {mg : Str → Option Value} {base : Heap}
/-! ### is_whole -/
def spWhole : Sp := fun vs H Q _ => ∃ i a b : Int, vs = [.int i, .int a, .int b] ∧ Q (.bl (decide (a ≤ i ∧ i ≤ b))) H
theorem scWhole : FnScope ["thing", "least", "most"] ["thing", "least", "most"] (defScope sIsWhole) := ⟨rfl, rfl, rfl, by decide +kernel, rfl, by decide +kernel, by decide +kernel⟩
theorem ok_whole (T : Txt K mg w) : Dn P w K mg base CX0 1 "is_whole" ["thing", "least", "most"] spWhole := by
  refine T.dWhole.dn (fun f fd F => F.ok scWhole (fun vs H Q E h => ?_) (fun cdv A outer s H vs Q E hr h => ?_)) (fun _ _ _ _ _ _ us hl => match us, hl with | [_, _, _], _ => rfl)
  · obtain ⟨i, a, b, rfl, _⟩ := h
    rfl
  · obtain ⟨i, a, b, rfl, q⟩ := h
    refine ⟨_, pss_one (ps_ret (pe_and (pe_isi T (pv 0) T.int boot_int) (pe_and (pe_not (pe_isi T (pv 0) T.bool boot_bool)) (pe_one (pe_chain op_le op_le (pv 1) (pv 0) (pv 2)))))), ?_⟩
    refine ⟨_, rfl, "int", true, .base (.int i), by decide +kernel, _, rfl, iteT ?_⟩
    refine ⟨_, rfl, "int", false, .base (.int i), by decide +kernel, _, rfl, _, rfl, iteT ?_⟩
    refine ⟨_, rfl, _, rfl, _, _, rfl, rfl, _, rfl, ite2 (fun h1 => ?_) (fun h1 => ?_)⟩
    · refine ⟨_, rfl, _, _, rfl, rfl, ?_⟩
      have e : decide (a ≤ i ∧ i ≤ b) = decide (i ≤ b) := by
        have h1 := of_decide_eq_true h1
        simp [h1]
      rw [e] at q
      exact q
    · have e : decide (a ≤ i ∧ i ≤ b) = false := by
        have h1 : ¬ a ≤ i := fun z => h1 (decide_eq_true z)
        simp [h1]
      rw [e] at q
      exact q
/-! ### is_name -/
theorem small_mem (c : Nat) : decide (c ∈ (Str.ofString "abcdefghijklmnopqrstuvwxyz").cps.toList) = isSm c := by
  have e : (Str.ofString "abcdefghijklmnopqrstuvwxyz").cps.toList = List.range' 97 26 := by decide +kernel
  rw [e, Bool.eq_iff_iff, decide_eq_true_eq, isSm_iff, List.mem_range'_1]
  omega
theorem figs_mem (c : Nat) : decide (c ∈ (Str.ofString "0123456789").cps.toList) = isFg c := by
  have e : (Str.ofString "0123456789").cps.toList = List.range' 48 10 := by decide +kernel
  rw [e, Bool.eq_iff_iff, decide_eq_true_eq, isFg_iff, List.mem_range'_1]
  omega
def spName : Sp := fun vs H Q _ => ∃ u : W, vs = [sv u] ∧ u.length ≤ 1000000 ∧ ∀ H', Same H H' → Q (.bl (isName u)) H'
theorem scName : FnScope ["thing", "sign"] ["thing"] (defScope sIsName) := ⟨rfl, rfl, rfl, by decide +kernel, rfl, by decide +kernel, by decide +kernel⟩
theorem mil_line {n : Nat} (h : n ≤ 1000000) : n < sizeLine := by rw [sizeLine_eq]; omega
theorem ok_name (T : Txt K mg w) : Dn P w K mg base CX0 1 "is_name" ["thing"] spName := by
  obtain ⟨tS, mS⟩ := T.SMALL
  obtain ⟨tF, mF⟩ := T.FIGS
  refine T.dName.dn (fun f fd F => F.ok scName (fun vs H Q E h => ?_) (fun cdv A outer s H vs Q E hr h => ?_)) (fun _ _ _ _ _ _ us hl => match us, hl with | [_], _ => rfl)
  · obtain ⟨u, rfl, _⟩ := h
    rfl
  · obtain ⟨u, rfl, hu, q⟩ := h
    refine ⟨_, pss_cons (ps_if (PW.pt (pw_or (pt_not (pt_val (pe_isi T (pv 0) T.str boot_str))) (pw_or (pt_not (pt_chain op_le op_le pe_int (pe_len T (pv 0)) pe_int))
        (pw_or1 (pt_cmpR op_notIn_sign (pe_ix ix_str (pv 0) pe_int (fun _ _ => rfl)) (pe_gS mS) rfl))))) (pss_one (ps_ret pe_bl)) pss_nil)
      (pss_one (ps_ret (pe_all T rfl (pe_lc (own := [("sign", 1)]) (g := gName 1) rfl scName.nd (pi_str (pv 0)) (blkOk_by (own := [("sign", 1)]) (N := ["thing", "sign"]) (sc := defScope sIsName) (by decide +kernel))
        (fun _ _ _ _ _ => pg_name (i := 1) scName.nd rfl (Or.inl rfl)) (fun _ _ _ _ _ => pts_nil)
        (fun _ _ _ _ _ => pe_or (pe_cmpR op_in_sign (pv 1) (pe_gS mS) rfl) (pe_one (pe_cmpR op_in_sign (pv 1) (pe_gS mF) rfl))))))), ?_⟩
    refine ⟨_, rfl, "str", true, .base (.str _), by decide +kernel, _, rfl, ?_⟩
    have hlen : (mk u).length = u.length := mk_len u
    have hline : (mk u).length ≤ sizeLine := by rw [hlen]; exact Nat.le_of_lt (mil_line hu)
    have cps : (mk u).cps.toList = u := rfl
    have low : isName u = false → Q (.bl false) H := fun e => by
      rw [← e]
      exact q H (Same.refl H)
    refine iteF ⟨_, rfl, u.length, ⟨hline, hlen.symm⟩, _, _, rfl, rfl, _, rfl, ite2 (fun h1 => ?_) (fun h1 => ?_)⟩
    · have h1 := of_decide_eq_true h1
      refine ⟨_, _, rfl, rfl, _, rfl, ?_⟩
      cases h2 : decide ((u.length : Int) ≤ 8) with
      | false =>
        have h2 := of_decide_eq_false h2
        refine iteT (iteT (low ?_))
        simp only [isName, Bool.and_eq_false_iff, decide_eq_false_iff_not]
        exact .inl (.inl (by omega))
      | true =>
        have h2 := of_decide_eq_true h2
        match u, h1, h2, hlen, hline, q, low with
        | c :: r, h1, h2, hlen, hline, q, low =>
          refine iteF ⟨_, rfl, _, _, _, rfl, rfl, hline, atI_nat (j := 0) rfl, c, _, rfl, rfl, _, rfl, ?_⟩
          rw [small_mem]
          cases hc : isSm c with
          | false =>
            refine iteT (low ?_)
            simp only [isName, hdSm, hc, Bool.and_false, Bool.false_and]
          | true =>
            refine iteF ⟨_, rfl, _, rfl, fun D hD => ?_⟩
            refine lc_gen walk_str (fun i acc _ => acc = ((c :: r).take i).map (fun d => V.bl (isSm d || isFg d))) hD (by show (mk (c :: r)).length < sizeLine; rw [hlen]; exact mil_line hu) (fun _ _ => trivial) (fun i acc _ _ e _ => e) rfl ?_ ?_
            · intro i x acc H2 H' QT QF hi s2 hin hy kT kF
              obtain ⟨rfl, d, hd, rfl⟩ := hy
              have hd' : (c :: r)[i]? = some d := by
                rw [← hd]
                exact (List.getElem?_toArray ..).symm
              have step : acc ++ [V.bl (isSm d || isFg d)] = ((c :: r).take (i + 1)).map (fun d => V.bl (isSm d || isFg d)) := by
                rw [hin, List.take_succ, hd', List.map_append]
                rfl
              refine ⟨rfl, tyes (iteT ⟨_, rfl, d, _, rfl, rfl, _, rfl, ?_⟩)⟩
              rw [small_mem]
              cases e : isSm d with
              | true =>
                refine iteT (kT _ _ (Same.refl _) ?_)
                rw [← step, e]
                rfl
              | false =>
                refine iteF ⟨_, rfl, d, _, rfl, rfl, ?_⟩
                rw [figs_mem]
                refine kT _ _ (Same.refl _) ?_
                rw [← step, e]
                rfl
            · intro acc H2 s2 hDn hin
              refine ⟨D, (c :: r).map (fun d => isSm d || isFg d), rfl, .of ?_, ?_⟩
              · rw [hDn, hin, List.map_map]
                have e : (mk (c :: r)).cps.size = (c :: r).length := hlen
                rw [e, List.take_length]
                rfl
              · have e : ((c :: r).map (fun d => isSm d || isFg d)).all id = isName (c :: r) := by
                  have e1 : decide (1 ≤ (c :: r).length ∧ (c :: r).length ≤ 8) = true := decide_eq_true ⟨by omega, by omega⟩
                  simp only [isName, hdSm, hc, e1, Bool.true_and, List.all_map]
                  rfl
                rw [e]
                exact q H2 s2
    · have h1 : ¬ (1 : Int) ≤ ((u.length : Nat) : Int) := fun z => h1 (decide_eq_true z)
      refine ⟨_, rfl, iteT (iteT (low ?_))⟩
      simp only [isName, Bool.and_eq_false_iff, decide_eq_false_iff_not]
      exact .inl (.inl (by omega))
end
end Kw
set_option Elab.async false
set_option linter.all false
set_option maxRecDepth 100000
set_option maxHeartbeats 4000000
/-! The walk, part 3: numbers in texts. -/
namespace Kw
open PySem PySem.Spec PyProof.Rows L2 Km
/-- a comprehension over the signs of a text whose element is a truth value -/
theorem lc_signs {u : W} {g : TG} {te : TE} {vs : List Nat} {σ : L2.St} {H1 : Hp} {D : Addr} {Qd : Hp → Prop} (p : Nat → Bool) (hD : H1 D = none) (hu : u.length ≤ 1000000)
    (hs : ∀ d H' (QT : VK), (∀ H4, Same H' H4 → QT (.bl (p d)) H4) → g (.str ⟨#[d]⟩) (wipe σ vs) H' fun σ2 H2 => wipe σ2 vs = wipe σ vs ∧ te σ2 H2 QT)
    (mono : ∀ v σ H (A B : L2.St → Hp → Prop), (∀ s h, A s h → B s h) → g v σ H A → g v σ H B)
    (hd : ∀ H, Same H1 H → H D = some (.lst ((u.map p).map V.bl)) → Qd H) :
    ∃ Wv : Nat → Nat → Hp → Prop, (∃ m, Wv 0 m (upd H1 D (.lst []))) ∧ ∀ i m H, Wv i m H →
      ((Its (mk u)).stop i H ∧ Qd H) ∨ ((Its (mk u)).go i H ∧ ∃ Nx : Hp → Prop, (∀ H', Nx H' → ∃ m', m' < m ∧ Wv (i + 1) m' H') ∧ ∀ x H', (Its (mk u)).yld i H x H' → g x (wipe σ vs) H' fun σ2 H2 => wipe σ2 vs = wipe σ vs ∧ tYes σ2 H2 fun b H3 =>
        if b = true then te σ2 H3 fun y H4 => ∃ acc, H4 D = some (.lst acc) ∧ acc.length < sizeLine ∧ Nx (upd H4 D (.lst (acc ++ [y]))) else Nx H3) := by
  refine lc_gen walk_str (fun i acc _ => acc = (u.take i).map (fun d => V.bl (p d))) hD (by show (mk u).length < sizeLine; rw [mk_len]; exact mil_line hu) (fun _ _ => trivial) (fun i acc _ _ e _ => e) rfl ?_ ?_
  · intro i x acc H2 H' QT QF hi s2 hin hy kT kF
    obtain ⟨rfl, d, hd, rfl⟩ := hy
    have hd' : u[i]? = some d := by
      rw [← hd]
      exact (List.getElem?_toArray ..).symm
    have step : acc ++ [V.bl (p d)] = (u.take (i + 1)).map (fun d => V.bl (p d)) := by
      rw [hin, List.take_succ, hd', List.map_append]
      rfl
    refine mono _ _ _ _ _ (fun σ2 H2 h => ⟨h.1, tyes (iteT h.2)⟩) (hs d H' QT fun H4 s4 => kT _ _ s4 step)
  · intro acc H2 s2 hDn hin
    refine hd H2 s2 ?_
    rw [hDn, hin, List.map_map]
    have e : (mk u).cps.size = u.length := mk_len u
    rw [e, List.take_length]
    rfl
theorem gName_mono (i : Nat) : ∀ v σ H (A B : L2.St → Hp → Prop), (∀ s h, A s h → B s h) → gName i v σ H A → gName i v σ H B := fun _ _ _ _ _ h q => h _ _ q
theorem mk_one (c d : Nat) : decide (V.str ⟨#[c]⟩ = V.str (mk [d])) = decide (c = d) := by
  rw [Bool.eq_iff_iff, decide_eq_true_eq, decide_eq_true_eq]
  constructor
  · intro h
    have := mk_inj (a := [c]) (b := [d]) (V.str.inj h)
    exact (List.cons.inj this).1
  · intro h
    rw [h]
    rfl
theorem sv_dec (a b : W) : decide (sv a = sv b) = decide (a = b) := by
  rw [Bool.eq_iff_iff, decide_eq_true_eq, decide_eq_true_eq]
  exact ⟨sv_inj, fun h => by rw [h]⟩
theorem str0 : (Str.ofString "0") = mk [48] := by decide +kernel
theorem text_num {u : W} (h : numOk u = true) : PySem.intText? (mk u) = some ((val u : Nat) : Int) := by
  simp only [numOk, Bool.and_eq_true, decide_eq_true_eq, List.all_eq_true, isFg_iff] at h
  obtain ⟨⟨h1, h2⟩, _⟩ := h
  refine PySem.intText_digits (x := mk u) (fun c hc => h2 c hc) (fun e => ?_) ?_
  · have e' : u = [] := e
    rw [e'] at h1
    simp at h1
  · rw [mk_len]
    omega
theorem str_dig {n : Int} (h0 : 0 ≤ n) (h1 : n < 1000) : (Str.ofString (toString n)) = mk (dig n.toNat) := by
  obtain ⟨k, rfl⟩ := Int.eq_ofNat_of_zero_le h0
  refine TL.ext_tl ?_
  rw [TL.tl_num, tl_mk', Int.toNat_natCast]
  have hk : k < 1000 := by omega
  unfold dig
  split
  · rename_i h
    exact TL.numL_lt h
  · rename_i h
    split
    · rename_i h2
      rw [TL.numL_step (by omega), TL.numL_lt (by omega)]
      rfl
    · rename_i h2
      rw [TL.numL_step (by omega), TL.numL_step (by omega), TL.numL_lt (by omega)]
      have e : k / 10 / 10 = k / 100 := by omega
      rw [e]
      rfl
section
variable {P : Program} {w : World} {K : PySem.W.Frag} {mg : Str → Option Value} {base : Heap}
/-! ### number_in -/
def spNum : Sp := fun vs H Q _ => ∃ (u : W) (m : Int), vs = [sv u, .int m] ∧ u.length ≤ 1000000 ∧ ∀ H', Same H H' → Q (.int (numIn u m)) H'
theorem scNum : FnScope ["word", "most", "sign"] ["word", "most"] (defScope sNumIn) := ⟨rfl, rfl, rfl, by decide +kernel, rfl, by decide +kernel, by decide +kernel⟩
theorem ok_num (T : Txt K mg w) : Dn P w K mg base CX0 1 "number_in" ["word", "most"] spNum := by
  obtain ⟨tF, mF⟩ := T.FIGS
  refine T.dNumIn.dn (fun f fd F => F.ok scNum (fun vs H Q E h => ?_) (fun cdv A outer s H vs Q E hr h => ?_)) (fun _ _ _ _ _ _ us hl => match us, hl with | [_, _], _ => rfl)
  · obtain ⟨u, m, rfl, _⟩ := h
    rfl
  · obtain ⟨u, m, rfl, hu, q⟩ := h
    refine ⟨_, pss_cons (ps_if (PW.pt (pw_or (pt_not (pt_chain op_le op_le pe_int (pe_len T (pv 0)) pe_int))
        (pw_or (pt_not (pt_val (pe_all T rfl (pe_lc (own := [("sign", 2)]) (g := gName 2) rfl scNum.nd (pi_str (pv 0)) (blkOk_by (own := [("sign", 2)]) (N := ["word", "most", "sign"]) (sc := defScope sNumIn) (by decide +kernel))
          (fun _ _ _ _ _ => pg_name (i := 2) scNum.nd rfl (Or.inl rfl)) (fun _ _ _ _ _ => pts_nil) (fun _ _ _ _ _ => pe_cmpR op_in_sign (pv 2) (pe_gS mF) rfl)))))
        (pw_or1 (PW.pt (pw_and (pt_cmpR op_eq (pe_ix ix_str (pv 0) pe_int (fun _ _ => rfl)) pe_str (nomark _)) (pw_and1 (pt_cmpR op_ne (pv 0) pe_str (nomark _)))))))))
        (pss_one (ps_ret (pe_un un_neg pe_int))) pss_nil)
      (pss_one (ps_ret (pe_ifExp (pt_cmpR op_le (pe_int1 T (pv 0)) (pv 1) (nomark _)) (pe_int1 T (pv 0)) (pe_un un_neg pe_int)))), ?_⟩
    have hlen : (mk u).length = u.length := mk_len u
    have hline : (mk u).length ≤ sizeLine := by rw [hlen]; exact Nat.le_of_lt (mil_line hu)
    have low : ∀ H', Same H H' → numOk u = false → Q (.int (-1)) H' := fun H' s' e => by
      have := q H' s'
      unfold numIn at this
      rw [if_neg (by rw [e]; exact Bool.false_ne_true)] at this
      exact this
    have bad : ∀ H', Same H H' → numOk u = false → tRet (tUn (rU fun i => V.int (-i)) (tC (V.int 1))) { nx := fun _ H' => Q .non H', rt := Q } (L2.start ["word", "most", "sign"] [sv u, .int m]) H' := fun H' s' e => ⟨1, rfl, low H' s' e⟩
    refine ⟨_, rfl, u.length, ⟨hline, hlen.symm⟩, _, _, rfl, rfl, _, rfl, ite2 (fun h1 => ?_) (fun h1 => ?_)⟩
    · have h1 := of_decide_eq_true h1
      refine ⟨_, _, rfl, rfl, _, rfl, ?_⟩
      cases h2 : decide ((u.length : Int) ≤ 3) with
      | false =>
        have h2 := of_decide_eq_false h2
        refine iteT (iteT (bad H (Same.refl H) ?_))
        simp only [numOk, Bool.and_eq_false_iff, decide_eq_false_iff_not]
        exact .inl (.inl (by omega))
      | true =>
        have h2 := of_decide_eq_true h2
        refine iteF ⟨_, rfl, _, rfl, fun D hD => ?_⟩
        refine lc_signs isFg hD hu (fun d H' QT kT => ⟨rfl, _, rfl, d, _, rfl, rfl, ?_⟩) (gName_mono 2) (fun H2 s2 hD2 => ?_)
        · rw [figs_mem]
          exact kT H' (Same.refl _)
        · refine ⟨D, u.map isFg, rfl, .of hD2, _, rfl, ?_⟩
          have e0 : (u.map isFg).all id = u.all isFg := by rw [List.all_map]; rfl
          rw [e0]
          cases h3 : u.all isFg with
          | false =>
            refine iteT (iteT (bad H2 s2 ?_))
            simp only [numOk, h3, Bool.and_false, Bool.false_and]
          | true =>
            have hok : ∀ b, hd0 u = b → numOk u = !b := fun b e => by
              unfold numOk
              rw [h3, e, decide_eq_true ⟨by omega, by omega⟩]
              simp
            refine iteF ?_
            match u, h1, h2, h3, hlen, hline, q, low, bad, hok, hu with
            | c :: r, h1, h2, h3, hlen, hline, q, low, bad, hok, hu =>
              have fin : numOk (c :: r) = true → tRet (tIf (tTest (tOp (rI0 fun i j => V.bl (decide (i ≤ j))) (tCB (on1 kInt) (tCons (tVar 0) tNil)) (tVar 1))) (tCB (on1 kInt) (tCons (tVar 0) tNil)) (tUn (rU fun i => V.int (-i)) (tC (V.int 1)))) { nx := fun _ H' => Q .non H', rt := Q } (L2.start ["word", "most", "sign"] [sv (c :: r), .int m]) H2 := fun e => by
                have tn := text_num e
                have l640 : (mk (c :: r)).length ≤ 640 := by rw [hlen]; omega
                have qe := q H2 s2
                unfold numIn at qe
                rw [if_pos e] at qe
                refine ⟨_, rfl, _, tn, l640, _, rfl, _, _, rfl, rfl, _, rfl, ite2 (fun z => ?_) (fun z => ?_)⟩
                · rw [if_pos (of_decide_eq_true z)] at qe
                  exact ⟨_, rfl, _, tn, l640, qe⟩
                · rw [if_neg (fun y => z (decide_eq_true y))] at qe
                  exact ⟨1, rfl, qe⟩
              refine ⟨_, rfl, _, _, _, rfl, rfl, hline, atI_nat (j := 0) rfl, rfl, _, rfl, ?_⟩
              rw [str0, mk_one]
              cases h4 : decide (c = 48) with
              | false =>
                refine iteF (iteF ?_)
                refine fin (hok false ?_)
                simp only [hd0, List.head?_cons, Option.some.injEq, h4, Bool.false_and]
              | true =>
                refine iteT ⟨_, rfl, rfl, _, rfl, ?_⟩
                have e : decide (sv (c :: r) = V.str (mk [48])) = decide ((c :: r) = [48]) := sv_dec _ _
                rw [e]
                have e2 : hd0 (c :: r) = !decide ((c :: r) = [48]) := by
                  simp only [hd0, List.head?_cons, Option.some.injEq, h4, Bool.true_and]
                cases h5 : decide ((c :: r) = [48]) with
                | false =>
                  refine iteT (bad H2 s2 ?_)
                  have := hok true (by rw [e2, h5]; rfl)
                  exact this
                | true =>
                  refine iteF ?_
                  exact fin (hok false (by rw [e2, h5]; rfl))
    · have h1 : ¬ (1 : Int) ≤ ((u.length : Nat) : Int) := fun z => h1 (decide_eq_true z)
      refine ⟨_, rfl, iteT (iteT (bad H (Same.refl H) ?_))⟩
      simp only [numOk, Bool.and_eq_false_iff, decide_eq_false_iff_not]
      exact .inl (.inl (by omega))
end
end Kw
set_option Elab.async false
set_option linter.all false
set_option maxRecDepth 100000
set_option maxHeartbeats 4000000
/-! The walk, part 4: data; lists of unlike things; catalogs told. -/
namespace Kw
open PySem PySem.Spec PyProof.Rows L2 Km
/-! ### data -/
def dS (u : W) : PyData := .str (mk u)
def dF : Fld → PyData
  | .inl u => dS u
  | .inr n => .int n
def fV : Fld → V
  | .inl u => sv u
  | .inr n => .int n
def rowD (r : Km.Row) : PyData := .tuple (r.map dF)
section
variable {K : PySem.W.Frag} {H : Hp}
theorem dpAll_len : ∀ {vs : List V} {ds : List PyData}, DpAll K H vs ds → vs.length = ds.length
  | _, _, .nil => rfl
  | _, _, .cons _ t => congrArg (· + 1) (dpAll_len t)
theorem dpAll_get : ∀ {vs : List V} {ds : List PyData} {i : Nat} {v : V}, DpAll K H vs ds → vs[i]? = some v → ∃ d, ds[i]? = some d ∧ Dp K H v d
  | _, _, 0, _, .cons h _, e => by
    cases e
    exact ⟨_, rfl, h⟩
  | _, _, i + 1, _, .cons _ t, e => dpAll_get (i := i) t e
theorem dpAll_get2 : ∀ {vs : List V} {ds : List PyData} {i : Nat} {d : PyData}, DpAll K H vs ds → ds[i]? = some d → ∃ v, vs[i]? = some v ∧ Dp K H v d
  | _, _, 0, _, .cons h _, e => by
    cases e
    exact ⟨_, rfl, h⟩
  | _, _, i + 1, _, .cons _ t, e => dpAll_get2 (i := i) t e
theorem dpAll_take : ∀ {vs : List V} {ds : List PyData} (n : Nat), DpAll K H vs ds → DpAll K H (vs.take n) (ds.take n)
  | _, _, 0, _ => .nil
  | _, _, n + 1, .nil => .nil
  | _, _, n + 1, .cons h t => .cons h (dpAll_take n t)
theorem dpAll_map {α : Type} {f : α → V} {g : α → PyData} : ∀ {l : List α}, (∀ x ∈ l, Dp K H (f x) (g x)) → DpAll K H (l.map f) (l.map g)
  | [], _ => .nil
  | x :: l, h => .cons (h x (by simp)) (dpAll_map fun y hy => h y (by simp [hy]))
theorem dpAll_snoc : ∀ {vs : List V} {ds : List PyData} {v : V} {d : PyData}, DpAll K H vs ds → Dp K H v d → DpAll K H (vs ++ [v]) (ds ++ [d])
  | _, _, _, _, .nil, h => .cons h .nil
  | _, _, _, _, .cons a t, h => .cons a (dpAll_snoc t h)
theorem dp_fld (x : Fld) : Dp K H (fV x) (dF x) := by
  cases x with
  | inl u => exact .str _
  | inr n => exact .int n
theorem dp_str {v : V} {u : W} (h : Dp K H v (dS u)) : v = sv u := by
  cases h
  rfl
theorem dp_int {v : V} {n : Int} (h : Dp K H v (.int n)) : v = .int n := by
  cases h
  rfl
theorem dp_fldV {v : V} {x : Fld} (h : Dp K H v (dF x)) : v = fV x := by
  cases x with
  | inl u => exact dp_str h
  | inr n => exact dp_int h
theorem dp_tup {v : V} {ds : List PyData} (h : Dp K H v (.tuple ds)) : ∃ a xs, v = .ref a ∧ SqT K H a xs ∧ DpAll K H xs ds := by
  cases h with
  | tup s t => exact ⟨_, _, rfl, s, t⟩
theorem dpAll_flds : ∀ {r : List Fld} {vs : List V}, DpAll K H vs (r.map dF) → vs = r.map fV
  | [], _, h => by
    cases h
    rfl
  | x :: r, _, h => by
    cases h with
    | cons a t => rw [dp_fldV a, dpAll_flds t, List.map_cons]
theorem dpAll_strs : ∀ {ws : List W} {vs : List V}, DpAll K H vs (ws.map dS) → vs = ws.map sv
  | [], _, h => by
    cases h
    rfl
  | x :: r, _, h => by
    cases h with
    | cons a t => rw [dp_str a, dpAll_strs t, List.map_cons]
theorem strs_dpAll (ws : List W) : DpAll K H (ws.map sv) (ws.map dS) := dpAll_map fun u _ => .str _
theorem flds_dpAll (r : Km.Row) : DpAll K H (r.map fV) (r.map dF) := dpAll_map fun u _ => dp_fld u
theorem row_tup {v : V} {r : Km.Row} (h : Dp K H v (rowD r)) : ∃ a, v = .ref a ∧ SqT K H a (r.map fV) := by
  obtain ⟨a, xs, rfl, s, t⟩ := dp_tup h
  rw [dpAll_flds t] at s
  exact ⟨a, rfl, s⟩
theorem strs_tup {v : V} {ws : List W} (h : Dp K H v (.tuple (ws.map dS))) : ∃ a, v = .ref a ∧ SqT K H a (ws.map sv) := by
  obtain ⟨a, xs, rfl, s, t⟩ := dp_tup h
  rw [dpAll_strs t] at s
  exact ⟨a, rfl, s⟩
end
/-- small data: it can be laid, and is not deep -/
def Sm (d : PyData) : Prop := d.canLay0 = true ∧ d.depth ≤ 8
def okW (u : W) : Prop := ∀ c ∈ u, c < 1114112
theorem okW_name {u : W} (h : isName u = true) : okW u := fun c hc => by
  simp only [isName, Bool.and_eq_true, decide_eq_true_eq, List.all_eq_true, Bool.or_eq_true, isSm_iff, isFg_iff] at h
  have := h.2 c hc
  omega
theorem sm_str {u : W} (h : okW u) : Sm (dS u) := by
  refine ⟨?_, by show (0 : Nat) ≤ 8; omega⟩
  show (mk u).cps.all (· < 0x110000) = true
  rw [Array.all_eq_true]
  intro i hi
  have hm : (mk u).cps[i] ∈ u := by
    have : (mk u).cps[i] ∈ (mk u).cps.toList := by simp
    exact this
  exact decide_eq_true (h _ hm)
theorem sm_int (n : Int) : Sm (.int n) := ⟨rfl, by show (0 : Nat) ≤ 8; omega⟩
theorem lays : ∀ {ds : List PyData} {k : Nat}, (∀ d ∈ ds, d.canLay0 = true ∧ d.depth ≤ k) → PyData.canLayAll0 ds = true ∧ PyData.depthAll ds ≤ k
  | [], _, _ => ⟨rfl, Nat.zero_le _⟩
  | d :: ds, k, h => by
    obtain ⟨a, b⟩ := h d (by simp)
    obtain ⟨a', b'⟩ := lays (ds := ds) (k := k) fun e he => h e (by simp [he])
    refine ⟨?_, ?_⟩
    · show (d.canLay0 && PyData.canLayAll0 ds) = true
      rw [a, a']
      rfl
    · show max d.depth (PyData.depthAll ds) ≤ k
      omega
theorem sh_list {ds : List PyData} {k : Nat} (h : ∀ d ∈ ds, d.canLay0 = true ∧ d.depth ≤ k) (hk : k ≤ 60) : SeqAt.shaped (.list ds) = true := by
  obtain ⟨a, b⟩ := lays h
  show (PyData.canLayAll0 ds && decide (PyData.depthAll ds + 1 ≤ 64)) = true
  rw [a, decide_eq_true (by omega)]
  rfl
theorem sh_tup {ds : List PyData} {k : Nat} (h : ∀ d ∈ ds, d.canLay0 = true ∧ d.depth ≤ k) (hk : k ≤ 60) : SeqAt.shaped (.tuple ds) = true := by
  obtain ⟨a, b⟩ := lays h
  show (PyData.canLayAll0 ds && decide (PyData.depthAll ds + 1 ≤ 64)) = true
  rw [a, decide_eq_true (by omega)]
  rfl
theorem sh_one {d : PyData} (h : d.canLay0 = true ∧ d.depth ≤ 60) : SeqAt.shaped d = true := by
  show (d.canLay0 && decide (d.depth ≤ 64)) = true
  rw [h.1, decide_eq_true (by omega)]
  rfl
theorem tup_small {ds : List PyData} {k : Nat} (h : ∀ d ∈ ds, d.canLay0 = true ∧ d.depth ≤ k) : PyData.canLay0 (.tuple ds) = true ∧ PyData.depth (.tuple ds) ≤ k + 1 := by
  obtain ⟨a, b⟩ := lays h
  exact ⟨a, by show PyData.depthAll ds + 1 ≤ k + 1; omega⟩
theorem eqv_str (a b : W) : PyData.eqv (dS a) (dS b) = decide (a = b) := by
  show (mk a == mk b) = decide (a = b)
  rw [Bool.eq_iff_iff, beq_iff_eq, decide_eq_true_eq]
  exact ⟨mk_inj, fun h => by rw [h]⟩
theorem eqv_fld (a b : Fld) : PyData.eqv (dF a) (dF b) = decide (a = b) := by
  cases a with
  | inl u =>
    cases b with
    | inl v =>
      show PyData.eqv (dS u) (dS v) = _
      rw [eqv_str, Bool.eq_iff_iff, decide_eq_true_eq, decide_eq_true_eq]
      exact ⟨fun h => by rw [h], fun h => by cases h; rfl⟩
    | inr n => exact (decide_eq_false (fun z => nomatch z)).symm
  | inr m =>
    cases b with
    | inl v => exact (decide_eq_false (fun z => nomatch z)).symm
    | inr n =>
      show (m == n) = _
      rw [Bool.eq_iff_iff, beq_iff_eq, decide_eq_true_eq]
      exact ⟨fun h => by rw [h], fun h => by cases h; rfl⟩
theorem eqvAll_flds : ∀ (r q : Km.Row), PyData.eqvAll (r.map dF) (q.map dF) = decide (r = q)
  | [], [] => rfl
  | [], _ :: _ => rfl
  | _ :: _, [] => rfl
  | x :: r, y :: q => by
    show (PyData.eqv (dF x) (dF y) && PyData.eqvAll (r.map dF) (q.map dF)) = _
    rw [eqv_fld, eqvAll_flds r q, Bool.eq_iff_iff, Bool.and_eq_true, decide_eq_true_eq, decide_eq_true_eq, decide_eq_true_eq]
    exact ⟨fun h => by rw [h.1, h.2], fun h => by cases h; exact ⟨rfl, rfl⟩⟩
theorem eqv_row (r q : Km.Row) : PyData.eqv (rowD r) (rowD q) = decide (r = q) := eqvAll_flds r q
theorem inV_strs (h : W) : ∀ hs : List W, inV (sv h) (hs.map sv) = decide (h ∈ hs)
  | [] => rfl
  | x :: hs => by
    have ih := inV_strs h hs
    show (eqV (sv x) (sv h) || inV (sv h) (hs.map sv)) = _
    have e : eqV (sv x) (sv h) = decide (h = x) := by
      show (mk x == mk h) = decide (h = x)
      rw [Bool.eq_iff_iff, beq_iff_eq, decide_eq_true_eq]
      exact ⟨fun z => (mk_inj z).symm, fun z => by rw [z]⟩
    rw [e, ih, Bool.eq_iff_iff, Bool.or_eq_true, decide_eq_true_eq, decide_eq_true_eq, decide_eq_true_eq, List.mem_cons]
theorem flat_strs (hs : List W) : (hs.map sv).all flatV = true := by
  rw [List.all_map, List.all_eq_true]
  intro x _
  rfl
/-- a comprehension each of whose elements is True -/
theorem lc_true {J : It} {n : Nat} {G : Hp → Prop} {Y : Nat → Hp → V → Hp → Prop} (w : Walk J n G Y) {g : TG} {te : TE} {vs : List Nat} {σ : L2.St} {H1 : Hp} {D : Addr} {Qd : Hp → Prop} (hD : H1 D = none) (hn : n < sizeLine) (hG : ∀ H, Same H1 H → G H)
    (hs : ∀ i x H H' (QT : VK), i < n → Same H1 H → Y i H x H' → (∀ H4, Same H H4 → QT (.bl true) H4) → g x (wipe σ vs) H' fun σ2 H2 => wipe σ2 vs = wipe σ vs ∧ te σ2 H2 QT)
    (mono : ∀ v σ H (A B : L2.St → Hp → Prop), (∀ s h, A s h → B s h) → g v σ H A → g v σ H B)
    (hd : ∀ H, Same H1 H → H D = some (.lst ((List.replicate n true).map V.bl)) → Qd H) :
    ∃ Wv : Nat → Nat → Hp → Prop, (∃ m, Wv 0 m (upd H1 D (.lst []))) ∧ ∀ i m H, Wv i m H →
      (J.stop i H ∧ Qd H) ∨ (J.go i H ∧ ∃ Nx : Hp → Prop, (∀ H', Nx H' → ∃ m', m' < m ∧ Wv (i + 1) m' H') ∧ ∀ x H', J.yld i H x H' → g x (wipe σ vs) H' fun σ2 H2 => wipe σ2 vs = wipe σ vs ∧ tYes σ2 H2 fun b H3 =>
        if b = true then te σ2 H3 fun y H4 => ∃ acc, H4 D = some (.lst acc) ∧ acc.length < sizeLine ∧ Nx (upd H4 D (.lst (acc ++ [y]))) else Nx H3) := by
  refine lc_gen w (fun i acc _ => acc = (List.replicate i true).map V.bl) hD hn hG (fun i acc _ _ e _ => e) rfl ?_ (fun acc H s hDn e => hd H s (by rw [hDn, e]))
  intro i x acc H2 H' QT QF hi s2 hin hy kT kF
  refine mono _ _ _ _ _ (fun σ2 H2 h => ⟨h.1, tyes (iteT h.2)⟩) (hs i x H2 H' QT hi s2 hy fun H4 s4 => kT _ _ s4 ?_)
  rw [hin, List.replicate_succ', List.map_append]
  rfl
theorem all_reps (n : Nat) : (List.replicate n true).all id = true := by
  rw [List.all_eq_true]
  intro x hx
  rw [(List.mem_replicate.mp hx).2]
  rfl
theorem all_same {K : PySem.W.Frag} {H : Hp} {D : Addr} {n : Nat} {Q : VK} (hD : H D = some (.lst ((List.replicate n true).map V.bl))) (q : Q (.bl true) H) : on1 (kAll K) [.ref D] H Q :=
  ⟨D, List.replicate n true, rfl, .of hD, by rw [all_reps]; exact q⟩
end Kw
set_option Elab.async false
set_option linter.all false
set_option maxRecDepth 100000
set_option maxHeartbeats 4000000
/-! The walk, part 5: unlike things, names, rows. -/
namespace Kw
open PySem PySem.Spec PyProof.Rows L2 Km
theorem cut_to {xs : List V} {z : Int} {i : Nat} (e : z = (i : Int)) : cutV xs none (some z) = xs.take i := by
  subst e
  unfold cutV
  rw [HT.sIx_none, HT.sIx_nat, List.drop_zero, Nat.sub_zero]
  by_cases h : i ≤ xs.length
  · rw [Nat.min_eq_left h]
  · rw [Nat.min_eq_right (by omega), List.take_of_length_le (by omega), List.take_of_length_le (by omega)]
theorem cut_from {xs : List V} {z : Int} {i : Nat} (e : z = (i : Int)) : cutV xs (some z) none = xs.drop i := by
  subst e
  unfold cutV
  rw [HT.sIx_none, HT.sIx_nat]
  by_cases h : i ≤ xs.length
  · rw [Nat.min_eq_left h, List.take_of_length_le]
    rw [List.length_drop]
    exact Nat.le_refl _
  · rw [Nat.min_eq_right (by omega), Nat.sub_self, List.take_zero, List.drop_of_length_le (by omega)]
theorem zero_add_int (i : Nat) : (0 : Int) + (i : Int) = (i : Int) := by omega
theorem hu65 {k : Nat} {A : Around} (hr : Room k A) : A.units + 65 < cLine := by
  have := hr.un
  omega
section
variable {P : Program} {w : World} {K : PySem.W.Frag} {mg : Str → Option Value} {base : Heap}
/-! ### are_unlike -/
def Unl (ds : List PyData) : Prop := ∀ (i j : Nat) (d e : PyData), i < j → ds[i]? = some d → ds[j]? = some e → PyData.eqv d e = false
def spUnlike (K : PySem.W.Frag) : Sp := fun vs H Q _ => ∃ (a : Addr) (xs : List V) (ds : List PyData), vs = [.ref a] ∧ SqL K H a xs ∧ DpAll K H xs ds ∧ (∀ d ∈ ds, Sm d) ∧ ds.length ≤ 1000 ∧ Unl ds ∧ ∀ H', Same H H' → Q (.bl true) H'
theorem scUnlike : FnScope ["things", "at"] ["things"] (defScope sUnlike) := ⟨rfl, rfl, rfl, by decide +kernel, rfl, by decide +kernel, by decide +kernel⟩
theorem ok_unlike (T : Txt K mg w) : Dn P w K mg base CX0 1 "are_unlike" ["things"] (spUnlike K) := by
  refine T.dUnlike.dn (fun f fd F => F.ok scUnlike (fun vs H Q E h => ?_) (fun cdv A outer s H vs Q E hr h => ?_)) (fun _ _ _ _ _ _ us hl => match us, hl with | [_], _ => rfl)
  · obtain ⟨a, xs, ds, rfl, _⟩ := h
    rfl
  · obtain ⟨a, xs, ds, rfl, hS, hd, sm, hl, un, q⟩ := h
    have hu := hu65 hr
    refine ⟨_, pss_one (ps_ret (pe_all T rfl (pe_lc (own := [("at", 1)]) (g := gName 1) rfl scUnlike.nd (pi_range1 (by rfl) T.range (pa_cons (pe_len T (pv 0)) pa_nil)) (blkOk_by (own := [("at", 1)]) (N := ["things", "at"]) (sc := defScope sUnlike) (by decide +kernel))
        (fun _ _ _ _ _ => pg_name (i := 1) scUnlike.nd rfl (Or.inl rfl)) (fun _ _ _ _ _ => pts_nil)
        (fun _ _ _ _ _ => pe_cmpR (op_ninDK K hu) (pe_ix (ix_lK K) (pv 0) (pv 1) (fun _ _ => rfl)) (pe_slice (sl_lK K) (pv 0) po_none (po_some (pv 1))) rfl)))), ?_⟩
    have hxl : xs.length = ds.length := dpAll_len hd
    refine ⟨_, rfl, xs.length, .inl ⟨xs, hS, rfl⟩, _, rfl, by omega, by omega, fun D hD => ?_⟩
    refine lc_true walk_range hD (by rw [Int.toNat_natCast, sizeLine_eq]; omega) (fun _ _ => trivial) (fun i x H2 H' QT hi s2 hy kT => ?_) (gName_mono 1) (fun H2 s2 hD2 => all_same hD2 (q H2 s2))
    obtain ⟨rfl, rfl⟩ := hy
    rw [Int.toNat_natCast] at hi
    have hv : xs[i]? = some xs[i] := by simp [hi]
    obtain ⟨d, hde, hdp⟩ := dpAll_get hd hv
    have hS2 := Same.seq s2 hS
    refine ⟨rfl, _, rfl, _, rfl, a, xs, _, xs[i], rfl, rfl, hS2, at_of (zero_add_int i) hv, _, rfl, _, rfl, _, rfl, a, xs, rfl, hS2, fun p np => ?_⟩
    have s3 : Same H' (upd H' p (.lst (cutV xs none (some (0 + (i : Int)))))) := same_new (Same.refl _) np
    have sub : ∀ e ∈ ds.take i, Sm e := fun e he => sm e (List.mem_of_mem_take he)
    have smd : Sm d := sm d (List.mem_of_getElem? hde)
    refine ⟨d, ds.take i, dp_same (fun b o h => s3 b o (s2 b o h)) d _ hdp, .lst (.of (upd_same.trans (by rw [cut_to (zero_add_int i)]))) (dps_same (fun b o h => s3 b o (s2 b o h)) _ _ (dpAll_take i hd)), sh_one ⟨smd.1, Nat.le_trans smd.2 (by omega)⟩, sh_list sub (by omega), ?_⟩
    have e : (!(ds.take i).any fun z => PyData.eqv z d) = true := by
      rw [Bool.not_eq_true', List.any_eq_false]
      intro z hz
      obtain ⟨j, hj, ez⟩ := List.mem_iff_getElem.mp hz
      rw [List.length_take] at hj
      rw [Bool.not_eq_true]
      refine un j i z d (by omega) ?_ hde
      rw [← ez, List.getElem_take]
      exact List.getElem?_eq_getElem _
    rw [e]
    exact kT _ s3
/-! ### are_names -/
def spNames (K : PySem.W.Frag) : Sp := fun vs H Q _ => ∃ (a : Addr) (m : Int) (ws : List W), vs = [.ref a, .int m] ∧ SqT K H a (ws.map sv) ∧ 1 ≤ ws.length ∧ (ws.length : Int) ≤ m ∧ m ≤ 100 ∧ (∀ u ∈ ws, isName u = true) ∧ ws.Nodup ∧ ∀ H', Same H H' → Q (.bl true) H'
theorem unl_strs {ws : List W} (h : ws.Nodup) : Unl (ws.map dS) := fun i j d e hij hi hj => by
  rw [List.getElem?_map] at hi hj
  obtain ⟨a, ha, rfl⟩ := Option.map_eq_some_iff.mp hi
  obtain ⟨b, hb, rfl⟩ := Option.map_eq_some_iff.mp hj
  rw [eqv_str, decide_eq_false_iff_not]
  intro z
  subst z
  have := nd_ix h ha hb
  omega
theorem name_small {u : W} (h : isName u = true) : u.length ≤ 1000000 := by
  simp only [isName, Bool.and_eq_true, decide_eq_true_eq] at h
  omega
theorem scNames : FnScope ["thing", "most", "one"] ["thing", "most"] (defScope sAreNames) := ⟨rfl, rfl, rfl, by decide +kernel, rfl, by decide +kernel, by decide +kernel⟩
/-- a tuple's type -/
theorem ty_tup {H : Hp} {a : Addr} {xs : List V} (h : SqT K H a xs) : TyX K H (.ref a) (.type "tuple") := by
  rcases h with (h | ⟨o, h⟩) | ⟨o, its, n, h1, h2, _⟩
  · exact .base (.tup h)
  · exact .fTuple h
  · exact .kTuple h1 h2
theorem ty_lst {H : Hp} {a : Addr} {xs : List V} (h : SqL K H a xs) : TyX K H (.ref a) (.type "list") := by
  rcases h with (h | ⟨o, h⟩) | ⟨o, its, n, h1, h2, _⟩
  · exact .base (.lst h)
  · exact .base (.frz h)
  · exact .kList h1 h2
theorem ok_names (T : Txt K mg w) : Dn P w K mg base CX0 2 "are_names" ["thing", "most"] (spNames K) := by
  refine T.dNames.dn (fun f fd F => F.ok scNames (fun vs H Q E h => ?_) (fun cdv A outer s H vs Q E hr h => ?_)) (fun _ _ _ _ _ _ us hl => match us, hl with | [_, _], _ => rfl)
  · obtain ⟨a, m, ws, rfl, _⟩ := h
    rfl
  · obtain ⟨a, m, ws, rfl, hS, h1, h2, h3, hn, nd, q⟩ := h
    refine ⟨_, pss_cons (ps_if (PW.pt (pw_or (pt_not (pt_val (pe_isi T (pv 0) T.tuple boot_tuple))) (pw_or1 (pt_not (pt_chain op_le op_le pe_int (pe_len T (pv 0)) (pv 1)))))) (pss_one (ps_ret pe_bl)) pss_nil)
      (pss_one (ps_ret (pe_and (pe_all T rfl (pe_lc (own := [("one", 2)]) (g := gName 2) rfl scNames.nd (pi_tup (pv 0)) (blkOk_by (own := [("one", 2)]) (N := ["thing", "most", "one"]) (sc := defScope sAreNames) (by decide +kernel))
        (fun _ _ _ _ _ => pg_name (i := 2) scNames.nd rfl (Or.inl rfl)) (fun _ _ _ _ _ => pts_nil)
        (fun _ _ _ _ _ => pe_dn (ok_name T) hr pass0 (pa_cons (pv 2) pa_nil)))) (pe_one (pe_dn (ok_unlike T) hr pass0 (pa_cons (pe_list1 T (pv 0)) pa_nil)))))), ?_⟩
    refine ⟨_, rfl, "tuple", true, ty_tup hS, by decide +kernel, _, rfl, iteF ?_⟩
    refine ⟨_, rfl, ws.length, .inr ⟨_, hS, (List.length_map ..).symm⟩, _, _, rfl, rfl, _, rfl, ?_⟩
    rw [decide_eq_true (show (1 : Int) ≤ ((ws.length : Nat) : Int) by omega)]
    refine iteT ⟨_, rfl, _, _, rfl, rfl, _, rfl, ?_⟩
    rw [decide_eq_true h2]
    refine iteF ⟨_, rfl, a, rfl, ⟨_, hS⟩, fun D hD => ?_⟩
    refine lc_true (walk_tup (xs := ws.map sv)) hD (by rw [List.length_map, sizeLine_eq]; omega) (fun H' s' => same_sqt s' hS) (fun i x H2 H' QT hi s2 hy kT => ?_) (gName_mono 2) (fun H2 s2 hD2 => ⟨D, _, rfl, .of hD2, ?_⟩)
    · obtain ⟨rfl, hx⟩ := hy
      rw [List.getElem?_map] at hx
      obtain ⟨u, hu, rfl⟩ := Option.map_eq_some_iff.mp hx
      have nu := hn u (List.mem_of_getElem? hu)
      refine ⟨rfl, _, rfl, u, rfl, name_small nu, fun H4 s4 => ?_⟩
      rw [nu]
      exact kT H4 s4
    · rw [all_reps]
      have hS2 := same_sqt s2 hS
      refine ⟨_, rfl, iteT ?_⟩
      refine ⟨_, rfl, a, _, rfl, .inr hS2, fun l nl => ?_⟩
      exact ⟨l, _, ws.map dS, rfl, .of upd_same, strs_dpAll ws, fun d hd => by
        obtain ⟨u, hu, rfl⟩ := List.mem_map.mp hd
        exact sm_str (okW_name (hn u hu)), by rw [List.length_map]; omega, unl_strs nd, fun H' s' => q H' ((same_new s2 nl).trans s')⟩
/-! ### are_rows -/
def spRows (K : PySem.W.Frag) : Sp := fun vs H Q _ => ∃ (v : V) (m n : Int) (rs : List Km.Row), vs = [v, .int m, .int n] ∧ Dp K H v (.tuple (rs.map rowD)) ∧ (rs.length : Int) ≤ m ∧ m ≤ 100 ∧ (∀ r ∈ rs, (r.length : Int) = n) ∧ ∀ H', Same H H' → Q (.bl true) H'
theorem scRows : FnScope ["thing", "most", "width", "one"] ["thing", "most", "width"] (defScope sAreRows) := ⟨rfl, rfl, rfl, by decide +kernel, rfl, by decide +kernel, by decide +kernel⟩
theorem ok_rows (T : Txt K mg w) : Dn P w K mg base CX0 1 "are_rows" ["thing", "most", "width"] (spRows K) := by
  refine T.dRows.dn (fun f fd F => F.ok scRows (fun vs H Q E h => ?_) (fun cdv A outer s H vs Q E hr h => ?_)) (fun _ _ _ _ _ _ us hl => match us, hl with | [_, _, _], _ => rfl)
  · obtain ⟨a, m, n, rs, rfl, _⟩ := h
    rfl
  · obtain ⟨v, m, n, rs, rfl, hv, h2, h3, hn, q⟩ := h
    obtain ⟨a, xs, rfl, hS, hd⟩ := dp_tup hv
    have hxl : xs.length = rs.length := (dpAll_len hd).trans (List.length_map ..)
    refine ⟨_, pss_cons (ps_if (PW.pt (pw_or (pt_not (pt_val (pe_isi T (pv 0) T.tuple boot_tuple))) (pw_or1 (pt_cmpR op_gt (pe_len T (pv 0)) (pv 1) (nomark _))))) (pss_one (ps_ret pe_bl)) pss_nil)
      (pss_one (ps_ret (pe_all T rfl (pe_lc (own := [("one", 3)]) (g := gName 3) rfl scRows.nd (pi_tup (pv 0)) (blkOk_by (own := [("one", 3)]) (N := ["thing", "most", "width", "one"]) (sc := defScope sAreRows) (by decide +kernel))
        (fun _ _ _ _ _ => pg_name (i := 3) scRows.nd rfl (Or.inl rfl)) (fun _ _ _ _ _ => pts_nil)
        (fun _ _ _ _ _ => pe_and (pe_isi T (pv 3) T.tuple boot_tuple) (pe_one (pe_cmpR op_eq (pe_len T (pv 3)) (pv 2) (nomark _)))))))), ?_⟩
    refine ⟨_, rfl, "tuple", true, ty_tup hS, by decide +kernel, _, rfl, iteF ?_⟩
    refine ⟨_, rfl, rs.length, .inr ⟨_, hS, hxl.symm⟩, _, rfl, _, _, rfl, rfl, _, rfl, ?_⟩
    rw [decide_eq_false (show ¬ m < ((rs.length : Nat) : Int) by omega)]
    refine iteF ⟨_, rfl, a, rfl, ⟨_, hS⟩, fun D hD => ?_⟩
    refine lc_true (walk_tup (xs := xs)) hD (by rw [sizeLine_eq]; omega) (fun H' s' => same_sqt s' hS) (fun i x H2 H' QT hi s2 hy kT => ?_) (gName_mono 3) (fun H2 s2 hD2 => all_same hD2 (q H2 s2))
    obtain ⟨rfl, hx⟩ := hy
    obtain ⟨d, hde, hdp⟩ := dpAll_get hd hx
    rw [List.getElem?_map] at hde
    obtain ⟨r, hr', rfl⟩ := Option.map_eq_some_iff.mp hde
    obtain ⟨b, rfl, hb⟩ := row_tup hdp
    have hb2 := same_sqt s2 hb
    refine ⟨rfl, _, rfl, "tuple", true, ty_tup hb2, by decide +kernel, _, rfl, iteT ⟨_, rfl, r.length, .inr ⟨_, hb2, (List.length_map ..).symm⟩, _, rfl, rfl, ?_⟩⟩
    rw [decide_eq_true (show V.int ((r.length : Nat) : Int) = V.int n by rw [hn r (List.mem_of_getElem? hr')])]
    exact kT _ (Same.refl _)
end
end Kw
set_option Elab.async false
set_option linter.all false
set_option maxRecDepth 100000
set_option maxHeartbeats 4000000
/-! The walk, part 6: lanes, supplies, catalogs. -/
namespace Kw
open PySem PySem.Spec PyProof.Rows L2 Km
theorem slA_take {K : PySem.W.Frag} {H : Hp} {Q : VK} {a : Addr} {xs : List V} {z : Int} {i : Nat} (h : SqT K H a xs) (e : z = (i : Int)) (q : ∀ p H', Same H H' → SqT K H' p (xs.take i) → Q (.ref p) H') : rSlA K (.ref a) none (some z) H Q := by
  refine ⟨a, xs, rfl, h, fun hw => ?_, fun _ p np => ?_⟩
  · refine q a H (Same.refl H) ?_
    have h2 := hw.2
    rw [e, HT.sIx_nat] at h2
    rw [List.take_of_length_le (by omega)]
    exact h
  · refine q p _ (same_new (Same.refl H) np) ?_
    rw [cut_to e]
    exact .of upd_same
def strsD (ws : List W) : PyData := .tuple (ws.map dS)
def rowsD (rs : List Km.Row) : PyData := .tuple (rs.map rowD)
/-- a catalog as data -/
def catD (q : Ps) : PyData := .tuple [strsD (names q 0), strsD (names q 1), strsD (names q 2), rowsD (q 3), rowsD (q 4)]
section
variable {P : Program} {w : World} {K : PySem.W.Frag} {mg : Str → Option Value} {base : Heap}
/-! ### is_lane -/
def spLane (K : PySem.W.Frag) : Sp := fun vs H Q _ => ∃ (x ha ga : Addr) (hs gs : List W) (h g : W) (a b p : Int), vs = [.ref x, .ref ha, .ref ga] ∧ SqT K H x [sv h, sv g, .int a, .int b, .int p] ∧ SqT K H ha (hs.map sv) ∧ SqT K H ga (gs.map sv) ∧
  isName h = true ∧ isName g = true ∧ h ∈ hs ∧ g ∈ gs ∧ 0 ≤ a ∧ a ≤ b ∧ b ≤ 9 ∧ 0 ≤ p ∧ p ≤ 99 ∧ ∀ H', Same H H' → Q (.bl true) H'
abbrev nmLane : List Str := ["thing", "houses", "regions", "house", "region", "least", "most", "price"]
theorem scLane : FnScope nmLane ["thing", "houses", "regions"] (defScope sIsLane) := ⟨rfl, rfl, rfl, by decide +kernel, rfl, by decide +kernel, by decide +kernel⟩
theorem ok_lane (T : Txt K mg w) : Dn P w K mg base CX0 2 "is_lane" ["thing", "houses", "regions"] (spLane K) := by
  refine T.dLane.dn (fun f fd F => F.ok scLane (fun vs H Q E h => ?_) (fun cdv A outer s H vs Q E hr h => ?_)) (fun _ _ _ _ _ _ us hl => match us, hl with | [_, _, _], _ => rfl)
  · obtain ⟨x, ha, ga, hs, gs, h, g, a, b, p, rfl, _⟩ := h
    rfl
  · obtain ⟨x, ha, ga, hs, gs, h, g, a, b, p, rfl, hx, hh, hg, n1, n2, m1, m2, b1, b2, b3, b4, b5, q⟩ := h
    refine ⟨_, pss_cons (ps_asg (pv 0) (pg_tup rfl (pgs_cons (pg_name (i := 3) scLane.nd rfl (Or.inl rfl)) (pgs_cons (pg_name (i := 4) scLane.nd rfl (Or.inl rfl)) (pgs_cons (pg_name (i := 5) scLane.nd rfl (Or.inl rfl)) (pgs_cons (pg_name (i := 6) scLane.nd rfl (Or.inl rfl)) (pgs_cons (pg_name (i := 7) scLane.nd rfl (Or.inl rfl)) pgs_nil)))))))
      (pss_cons (ps_if (PW.pt (pw_or (pt_not (pt_val (pe_dn (ok_name T) (hr.mono (by decide)) pass0 (pa_cons (pv 3) pa_nil)))) (pw_or (pt_not (pt_val (pe_dn (ok_name T) (hr.mono (by decide)) pass0 (pa_cons (pv 4) pa_nil)))) (pw_or (pt_cmpR (op_ninSK K) (pv 3) (pv 1) rfl) (pw_or1 (pt_cmpR (op_ninSK K) (pv 4) (pv 2) rfl)))))) (pss_one (ps_ret pe_bl)) pss_nil)
      (pss_one (ps_ret (pe_and (pe_dn (ok_whole T) (hr.mono (by decide)) pass0 (pa_cons (pv 6) (pa_cons pe_int (pa_cons pe_int pa_nil)))) (pe_and (pe_dn (ok_whole T) (hr.mono (by decide)) pass0 (pa_cons (pv 5) (pa_cons pe_int (pa_cons (pv 6) pa_nil)))) (pe_one (pe_dn (ok_whole T) (hr.mono (by decide)) pass0 (pa_cons (pv 7) (pa_cons pe_int (pa_cons pe_int pa_nil)))))))))), ?_⟩
    refine ⟨_, rfl, x, _, rfl, hx, rfl, _, _, rfl, _, _, rfl, _, _, rfl, _, _, rfl, _, _, rfl, rfl, ?_⟩
    refine ⟨_, rfl, h, rfl, name_small n1, fun H2 s2 => ⟨_, rfl, ?_⟩⟩
    rw [n1]
    refine iteF ⟨_, rfl, g, rfl, name_small n2, fun H3 s3 => ⟨_, rfl, ?_⟩⟩
    rw [n2]
    have s4 := s2.trans s3
    refine iteF ⟨_, rfl, _, rfl, ha, _, rfl, .inr (same_sqt s4 hh), rfl, flat_strs hs, _, rfl, ?_⟩
    rw [inV_strs, decide_eq_true m1]
    refine iteF ⟨_, rfl, _, rfl, ga, _, rfl, .inr (same_sqt s4 hg), rfl, flat_strs gs, _, rfl, ?_⟩
    rw [inV_strs, decide_eq_true m2]
    refine iteF ⟨_, rfl, b, 0, 9, rfl, _, rfl, ?_⟩
    rw [decide_eq_true (show (0 : Int) ≤ b ∧ b ≤ 9 by omega)]
    refine iteT ⟨_, rfl, _, rfl, a, 0, b, rfl, _, rfl, ?_⟩
    rw [decide_eq_true (show (0 : Int) ≤ a ∧ a ≤ b by omega)]
    refine iteT ⟨_, rfl, p, 0, 99, rfl, ?_⟩
    rw [decide_eq_true (show (0 : Int) ≤ p ∧ p ≤ 99 by omega)]
    exact q H3 s4
/-! ### is_supply -/
def spSupply (K : PySem.W.Frag) : Sp := fun vs H Q _ => ∃ (x ha ga : Addr) (hs gs : List W) (n h g : W) (d c : Int), vs = [.ref x, .ref ha, .ref ga] ∧ SqT K H x [sv n, sv h, sv g, .int d, .int c] ∧ SqT K H ha (hs.map sv) ∧ SqT K H ga (gs.map sv) ∧
  isName n = true ∧ isName h = true ∧ isName g = true ∧ h ∈ hs ∧ g ∈ gs ∧ 0 ≤ d ∧ d ≤ 60 ∧ 0 ≤ c ∧ c ≤ 99 ∧ ∀ H', Same H H' → Q (.bl true) H'
abbrev nmSupply : List Str := ["thing", "houses", "items", "name", "house", "item", "day", "count"]
theorem scSupply : FnScope nmSupply ["thing", "houses", "items"] (defScope sIsSupply) := ⟨rfl, rfl, rfl, by decide +kernel, rfl, by decide +kernel, by decide +kernel⟩
theorem ok_supply (T : Txt K mg w) : Dn P w K mg base CX0 2 "is_supply" ["thing", "houses", "items"] (spSupply K) := by
  obtain ⟨tD, mD⟩ := T.DAY
  refine T.dSupply.dn (fun f fd F => F.ok scSupply (fun vs H Q E h => ?_) (fun cdv A outer s H vs Q E hr h => ?_)) (fun _ _ _ _ _ _ us hl => match us, hl with | [_, _, _], _ => rfl)
  · obtain ⟨x, ha, ga, hs, gs, n, h, g, d, c, rfl, _⟩ := h
    rfl
  · obtain ⟨x, ha, ga, hs, gs, n, h, g, d, c, rfl, hx, hh, hg, n0, n1, n2, m1, m2, b1, b2, b3, b4, q⟩ := h
    refine ⟨_, pss_cons (ps_asg (pv 0) (pg_tup rfl (pgs_cons (pg_name (i := 3) scSupply.nd rfl (Or.inl rfl)) (pgs_cons (pg_name (i := 4) scSupply.nd rfl (Or.inl rfl)) (pgs_cons (pg_name (i := 5) scSupply.nd rfl (Or.inl rfl)) (pgs_cons (pg_name (i := 6) scSupply.nd rfl (Or.inl rfl)) (pgs_cons (pg_name (i := 7) scSupply.nd rfl (Or.inl rfl)) pgs_nil)))))))
      (pss_cons (ps_if (PW.pt (pw_or (pt_not (pt_val (pe_dn (ok_name T) (hr.mono (by decide)) pass0 (pa_cons (pv 3) pa_nil)))) (pw_or (pt_not (pt_val (pe_dn (ok_name T) (hr.mono (by decide)) pass0 (pa_cons (pv 4) pa_nil)))) (pw_or (pt_not (pt_val (pe_dn (ok_name T) (hr.mono (by decide)) pass0 (pa_cons (pv 5) pa_nil))))
          (pw_or (pt_cmpR (op_ninSK K) (pv 4) (pv 1) rfl) (pw_or1 (pt_cmpR (op_ninSK K) (pv 5) (pv 2) rfl))))))) (pss_one (ps_ret pe_bl)) pss_nil)
      (pss_one (ps_ret (pe_and (pe_dn (ok_whole T) (hr.mono (by decide)) pass0 (pa_cons (pv 6) (pa_cons pe_int (pa_cons (pe_gI mD) pa_nil)))) (pe_one (pe_dn (ok_whole T) (hr.mono (by decide)) pass0 (pa_cons (pv 7) (pa_cons pe_int (pa_cons pe_int pa_nil))))))))), ?_⟩
    refine ⟨_, rfl, x, _, rfl, hx, rfl, _, _, rfl, _, _, rfl, _, _, rfl, _, _, rfl, _, _, rfl, rfl, ?_⟩
    refine ⟨_, rfl, n, rfl, name_small n0, fun H1 s1 => ⟨_, rfl, ?_⟩⟩
    rw [n0]
    refine iteF ⟨_, rfl, h, rfl, name_small n1, fun H2 s2 => ⟨_, rfl, ?_⟩⟩
    rw [n1]
    refine iteF ⟨_, rfl, g, rfl, name_small n2, fun H3 s3 => ⟨_, rfl, ?_⟩⟩
    rw [n2]
    have s4 := s1.trans (s2.trans s3)
    refine iteF ⟨_, rfl, _, rfl, ha, _, rfl, .inr (same_sqt s4 hh), rfl, flat_strs hs, _, rfl, ?_⟩
    rw [inV_strs, decide_eq_true m1]
    refine iteF ⟨_, rfl, _, rfl, ga, _, rfl, .inr (same_sqt s4 hg), rfl, flat_strs gs, _, rfl, ?_⟩
    rw [inV_strs, decide_eq_true m2]
    refine iteF ⟨_, rfl, d, 0, 60, rfl, _, rfl, ?_⟩
    rw [decide_eq_true (show (0 : Int) ≤ d ∧ d ≤ 60 by omega)]
    refine iteT ⟨_, rfl, c, 0, 99, rfl, ?_⟩
    rw [decide_eq_true (show (0 : Int) ≤ c ∧ c ≤ 99 by omega)]
    exact q H3 s4
end
end Kw
set_option Elab.async false
set_option linter.all false
set_option maxRecDepth 100000
set_option maxHeartbeats 600000
/-! The walk, part 7: catalogs told. -/
namespace Kw
open PySem PySem.Spec PyProof.Rows L2 Km
/-- the parts of a catalog that stands -/
theorem cat_parts {K : PySem.W.Frag} {H : Hp} {v : V} {q : Ps} (h : Dp K H v (catD q)) : ∃ a a0 a1 a2 a3 a4 : Addr, ∃ ls ss : List V, v = .ref a ∧ SqT K H a [.ref a0, .ref a1, .ref a2, .ref a3, .ref a4] ∧ SqT K H a0 ((names q 0).map sv) ∧ SqT K H a1 ((names q 1).map sv) ∧ SqT K H a2 ((names q 2).map sv) ∧
    SqT K H a3 ls ∧ DpAll K H ls ((q 3).map rowD) ∧ SqT K H a4 ss ∧ DpAll K H ss ((q 4).map rowD) := by
  obtain ⟨a, xs, rfl, hx, hd⟩ := dp_tup h
  cases hd with
  | cons d0 hd =>
    cases hd with
    | cons d1 hd =>
      cases hd with
      | cons d2 hd =>
        cases hd with
        | cons d3 hd =>
          cases hd with
          | cons d4 hd =>
            cases hd
            obtain ⟨a0, rfl, s0⟩ := strs_tup d0
            obtain ⟨a1, rfl, s1⟩ := strs_tup d1
            obtain ⟨a2, rfl, s2⟩ := strs_tup d2
            obtain ⟨a3, ls, rfl, s3, e3⟩ := dp_tup d3
            obtain ⟨a4, ss, rfl, s4, e4⟩ := dp_tup d4
            exact ⟨a, a0, a1, a2, a3, a4, ls, ss, rfl, hx, s0, s1, s2, s3, e3, s4, e4⟩
theorem row_sm {r : Km.Row} (h : ∀ x ∈ r, ∀ u, x = .inl u → okW u) : Sm (rowD r) := by
  have := tup_small (ds := r.map dF) (k := 0) (fun d hd => by
    obtain ⟨x, hx, rfl⟩ := List.mem_map.mp hd
    cases x with
    | inl u => exact ⟨(sm_str (h _ hx u rfl)).1, Nat.le_refl _⟩
    | inr n => exact ⟨rfl, Nat.le_refl _⟩)
  exact ⟨this.1, Nat.le_trans this.2 (by omega)⟩
theorem unl_rows {rs : List Km.Row} (h : rs.Nodup) : Unl (rs.map rowD) := fun i j d e hij hi hj => by
  rw [List.getElem?_map] at hi hj
  obtain ⟨a, ha, rfl⟩ := Option.map_eq_some_iff.mp hi
  obtain ⟨b, hb, rfl⟩ := Option.map_eq_some_iff.mp hj
  rw [eqv_row, decide_eq_false_iff_not]
  intro z
  subst z
  have := nd_ix h ha hb
  omega
theorem tupOnly_flds : ∀ r : Km.Row, tupOnlys (r.map dF) = true
  | [] => rfl
  | x :: r => by
    show (tupOnly (dF x) && tupOnlys (r.map dF)) = true
    rw [tupOnly_flds r, Bool.and_true]
    cases x <;> rfl
theorem tupOnly_row (r : Km.Row) : tupOnly (rowD r) = true := tupOnly_flds r
theorem tupOnly_rows : ∀ rs : List Km.Row, tupOnlys (rs.map rowD) = true
  | [] => rfl
  | r :: rs => by
    show (tupOnly (rowD r) && tupOnlys (rs.map rowD)) = true
    rw [tupOnly_row r, tupOnly_rows rs]
    rfl
theorem tupOnly_strs : ∀ rs : List W, tupOnlys (rs.map dS) = true
  | [] => rfl
  | r :: rs => by
    show (tupOnly (dS r) && tupOnlys (rs.map dS)) = true
    rw [tupOnly_strs rs]
    rfl
theorem tupOnly_cat (q : Ps) : tupOnly (catD q) = true := by
  show (tupOnlys _ && (tupOnlys _ && (tupOnlys _ && (tupOnlys _ && (tupOnlys _ && true))))) = true
  rw [tupOnly_strs, tupOnly_strs, tupOnly_strs, tupOnly_rows, tupOnly_rows]
  rfl
section
variable {P : Program} {w : World} {K : PySem.W.Frag} {mg : Str → Option Value} {base : Heap}
def spIsCat (K : PySem.W.Frag) : Sp := fun vs H Q _ => ∃ (v : V) (q : Ps), vs = [v] ∧ Dp K H v (catD q) ∧ Valid q ∧ ∀ H', Same H H' → Q (.bl true) H'
abbrev nmCat : List Str := ["thing", "houses", "regions", "items", "lanes", "supplies", "part", "lane", "supply"]
theorem scCat : FnScope nmCat ["thing"] (defScope sIsCat) := ⟨rfl, rfl, rfl, by decide +kernel, rfl, by decide +kernel, by decide +kernel⟩
theorem names_len (q : Ps) (k : Nat) : (names q k).length = (q k).length := List.length_map ..
theorem names_rm {q : Ps} (VQ : Valid q) {k : Nat} (hk : k < 3) : 1 ≤ (names q k).length ∧ ((names q k).length : Int) ≤ 5 := by
  have h1 := List.length_pos_iff.mpr (VQ.ne k hk)
  have h2 := VQ.rm k (by omega)
  rw [names_len]
  have e : room k = 5 := by
    match k, hk with
    | 0, _ => rfl
    | 1, _ => rfl
    | 2, _ => rfl
  omega
theorem ok_cat (T : Txt K mg w) : Dn P w K mg base CX0 3 "is_catalog" ["thing"] (spIsCat K) := by
  obtain ⟨tP, mP⟩ := T.PLACES
  obtain ⟨tL, mL⟩ := T.LANES
  obtain ⟨tS, mS⟩ := T.SUPPLIES
  refine T.dCat.dn (fun f fd F => F.ok scCat (fun vs H Q E h => ?_) (fun cdv A outer s H vs Q E hr h => ?_)) (fun _ _ _ _ _ _ us hl => match us, hl with | [_], _ => rfl)
  · obtain ⟨v, q, rfl, _⟩ := h
    rfl
  · obtain ⟨v, q, rfl, hv, VQ, kk⟩ := h
    obtain ⟨a, a0, a1, a2, a3, a4, ls, ss, rfl, hx, p0, p1, p2, p3, d3, p4, d4⟩ := cat_parts hv
    have r1 : Room 1 _ := hr.mono (by decide)
    refine ⟨_, pss_cons (ps_if (PW.pt (pw_or (pt_not (pt_val (pe_isi T (pv 0) T.tuple boot_tuple))) (pw_or1 (pt_cmpR op_ne (pe_len T (pv 0)) pe_int (nomark _))))) (pss_one (ps_ret pe_bl)) pss_nil)
      (pss_cons (ps_asg (pv 0) (pg_tup rfl (pgs_cons (pg_name (i := 1) scCat.nd rfl (Or.inr rfl)) (pgs_cons (pg_name (i := 2) scCat.nd rfl (Or.inr rfl)) (pgs_cons (pg_name (i := 3) scCat.nd rfl (Or.inr rfl)) (pgs_cons (pg_name (i := 4) scCat.nd rfl (Or.inl rfl)) (pgs_cons (pg_name (i := 5) scCat.nd rfl (Or.inl rfl)) pgs_nil)))))))
      (pss_cons (ps_if (pt_not (pt_val (pe_all T rfl (pe_lc (own := [("part", 6)]) (g := gName 6) rfl scCat.nd (pi_tup (pe_tup (pa_cons (pv 1) (pa_cons (pv 2) (pa_cons (pv 3) pa_nil))))) (blkOk_by (own := [("part", 6)]) (N := nmCat) (sc := defScope sIsCat) (by decide +kernel))
          (fun _ _ _ _ _ => pg_name (i := 6) scCat.nd rfl (Or.inl rfl)) (fun _ _ _ _ _ => pts_nil) (fun _ _ _ _ _ => pe_dn (ok_names T) hr pass0 (pa_cons (pv 6) (pa_cons (pe_gI mP) pa_nil))))))) (pss_one (ps_ret pe_bl)) pss_nil)
      (pss_cons (ps_if (PW.pt (pw_or (pt_not (pt_val (pe_dn (ok_rows T) r1 pass0 (pa_cons (pv 4) (pa_cons (pe_gI mL) (pa_cons pe_int pa_nil)))))) (pw_or1 (pt_not (pt_val (pe_dn (ok_rows T) r1 pass0 (pa_cons (pv 5) (pa_cons (pe_gI mS) (pa_cons pe_int pa_nil))))))))) (pss_one (ps_ret pe_bl)) pss_nil)
      (pss_cons (ps_if (pt_not (pt_val (pe_all T rfl (pe_lc (own := [("lane", 7)]) (g := gName 7) rfl scCat.nd (pi_tup (pv 4)) (blkOk_by (own := [("lane", 7)]) (N := nmCat) (sc := defScope sIsCat) (by decide +kernel))
          (fun _ _ _ _ _ => pg_name (i := 7) scCat.nd rfl (Or.inl rfl)) (fun _ _ _ _ _ => pts_nil) (fun _ _ _ _ _ => pe_dn (ok_lane T) hr pass0 (pa_cons (pv 7) (pa_cons (pv 1) (pa_cons (pv 2) pa_nil)))))))) (pss_one (ps_ret pe_bl)) pss_nil)
      (pss_cons (ps_if (pt_not (pt_val (pe_all T rfl (pe_lc (own := [("supply", 8)]) (g := gName 8) rfl scCat.nd (pi_tup (pv 5)) (blkOk_by (own := [("supply", 8)]) (N := nmCat) (sc := defScope sIsCat) (by decide +kernel))
          (fun _ _ _ _ _ => pg_name (i := 8) scCat.nd rfl (Or.inl rfl)) (fun _ _ _ _ _ => pts_nil) (fun _ _ _ _ _ => pe_dn (ok_supply T) hr pass0 (pa_cons (pv 8) (pa_cons (pv 1) (pa_cons (pv 3) pa_nil)))))))) (pss_one (ps_ret pe_bl)) pss_nil)
      (pss_one (ps_ret (pe_and (pe_dn (ok_unlike T) r1 pass0 (pa_cons (pe_lc (own := [("lane", 7)]) (g := gName 7) rfl scCat.nd (pi_tup (pv 4)) (blkOk_by (own := [("lane", 7)]) (N := nmCat) (sc := defScope sIsCat) (by decide +kernel))
          (fun _ _ _ _ _ => pg_name (i := 7) scCat.nd rfl (Or.inl rfl)) (fun _ _ _ _ _ => pts_nil) (fun _ _ _ _ _ => pe_slice (sl_tK K) (pv 7) po_none (po_some pe_int))) pa_nil))
        (pe_one (pe_dn (ok_unlike T) r1 pass0 (pa_cons (pe_lc (own := [("supply", 8)]) (g := gName 8) rfl scCat.nd (pi_tup (pv 5)) (blkOk_by (own := [("supply", 8)]) (N := nmCat) (sc := defScope sIsCat) (by decide +kernel))
          (fun _ _ _ _ _ => pg_name (i := 8) scCat.nd rfl (Or.inl rfl)) (fun _ _ _ _ _ => pts_nil) (fun _ _ _ _ _ => pe_ix (ix_tK K) (pv 8) pe_int (fun _ _ => rfl))) pa_nil))))))))))), ?_⟩
    -- a tuple of five
    refine ⟨_, rfl, "tuple", true, ty_tup hx, by decide +kernel, _, rfl, iteF ⟨_, rfl, 5, .inr ⟨_, hx, rfl⟩, rfl, _, rfl, iteF ?_⟩⟩
    refine ⟨_, rfl, a, _, rfl, hx, rfl, _, _, rfl, _, _, rfl, _, _, rfl, _, _, rfl, _, _, rfl, rfl, ?_⟩
    -- names
    refine ⟨_, rfl, _, rfl, _, rfl, (by show 3 ≤ sizeLine; rw [sizeLine_eq]; decide), fun p np => ⟨p, rfl, ⟨_, .of upd_same⟩, fun D hD => ?_⟩⟩
    have s1 : Same H (upd H p (.tup [.ref a0, .ref a1, .ref a2])) := same_new (Same.refl H) np
    have good : ∀ H2, Same H H2 → ∀ k, k < 3 → ∀ b, SqT K H b ((names q k).map sv) → ∀ QT : VK, (∀ H4, Same H2 H4 → QT (.bl true) H4) → spNames K [.ref b, .int 5] H2 QT E0 := fun H2 s2 k hk b hb QT kT =>
      ⟨b, 5, names q k, rfl, same_sqt s2 hb, (names_rm VQ hk).1, (names_rm VQ hk).2, by omega, VQ.names_ok hk, VQ.nd k hk, kT⟩
    refine lc_true (walk_tup (xs := [.ref a0, .ref a1, .ref a2])) hD (by show 3 < sizeLine; rw [sizeLine_eq]; decide) (fun H' s' => same_sqt s' (.of upd_same)) (fun i x H2 H' QT hi s2 hy kT => ?_) (gName_mono 6) (fun H2 s2 hD2 => ⟨D, _, rfl, .of hD2, ?_⟩)
    · obtain ⟨rfl, hx⟩ := hy
      have s3 := s1.trans s2
      match i, hi, hx with
      | 0, _, hx =>
        cases hx
        exact ⟨rfl, _, rfl, good H' s3 0 (by omega) a0 p0 QT kT⟩
      | 1, _, hx =>
        cases hx
        exact ⟨rfl, _, rfl, good H' s3 1 (by omega) a1 p1 QT kT⟩
      | 2, _, hx =>
        cases hx
        exact ⟨rfl, _, rfl, good H' s3 2 (by omega) a2 p2 QT kT⟩
    rw [all_reps]
    have s3 := s1.trans s2
    -- rows
    have l3 : ((q 3).length : Int) ≤ 20 := by
      have : (q 3).length ≤ 20 := VQ.rm 3 (by omega)
      omega
    have l4 : ((q 4).length : Int) ≤ 14 := by
      have : (q 4).length ≤ 14 := VQ.rm 4 (by omega)
      omega
    refine ⟨_, rfl, iteF ⟨_, rfl, .ref a3, 20, 5, q 3, rfl, .tup (same_sqt s3 p3) (dps_same s3 _ _ d3), l3, by omega, fun r hr => by
      obtain ⟨_, _, _, _, _, rfl, _⟩ := VQ.ln r hr
      rfl, fun H4 s4 => ⟨_, rfl, iteF ⟨_, rfl, .ref a4, 14, 5, q 4, rfl, ?_⟩⟩⟩⟩
    have s5 := s3.trans s4
    refine ⟨.tup (same_sqt s5 p4) (dps_same s5 _ _ d4), l4, by omega, fun r hr => by
      obtain ⟨_, _, _, _, _, rfl, _⟩ := VQ.sp r hr
      rfl, fun H6 s6 => ⟨_, rfl, iteF ?_⟩⟩
    have s7 := s5.trans s6
    -- each lane
    have n3 : ls.length = (q 3).length := (dpAll_len d3).trans (List.length_map ..)
    have n4 : ss.length = (q 4).length := (dpAll_len d4).trans (List.length_map ..)
    refine ⟨_, rfl, a3, rfl, ⟨_, same_sqt s7 p3⟩, fun D2 hD2 => ?_⟩
    refine lc_true (walk_tup (xs := ls)) hD2 (by rw [sizeLine_eq]; omega) (fun H' s' => same_sqt (s7.trans s') p3) (fun i x H2 H' QT hi s2 hy kT => ?_) (gName_mono 7) (fun H8 s8 hD3 => ⟨D2, _, rfl, .of hD3, ?_⟩)
    · obtain ⟨rfl, hx⟩ := hy
      have s9 := s7.trans s2
      obtain ⟨d, hde, hdp⟩ := dpAll_get d3 hx
      rw [List.getElem?_map] at hde
      obtain ⟨r, hr', rfl⟩ := Option.map_eq_some_iff.mp hde
      obtain ⟨h, g, c, d, e, rfl, m1, m2, b1, b2, b3, b4, b5⟩ := VQ.ln r (List.mem_of_getElem? hr')
      obtain ⟨b, rfl, hb⟩ := row_tup hdp
      exact ⟨rfl, _, rfl, _, rfl, _, rfl, b, a0, a1, _, _, h, g, c, d, e, rfl, same_sqt s9 hb, same_sqt s9 p0, same_sqt s9 p1, VQ.names_ok (by omega) h m1, VQ.names_ok (by omega) g m2, m1, m2, b1, b2, b3, b4, b5, kT⟩
    rw [all_reps]
    have s9 := s7.trans s8
    refine ⟨_, rfl, iteF ⟨_, rfl, a4, rfl, ⟨_, same_sqt s9 p4⟩, fun D4 hD4 => ?_⟩⟩
    refine lc_true (walk_tup (xs := ss)) hD4 (by rw [sizeLine_eq]; omega) (fun H' s' => same_sqt (s9.trans s') p4) (fun i x H2 H' QT hi s2 hy kT => ?_) (gName_mono 8) (fun H10 s10 hD5 => ⟨D4, _, rfl, .of hD5, ?_⟩)
    · obtain ⟨rfl, hx⟩ := hy
      have s11 := s9.trans s2
      obtain ⟨d, hde, hdp⟩ := dpAll_get d4 hx
      rw [List.getElem?_map] at hde
      obtain ⟨r, hr', rfl⟩ := Option.map_eq_some_iff.mp hde
      obtain ⟨n, h, g, d, e, rfl, m0, m1, m2, b1, b2, b3, b4⟩ := VQ.sp r (List.mem_of_getElem? hr')
      obtain ⟨b, rfl, hb⟩ := row_tup hdp
      exact ⟨rfl, _, rfl, _, rfl, _, rfl, b, a0, a2, _, _, n, h, g, d, e, rfl, same_sqt s11 hb, same_sqt s11 p0, same_sqt s11 p2, m0, VQ.names_ok (by omega) h m1, VQ.names_ok (by omega) g m2, m1, m2, b1, b2, b3, b4, kT⟩
    rw [all_reps]
    have s11 := s9.trans s10
    -- unlike
    refine ⟨_, rfl, iteF ⟨_, rfl, a3, rfl, ⟨_, same_sqt s11 p3⟩, fun D6 hD6 => ?_⟩⟩
    refine lc_gen (walk_tup (xs := ls)) (fun i acc H => DpAll K H acc ((((q 3).take i).map (List.take 2)).map rowD)) hD6 (by rw [sizeLine_eq]; omega) (fun H' s' => same_sqt (s11.trans s') p3)
      (fun i acc H H' h t => dps_ts t _ _ (tupOnly_rows _) h) .nil (fun i x acc H2 H' QT QF hi s2 hin hy kT kF => ?_) (fun acc H12 s12 hD7 hin => ?_)
    · obtain ⟨rfl, hx⟩ := hy
      obtain ⟨d, hde, hdp⟩ := dpAll_get d3 hx
      rw [List.getElem?_map] at hde
      obtain ⟨r, hr', rfl⟩ := Option.map_eq_some_iff.mp hde
      obtain ⟨b, rfl, hb⟩ := row_tup hdp
      refine ⟨rfl, tyes (iteT ⟨_, rfl, _, rfl, slA_take (i := 2) (same_sqt (s11.trans s2) hb) rfl fun p H4 s4 hp => kT _ _ s4 ?_⟩)⟩
      rw [List.take_succ, hr', List.map_append, List.map_append]
      refine dpAll_snoc (dps_same s4 _ _ hin) ?_
      rw [← List.map_take] at hp
      exact .tup hp (flds_dpAll _)
    have n3' : ls.length = (q 3).length := n3
    rw [n3', List.take_length] at hin
    refine ⟨D6, acc, _, rfl, .of hD7, hin, fun d hd => ?_, by rw [List.length_map, List.length_map]; omega, unl_rows VQ.lnd, fun H14 s14 => ?_⟩
    · obtain ⟨r2, hr2, rfl⟩ := List.mem_map.mp hd
      obtain ⟨r, hr', rfl⟩ := List.mem_map.mp hr2
      obtain ⟨h, g, c, d, e, rfl, m1, m2, _⟩ := VQ.ln r hr'
      refine row_sm fun x hx u hu => ?_
      subst hu
      simp at hx
      rcases hx with rfl | rfl
      · exact okW_name (VQ.names_ok (by omega) _ m1)
      · exact okW_name (VQ.names_ok (by omega) _ m2)
    have s15 := (s11.trans s12).trans s14
    refine ⟨_, rfl, iteT ⟨_, rfl, a4, rfl, ⟨_, same_sqt s15 p4⟩, fun D8 hD8 => ?_⟩⟩
    refine lc_gen (walk_tup (xs := ss)) (fun i acc H => acc = ((names q 4).take i).map sv) hD8 (by rw [sizeLine_eq]; omega) (fun H' s' => same_sqt (s15.trans s') p4) (fun i acc H H' h t => h) rfl (fun i x acc H2 H' QT QF hi s2 hin hy kT kF => ?_) (fun acc H16 s16 hD9 hin => ?_)
    · obtain ⟨rfl, hx⟩ := hy
      obtain ⟨d, hde, hdp⟩ := dpAll_get d4 hx
      rw [List.getElem?_map] at hde
      obtain ⟨r, hr', rfl⟩ := Option.map_eq_some_iff.mp hde
      obtain ⟨n, h, g, d, e, rfl, _⟩ := VQ.sp r (List.mem_of_getElem? hr')
      obtain ⟨b, rfl, hb⟩ := row_tup hdp
      refine ⟨rfl, tyes (iteT ⟨_, rfl, b, _, _, _, rfl, rfl, same_sqt (s15.trans s2) hb, atI_nat (j := 0) rfl, kT _ _ (Same.refl _) ?_⟩)⟩
      have e5 : (names q 4)[i]? = some n := by
        unfold names
        rw [List.getElem?_map, hr']
        rfl
      rw [hin, List.take_succ, e5, List.map_append]
      rfl
    have e6 : ss.length = (names q 4).length := n4.trans (names_len q 4).symm
    rw [e6, List.take_length] at hin
    subst hin
    refine ⟨D8, _, (names q 4).map dS, rfl, .of hD9, strs_dpAll _, fun d hd => ?_, by rw [List.length_map, names_len]; omega, unl_strs VQ.snd, fun H18 s18 => kk H18 ((s15.trans s16).trans s18)⟩
    obtain ⟨u, hu, rfl⟩ := List.mem_map.mp hd
    obtain ⟨r, hr', e⟩ := List.mem_map.mp hu
    obtain ⟨n, h, g, d, e2, rfl, m0, _⟩ := VQ.sp r hr'
    have e : n = u := e
    rw [← e]
    exact sm_str (okW_name m0)
end
end Kw
set_option Elab.async false
set_option linter.all false
set_option maxRecDepth 100000
set_option maxHeartbeats 600000
/-! The walk, part 8: orders told; what is needed is there. -/
namespace Kw
open PySem PySem.Spec PyProof.Rows L2 Km
def wishD (u : Wish) : PyData := .tuple [strsD u.1, .int u.2]
def wishesD (us : List Wish) : PyData := .tuple (us.map wishD)
/-- an order as data -/
def ordD (o : Ord) : PyData := .tuple [dS o.name, dS o.region, wishesD o.wishes, .int o.day, .int o.worth]
theorem wish_parts {K : PySem.W.Frag} {H : Hp} {v : V} {u : Wish} (h : Dp K H v (wishD u)) : ∃ a a0 : Addr, v = .ref a ∧ SqT K H a [.ref a0, .int u.2] ∧ SqT K H a0 (u.1.map sv) := by
  obtain ⟨a, xs, rfl, hx, hd⟩ := dp_tup h
  cases hd with
  | cons d0 hd =>
    cases hd with
    | cons d1 hd =>
      cases hd
      obtain ⟨a0, rfl, s0⟩ := strs_tup d0
      obtain rfl := dp_int d1
      exact ⟨a, a0, rfl, hx, s0⟩
theorem ord_parts {K : PySem.W.Frag} {H : Hp} {v : V} {o : Ord} (h : Dp K H v (ordD o)) : ∃ a a2 : Addr, ∃ us : List V, v = .ref a ∧ SqT K H a [sv o.name, sv o.region, .ref a2, .int o.day, .int o.worth] ∧ SqT K H a2 us ∧ DpAll K H us (o.wishes.map wishD) := by
  obtain ⟨a, xs, rfl, hx, hd⟩ := dp_tup h
  cases hd with
  | cons d0 hd =>
    cases hd with
    | cons d1 hd =>
      cases hd with
      | cons d2 hd =>
        cases hd with
        | cons d3 hd =>
          cases hd with
          | cons d4 hd =>
            cases hd
            obtain rfl := dp_str d0
            obtain rfl := dp_str d1
            obtain ⟨a2, us, rfl, s2, e2⟩ := dp_tup d2
            obtain rfl := dp_int d3
            obtain rfl := dp_int d4
            exact ⟨a, a2, us, rfl, hx, s2, e2⟩
theorem tupOnly_wish (u : Wish) : tupOnly (wishD u) = true := by
  show (tupOnlys _ && (true && true)) = true
  rw [tupOnly_strs]
  rfl
theorem tupOnly_wishes : ∀ us : List Wish, tupOnlys (us.map wishD) = true
  | [] => rfl
  | u :: us => by
    show (tupOnly (wishD u) && tupOnlys (us.map wishD)) = true
    rw [tupOnly_wish u, tupOnly_wishes us]
    rfl
theorem tupOnly_ord (o : Ord) : tupOnly (ordD o) = true := by
  show (true && (true && (tupOnlys _ && (true && (true && true))))) = true
  rw [tupOnly_wishes]
  rfl
section
variable {P : Program} {w : World} {K : PySem.W.Frag} {mg : Str → Option Value} {base : Heap}
/-! ### need_catalog -/
def spNeedC (K : PySem.W.Frag) : Sp := fun vs H Q _ => ∃ (v : V) (q : Ps), vs = [v] ∧ Dp K H v (catD q) ∧ Valid q ∧ ∀ H', Same H H' → Q .non H'
theorem scNeedC : FnScope ["catalog"] ["catalog"] (defScope sNeedCat) := ⟨rfl, rfl, rfl, by decide +kernel, rfl, by decide +kernel, by decide +kernel⟩
theorem ok_needC (T : Txt K mg w) : Dn P w K mg base CX0 4 "need_catalog" ["catalog"] (spNeedC K) := by
  refine T.dNeedC.dn (fun f fd F => F.ok scNeedC (fun vs H Q E h => ?_) (fun cdv A outer s H vs Q E hr h => ?_)) (fun _ _ _ _ _ _ us hl => match us, hl with | [_], _ => rfl)
  · obtain ⟨v, q, rfl, _⟩ := h
    rfl
  · obtain ⟨v, q, rfl, hv, VQ, kk⟩ := h
    refine ⟨_, pss_one (ps_if (pt_not (pt_val (pe_dn (ok_cat T) hr pass0 (pa_cons (pv 0) pa_nil)))) (pss_one ps_never) pss_nil), ?_⟩
    exact ⟨_, rfl, v, q, rfl, hv, VQ, fun H' s' => ⟨_, rfl, iteF (kk H' s')⟩⟩
/-! ### is_wish -/
def spWish (K : PySem.W.Frag) : Sp := fun vs H Q _ => ∃ (v : V) (u : Wish) (ia : Addr) (items : List W), vs = [v, .ref ia] ∧ Dp K H v (wishD u) ∧ SqT K H ia (items.map sv) ∧ OkWish items u ∧ ∀ H', Same H H' → Q (.bl true) H'
theorem scWish : FnScope ["thing", "items", "one"] ["thing", "items"] (defScope sIsWish) := ⟨rfl, rfl, rfl, by decide +kernel, rfl, by decide +kernel, by decide +kernel⟩
theorem ok_wish (T : Txt K mg w) : Dn P w K mg base CX0 3 "is_wish" ["thing", "items"] (spWish K) := by
  obtain ⟨tW, mW⟩ := T.WISHES
  refine T.dWish.dn (fun f fd F => F.ok scWish (fun vs H Q E h => ?_) (fun cdv A outer s H vs Q E hr h => ?_)) (fun _ _ _ _ _ _ us hl => match us, hl with | [_, _], _ => rfl)
  · obtain ⟨v, u, ia, items, rfl, _⟩ := h
    rfl
  · obtain ⟨v, u, ia, items, rfl, hv, hi, ok, kk⟩ := h
    obtain ⟨a, a0, rfl, hx, h0⟩ := wish_parts hv
    refine ⟨_, pss_cons (ps_if (PW.pt (pw_or (pt_not (pt_val (pe_isi T (pv 0) T.tuple boot_tuple))) (pw_or (pt_cmpR op_ne (pe_len T (pv 0)) pe_int (nomark _)) (pw_or1 (pt_not (pt_val (pe_dn (ok_names T) hr pass0 (pa_cons (pe_ix (ix_tK K) (pv 0) pe_int (fun _ _ => rfl)) (pa_cons (pe_gI mW) pa_nil))))))))) (pss_one (ps_ret pe_bl)) pss_nil)
      (pss_one (ps_ret (pe_and (pe_all T rfl (pe_lc (own := [("one", 2)]) (g := gName 2) rfl scWish.nd (pi_tup (pe_ix (ix_tK K) (pv 0) pe_int (fun _ _ => rfl))) (blkOk_by (own := [("one", 2)]) (N := ["thing", "items", "one"]) (sc := defScope sIsWish) (by decide +kernel))
          (fun _ _ _ _ _ => pg_name (i := 2) scWish.nd rfl (Or.inl rfl)) (fun _ _ _ _ _ => pts_nil) (fun _ _ _ _ _ => pe_cmpR (op_inSK K) (pv 2) (pv 1) rfl)))
        (pe_one (pe_dn (ok_whole T) (hr.mono (by decide)) pass0 (pa_cons (pe_ix (ix_tK K) (pv 0) pe_int (fun _ _ => rfl)) (pa_cons pe_int (pa_cons pe_int pa_nil)))))))), ?_⟩
    refine ⟨_, rfl, "tuple", true, ty_tup hx, by decide +kernel, _, rfl, iteF ⟨_, rfl, 2, .inr ⟨_, hx, rfl⟩, rfl, _, rfl, iteF ?_⟩⟩
    have l3 : (u.1.length : Int) ≤ 3 := by
      have := ok.n3
      omega
    refine ⟨_, rfl, a, _, _, _, rfl, rfl, hx, atI_nat (j := 0) rfl, a0, 3, u.1, rfl, h0, ok.n1, l3, by omega, ok.nm, ok.nd, fun H2 s2 => ⟨_, rfl, iteF ?_⟩⟩
    refine ⟨_, rfl, a, _, _, _, rfl, rfl, same_sqt s2 hx, atI_nat (j := 0) rfl, a0, rfl, ⟨_, same_sqt s2 h0⟩, fun D hD => ?_⟩
    refine lc_true (walk_tup (xs := u.1.map sv)) hD (by rw [List.length_map, sizeLine_eq]; omega) (fun H' s' => same_sqt (s2.trans s') h0) (fun i x H3 H' QT hi3 s3 hy kT => ?_) (gName_mono 2) (fun H4 s4 hD2 => ⟨D, _, rfl, .of hD2, ?_⟩)
    · obtain ⟨rfl, hx⟩ := hy
      rw [List.getElem?_map] at hx
      obtain ⟨i0, hi0, rfl⟩ := Option.map_eq_some_iff.mp hx
      refine ⟨rfl, _, rfl, _, rfl, ia, _, rfl, .inr (same_sqt (s2.trans s3) hi), rfl, flat_strs items, ?_⟩
      have e : (if false = true then !inV (sv i0) (items.map sv) else inV (sv i0) (items.map sv)) = true := by
        rw [if_neg Bool.false_ne_true, inV_strs, decide_eq_true (ok.mem i0 (List.mem_of_getElem? hi0))]
      rw [e]
      exact kT _ (Same.refl _)
    rw [all_reps]
    have s5 := s2.trans s4
    refine ⟨_, rfl, iteT ⟨_, rfl, a, _, _, _, rfl, rfl, same_sqt s5 hx, atI_nat (j := 1) rfl, u.2, 1, 99, rfl, ?_⟩⟩
    rw [decide_eq_true (show (1 : Int) ≤ u.2 ∧ u.2 ≤ 99 from ⟨ok.c1, ok.c99⟩)]
    exact kk H4 s5
/-! ### is_order -/
def spOrder (K : PySem.W.Frag) : Sp := fun vs H Q _ => ∃ (v x : V) (q : Ps) (o : Ord), vs = [v, x] ∧ Dp K H v (catD q) ∧ Dp K H x (ordD o) ∧ OkOrd (names q 1) (names q 2) o ∧ ∀ H', Same H H' → Q (.bl true) H'
theorem scOrder : FnScope ["catalog", "thing", "wish"] ["catalog", "thing"] (defScope sIsOrder) := ⟨rfl, rfl, rfl, by decide +kernel, rfl, by decide +kernel, by decide +kernel⟩
theorem ok_order (T : Txt K mg w) : Dn P w K mg base CX0 4 "is_order" ["catalog", "thing"] (spOrder K) := by
  obtain ⟨tW, mW⟩ := T.WISHES
  obtain ⟨tR, mR⟩ := T.REGIONS
  obtain ⟨tI, mI⟩ := T.ITEMS
  obtain ⟨tD, mD⟩ := T.DAY
  refine T.dOrder.dn (fun f fd F => F.ok scOrder (fun vs H Q E h => ?_) (fun cdv A outer s H vs Q E hr h => ?_)) (fun _ _ _ _ _ _ us hl => match us, hl with | [_, _], _ => rfl)
  · obtain ⟨v, x, q, o, rfl, _⟩ := h
    rfl
  · obtain ⟨v, x, q, o, rfl, hv, hx, ok, kk⟩ := h
    obtain ⟨c, c0, c1, c2, c3, c4, ls, ss, rfl, hc, p0, p1, p2, _⟩ := cat_parts hv
    obtain ⟨a, a2, us, rfl, ha, h2, hd⟩ := ord_parts hx
    have r1 : Room 1 _ := hr.mono (by decide)
    refine ⟨_, pss_cons (ps_if (PW.pt (pw_or (pt_not (pt_val (pe_isi T (pv 1) T.tuple boot_tuple))) (pw_or (pt_cmpR op_ne (pe_len T (pv 1)) pe_int (nomark _)) (pw_or (pt_not (pt_val (pe_dn (ok_name T) r1 pass0 (pa_cons (pe_ix (ix_tK K) (pv 1) pe_int (fun _ _ => rfl)) pa_nil)))) (pw_or1 (pt_not (pt_val (pe_dn (ok_name T) r1 pass0 (pa_cons (pe_ix (ix_tK K) (pv 1) pe_int (fun _ _ => rfl)) pa_nil))))))))) (pss_one (ps_ret pe_bl)) pss_nil)
      (pss_cons (ps_if (PW.pt (pw_or (pt_cmpR (op_ninSK K) (pe_ix (ix_tK K) (pv 1) pe_int (fun _ _ => rfl)) (pe_ix (ix_tK K) (pv 0) (pe_gI mR) (fun _ _ => rfl)) rfl) (pw_or (pt_not (pt_val (pe_isi T (pe_ix (ix_tK K) (pv 1) pe_int (fun _ _ => rfl)) T.tuple boot_tuple))) (pw_or1 (pt_not (pt_chain op_le op_le pe_int (pe_len T (pe_ix (ix_tK K) (pv 1) pe_int (fun _ _ => rfl))) (pe_gI mW))))))) (pss_one (ps_ret pe_bl)) pss_nil)
      (pss_cons (ps_if (pt_not (pt_val (pe_all T rfl (pe_lc (own := [("wish", 2)]) (g := gName 2) rfl scOrder.nd (pi_tup (pe_ix (ix_tK K) (pv 1) pe_int (fun _ _ => rfl))) (blkOk_by (own := [("wish", 2)]) (N := ["catalog", "thing", "wish"]) (sc := defScope sIsOrder) (by decide +kernel))
          (fun _ _ _ _ _ => pg_name (i := 2) scOrder.nd rfl (Or.inl rfl)) (fun _ _ _ _ _ => pts_nil) (fun _ _ _ _ _ => pe_dn (ok_wish T) hr pass0 (pa_cons (pv 2) (pa_cons (pe_ix (ix_tK K) (pv 0) (pe_gI mI) (fun _ _ => rfl)) pa_nil))))))) (pss_one (ps_ret pe_bl)) pss_nil)
      (pss_one (ps_ret (pe_and (pe_dn (ok_whole T) r1 pass0 (pa_cons (pe_ix (ix_tK K) (pv 1) pe_int (fun _ _ => rfl)) (pa_cons pe_int (pa_cons (pe_gI mD) pa_nil)))) (pe_one (pe_dn (ok_whole T) r1 pass0 (pa_cons (pe_ix (ix_tK K) (pv 1) pe_int (fun _ _ => rfl)) (pa_cons pe_int (pa_cons pe_int pa_nil)))))))))), ?_⟩
    have b0 := ok.d0
    have b1 := ok.d1
    have b2 := ok.v0
    have b3 := ok.v1
    have b4 := ok.w1
    have b5 := ok.w3
    have ul : us.length = o.wishes.length := (dpAll_len hd).trans (List.length_map ..)
    refine ⟨_, rfl, "tuple", true, ty_tup ha, by decide +kernel, _, rfl, iteF ⟨_, rfl, 5, .inr ⟨_, ha, rfl⟩, rfl, _, rfl, iteF ?_⟩⟩
    refine ⟨_, rfl, a, _, _, _, rfl, rfl, ha, atI_nat (j := 0) rfl, o.name, rfl, name_small ok.nm, fun H2 s2 => ⟨_, rfl, ?_⟩⟩
    rw [ok.nm]
    refine iteF ⟨_, rfl, a, _, _, _, rfl, rfl, same_sqt s2 ha, atI_nat (j := 1) rfl, o.region, rfl, name_small ok.rnm, fun H3 s3' => ⟨_, rfl, ?_⟩⟩
    rw [ok.rnm]
    have s3 := s2.trans s3'
    refine iteF ⟨_, rfl, a, _, _, _, rfl, rfl, same_sqt s3 ha, atI_nat (j := 1) rfl, _, rfl, c, _, _, _, rfl, rfl, same_sqt s3 hc, atI_nat (j := 1) rfl, c1, _, rfl, .inr (same_sqt s3 p1), rfl, flat_strs _, _, rfl, ?_⟩
    rw [inV_strs, decide_eq_true ok.reg]
    refine iteF ⟨_, rfl, a, _, _, _, rfl, rfl, same_sqt s3 ha, atI_nat (j := 2) rfl, "tuple", true, ty_tup (same_sqt s3 h2), by decide +kernel, _, rfl, iteF ?_⟩
    refine ⟨_, rfl, a, _, _, _, rfl, rfl, same_sqt s3 ha, atI_nat (j := 2) rfl, o.wishes.length, .inr ⟨_, same_sqt s3 h2, ul.symm⟩, _, _, rfl, rfl, _, rfl, ?_⟩
    rw [decide_eq_true (show (1 : Int) ≤ ((o.wishes.length : Nat) : Int) by omega)]
    refine iteT ⟨_, _, rfl, rfl, _, rfl, ?_⟩
    rw [decide_eq_true (show ((o.wishes.length : Nat) : Int) ≤ 3 by omega)]
    refine iteF ⟨_, rfl, a, _, _, _, rfl, rfl, same_sqt s3 ha, atI_nat (j := 2) rfl, a2, rfl, ⟨_, same_sqt s3 h2⟩, fun D hD => ?_⟩
    refine lc_true (walk_tup (xs := us)) hD (by rw [sizeLine_eq]; omega) (fun H' s' => same_sqt (s3.trans s') h2) (fun i x H4 H' QT hi4 s4 hy kT => ?_) (gName_mono 2) (fun H4 s4 hD2 => ⟨D, _, rfl, .of hD2, ?_⟩)
    · obtain ⟨rfl, hx⟩ := hy
      obtain ⟨d, hde, hdp⟩ := dpAll_get hd hx
      rw [List.getElem?_map] at hde
      obtain ⟨u, hu, rfl⟩ := Option.map_eq_some_iff.mp hde
      have s5 := s3.trans s4
      exact ⟨rfl, _, rfl, _, rfl, c, _, _, _, rfl, rfl, same_sqt s5 hc, atI_nat (j := 2) rfl, _, u, c2, _, rfl, dp_same s5 _ _ hdp, same_sqt s5 p2, ok.ws u (List.mem_of_getElem? hu), kT⟩
    rw [all_reps]
    have s5 := s3.trans s4
    refine ⟨_, rfl, iteF ⟨_, rfl, a, _, _, _, rfl, rfl, same_sqt s5 ha, atI_nat (j := 3) rfl, o.day, 0, 60, rfl, _, rfl, ?_⟩⟩
    rw [decide_eq_true (show (0 : Int) ≤ o.day ∧ o.day ≤ 60 from ⟨b0, b1⟩)]
    refine iteT ⟨_, rfl, a, _, _, _, rfl, rfl, same_sqt s5 ha, atI_nat (j := 4) rfl, o.worth, 0, 999, rfl, ?_⟩
    rw [decide_eq_true (show (0 : Int) ≤ o.worth ∧ o.worth ≤ 999 from ⟨b2, b3⟩)]
    exact kk H4 s5
/-! ### need_order -/
def spNeedO (K : PySem.W.Frag) : Sp := fun vs H Q _ => ∃ (v x : V) (q : Ps) (o : Ord), vs = [v, x] ∧ Dp K H v (catD q) ∧ Dp K H x (ordD o) ∧ OkOrd (names q 1) (names q 2) o ∧ ∀ H', Same H H' → Q .non H'
theorem scNeedO : FnScope ["catalog", "order"] ["catalog", "order"] (defScope sNeedOrder) := ⟨rfl, rfl, rfl, by decide +kernel, rfl, by decide +kernel, by decide +kernel⟩
theorem ok_needO (T : Txt K mg w) : Dn P w K mg base CX0 5 "need_order" ["catalog", "order"] (spNeedO K) := by
  refine T.dNeedO.dn (fun f fd F => F.ok scNeedO (fun vs H Q E h => ?_) (fun cdv A outer s H vs Q E hr h => ?_)) (fun _ _ _ _ _ _ us hl => match us, hl with | [_, _], _ => rfl)
  · obtain ⟨v, x, q, o, rfl, _⟩ := h
    rfl
  · obtain ⟨v, x, q, o, rfl, hv, hx, ok, kk⟩ := h
    refine ⟨_, pss_one (ps_if (pt_not (pt_val (pe_dn (ok_order T) hr pass0 (pa_cons (pv 0) (pa_cons (pv 1) pa_nil))))) (pss_one ps_never) pss_nil), ?_⟩
    exact ⟨_, rfl, _, rfl, v, x, q, o, rfl, hv, hx, ok, fun H' s' => ⟨_, rfl, iteF (kk H' s')⟩⟩
end
end Kw
set_option Elab.async false
set_option linter.all false
set_option maxRecDepth 100000
set_option maxHeartbeats 600000
/-! The walk, part 9: texts joined and cut; catalogs written. -/
namespace Kw
open PySem PySem.Spec PyProof.Rows L2 Km
theorem joinL_jn (s : W) : ∀ ws : List W, TL.joinL s ws = jn s ws
  | [] => rfl
  | [_] => rfl
  | x :: y :: r => by
    show x ++ (s ++ TL.joinL s (y :: r)) = x ++ s ++ jn s (y :: r)
    rw [joinL_jn s (y :: r), List.append_assoc]
theorem map_tl_mk (ws : List W) : (ws.map mk).map TL.tl = ws := by
  rw [List.map_map]
  conv => rhs; rw [← List.map_id ws]
  exact List.map_congr_left fun u _ => tl_mk' u
theorem join_mk (s : W) (ws : List W) : Txt.join (mk s) (ws.map mk) = mk (jn s ws) := by
  rw [TL.join_eq]
  refine TL.ext_tl ?_
  rw [TL.tl_join, map_tl_mk, tl_mk', tl_mk', joinL_jn]
theorem spl_splA (c : Nat) : ∀ (u acc : W), TL.spl [c] 0 acc u = splA c acc u
  | [], acc => rfl
  | x :: r, acc => by
    by_cases h : x = c
    · have hp : TL.pre [c] (x :: r) = true := by
        show ([x] == [c]) = true
        rw [h, beq_self_eq_true]
      rw [TL.spl_hit hp]
      show acc :: TL.spl [c] 0 [] r = if x = c then acc :: splA c [] r else splA c (acc ++ [x]) r
      rw [if_pos h, spl_splA c r []]
    · rw [TL.spl_miss (TL.pre_of_head [] r h)]
      show _ = if x = c then acc :: splA c [] r else splA c (acc ++ [x]) r
      rw [if_neg h, spl_splA c r (acc ++ [x])]
theorem split_mk {c : Nat} (hc : c < 256) (u : W) : Txt.split (mk u) (mk [c]) = (splA c [] u).map mk := by
  refine TL.map_tl_inj ?_
  rw [map_tl_mk, TL.split_spl (mk u) (mk [c]) (by rw [tl_mk']; simp) (TL.kind_ok (by
    show (#[c] : Array Nat).all (· < 256) = true
    simp [hc])), tl_mk', tl_mk', spl_splA]
def rJn (K : PySem.W.Frag) : V → List V → Hp → VK → Prop := fun x xs H Q => match xs with
  | [y] => ∃ (s : W) (p : Addr) (ws : List W), x = sv s ∧ y = .ref p ∧ (SqL K H p (ws.map sv) ∨ SqT K H p (ws.map sv)) ∧ (ws.map List.length).sum + ws.length * s.length ≤ 16777216 ∧ Q (sv (jn s ws)) H
  | _ => False
theorem map_sv (ws : List W) : (ws.map mk).map V.str = ws.map sv := by
  rw [List.map_map]
  rfl
theorem mt_jn {X : Cx} : MtR X "str.join" (rJn X.K) := fun pins s σ H x xs v us Q I rx rs h => match xs, h with
  | [y], ⟨sp, p, ws, h1, h2, h3, h4, q⟩ => mt_join pins s σ H x [y] v us Q I rx rs ⟨mk sp, p, ws.map mk, h1, by rw [h2], by rw [map_sv]; exact h3, by
      rw [List.map_map, List.length_map, mk_len]
      have e : (ws.map ((fun x : Str => x.length) ∘ mk)) = ws.map List.length := List.map_congr_left fun u _ => mk_len u
      rw [e]
      exact h4, by rw [join_mk]; exact q⟩
theorem pe_jn {X : Cx} (K : PySem.W.Frag) {o e : Expr} {to te : TE} {apos pos : Pos} (ho : PE X o to) (he : PE X e te) (eK : X.K = K := by rfl) (hs : starEach [e] X.env = [(false, eval e X.env)] := by rfl) (hbase : attributeBase o "join" X.env (eval o X.env) = eval o X.env := by rfl) (hline : (apos.endLine == pos.line) = true := by rfl) :
    PE X (.Call (.Attribute o "join" apos) [e] [] pos) (tM1 (rJn K) to te) := by
  subst eK
  exact pe_m1 F.slot_str_join F.type_str_join mt_jn ho he hs hbase hline
def rSp : V → List V → Hp → VK → Prop := fun x xs H Q => match xs with
  | [y] => ∃ (u : W) (c : Nat), x = sv u ∧ y = sv [c] ∧ c < 256 ∧ u.length ≤ 1000000 ∧ ∀ p, H p = none → Q (.ref p) (upd H p (.lst ((splA c [] u).map sv)))
  | _ => False
theorem mt_sp {X : Cx} : MtR X "str.split" rSp := fun pins s σ H x xs v us Q I rx rs h => match xs, h with
  | [y], ⟨u, c, h1, h2, h3, h4, q⟩ => mt_split pins s σ H x [y] v us Q I rx rs ⟨mk u, mk [c], h1, by rw [h2]; rfl, rfl, by rw [mk_len, sizeLine_eq]; omega, by
      intro p np
      rw [split_mk h3, map_sv]
      exact q p np⟩
theorem pe_sp {X : Cx} {o e : Expr} {to te : TE} {apos pos : Pos} (ho : PE X o to) (he : PE X e te) (hs : starEach [e] X.env = [(false, eval e X.env)] := by rfl) (hbase : attributeBase o "split" X.env (eval o X.env) = eval o X.env := by rfl) (hline : (apos.endLine == pos.line) = true := by rfl) :
    PE X (.Call (.Attribute o "split" apos) [e] [] pos) (tM1 rSp to te) := pe_m1 F.slot_str_split F.type_str_split mt_sp ho he hs hbase hline
theorem sp_eq : (Str.ofString " ") = mk [32] := by decide +kernel
theorem nl_eq : (Str.ofString "\n") = mk [10] := by decide +kernel
theorem sl_eq : (Str.ofString "/") = mk [47] := by decide +kernel
section
variable {P : Program} {w : World} {K : PySem.W.Frag} {mg : Str → Option Value} {base : Heap}
/-! ### write_catalog -/
def spWriteC (K : PySem.W.Frag) : Sp := fun vs H Q _ => ∃ (v : V) (q : Ps), vs = [v] ∧ Dp K H v (catD q) ∧ Valid q ∧ ∀ H', Same H H' → Q (sv (writeCat q)) H'
abbrev nmWC : List Str := ["catalog", "found", "word", "part", "row", "one"]
theorem scWC : FnScope nmWC ["catalog"] (defScope sWriteCat) := ⟨rfl, rfl, rfl, by decide +kernel, rfl, by decide +kernel, by decide +kernel⟩
/-- what stands in a part: names, or tuples of fields -/
def RowV (K : PySem.W.Frag) (H : Hp) (v : V) (r : Km.Row) : Prop := (∃ u, r = [.inl u] ∧ v = sv u) ∨ ∃ a, v = .ref a ∧ SqT K H a (r.map fV)
theorem rowV_same {H H' : Hp} {v : V} {r : Km.Row} (s : Same H H') (h : RowV K H v r) : RowV K H' v r := by
  rcases h with h | ⟨a, e, h⟩
  · exact .inl h
  · exact .inr ⟨a, e, same_sqt s h⟩
/-- the parts of a catalog, each a tuple of its rows -/
def PartAt (K : PySem.W.Frag) (H : Hp) (a : Addr) (rs : List Km.Row) : Prop := ∃ xs, SqT K H a xs ∧ xs.length = rs.length ∧ ∀ (i : Nat) (x : V) (r : Km.Row), xs[i]? = some x → rs[i]? = some r → RowV K H x r
theorem partAt_same {H H' : Hp} {a : Addr} {rs : List Km.Row} (s : Same H H') (h : PartAt K H a rs) : PartAt K H' a rs := by
  obtain ⟨xs, h1, h2, h3⟩ := h
  exact ⟨xs, same_sqt s h1, h2, fun i x r e1 e2 => rowV_same s (h3 i x r e1 e2)⟩
theorem part_names {H : Hp} {a : Addr} {q : Ps} {k : Nat} (S : Sound q) (hk : k < 3) (h : SqT K H a ((names q k).map sv)) : PartAt K H a (q k) := by
  refine ⟨_, h, by rw [List.length_map, names_len], fun i x r e1 e2 => ?_⟩
  unfold names at e1
  rw [List.map_map, List.getElem?_map, e2] at e1
  obtain ⟨u, rfl, _⟩ := S.nm k hk r (List.mem_of_getElem? e2)
  exact .inl ⟨u, rfl, (Option.some.inj e1).symm⟩
theorem part_rows {H : Hp} {a : Addr} {rs : List Km.Row} {xs : List V} (h : SqT K H a xs) (hd : DpAll K H xs (rs.map rowD)) : PartAt K H a rs := by
  refine ⟨_, h, (dpAll_len hd).trans (List.length_map ..), fun i x r e1 e2 => ?_⟩
  obtain ⟨d, hde, hdp⟩ := dpAll_get hd e1
  rw [List.getElem?_map, e2] at hde
  cases hde
  exact .inr (row_tup hdp)
end
end Kw
set_option Elab.async false
set_option linter.all false
set_option maxRecDepth 100000
set_option maxHeartbeats 800000
/-! The walk, part 10: a catalog written. -/
namespace Kw
open PySem PySem.Spec PyProof.Rows L2 Km
def FldIn : Fld → Prop
  | .inl _ => True
  | .inr n => 0 ≤ n ∧ n < 1000
theorem sound_flds {q : Ps} (S : Sound q) {k : Nat} (hk : k < 5) : ∀ r ∈ q k, ∀ x ∈ r, FldIn x := by
  have nm : k < 3 → ∀ r ∈ q k, ∀ x ∈ r, FldIn x := fun h3 r hr x hx => by
    obtain ⟨u, rfl, hw⟩ := S.nm k h3 r hr
    rw [List.mem_singleton] at hx
    subst hx
    trivial
  match k, hk, nm with
  | 0, _, nm => exact nm (by omega)
  | 1, _, nm => exact nm (by omega)
  | 2, _, nm => exact nm (by omega)
  | 3, _, _ =>
    intro r hr x hx
    obtain ⟨h, g, a, b, p, rfl, h1, h2, h3, h4, h5, h6, h7⟩ := S.ln r hr
    simp only [List.mem_cons, List.mem_nil_iff, or_false] at hx
    rcases hx with rfl | rfl | rfl | rfl | rfl
    · trivial
    · trivial
    · exact ⟨h3, by omega⟩
    · exact ⟨by omega, by omega⟩
    · exact ⟨h6, by omega⟩
  | 4, _, _ =>
    intro r hr x hx
    obtain ⟨s, h, i, a, b, rfl, h0, h1, h2, h3, h4, h5, h6⟩ := S.sp r hr
    simp only [List.mem_cons, List.mem_nil_iff, or_false] at hx
    rcases hx with rfl | rfl | rfl | rfl | rfl
    · trivial
    · trivial
    · trivial
    · exact ⟨h3, by omega⟩
    · exact ⟨h5, by omega⟩
theorem log_small {n : Int} (h0 : 0 ≤ n) (h1 : n < 1000) : n.natAbs.log2 < 1920 := by
  have := Nat.log2_le_self n.natAbs
  omega
/-- str(x) of a field -/
theorem str_fld {x : Fld} (h : FldIn x) {H : Hp} {Q : VK} (q : Q (sv (fText x)) H) : kStr (fV x) H Q := by
  cases x with
  | inl u => exact q
  | inr n =>
    refine ⟨log_small h.1 h.2, ?_⟩
    rw [show (Str.ofString (toString n)) = mk (dig n.toNat) from str_dig h.1 h.2]
    exact q
def linesTo (q : Ps) : Nat → List (List W)
  | 0 => []
  | k + 1 => linesTo q k ++ (q k).map (rowWs k)
theorem linesTo_5 (q : Ps) : linesTo q 5 = lines q := by
  simp only [linesTo, lines, List.nil_append, List.append_assoc]
theorem mem_linesTo {q : Ps} : ∀ {k : Nat} {ws : List W}, ws ∈ linesTo q k → ∃ j r, j < k ∧ r ∈ q j ∧ ws = rowWs j r
  | 0, ws, h => by simp [linesTo] at h
  | k + 1, ws, h => by
    rcases List.mem_append.mp h with h | h
    · obtain ⟨j, r, a, b, c⟩ := mem_linesTo h
      exact ⟨j, r, by omega, b, c⟩
    · obtain ⟨r, hr, rfl⟩ := List.mem_map.mp h
      exact ⟨k, r, by omega, hr, rfl⟩
theorem linesTo_len {q : Ps} (S : Sound q) : ∀ k, k ≤ 5 → (linesTo q k).length ≤ k * 20
  | 0, _ => by simp [linesTo]
  | k + 1, h => by
    have := linesTo_len S k (by omega)
    have h2 := S.rm k (by omega)
    have h3 : room k ≤ 20 := by
      match k, h with
      | 0, _ => decide
      | 1, _ => decide
      | 2, _ => decide
      | 3, _ => decide
      | 4, _ => decide
    show (linesTo q k ++ (q k).map (rowWs k)).length ≤ _
    rw [List.length_append, List.length_map]
    omega
section
variable {P : Program} {w : World} {K : PySem.W.Frag} {mg : Str → Option Value} {base : Heap}
/-- a line as a value -/
def lineV (ws : List W) : V := sv (jn [32] ws)
theorem ok_writeC (T : Txt K mg w) : Dn P w K mg base CX0 5 "write_catalog" ["catalog"] (spWriteC K) := by
  obtain ⟨aW, mW, kW⟩ := T.WORDS
  refine T.dWriteC.dn (fun f fd F => F.ok scWC (fun vs H Q E h => ?_) (fun cdv A outer s H vs Q E hr h => ?_)) (fun _ _ _ _ _ _ us hl => match us, hl with | [_], _ => rfl)
  · obtain ⟨v, q, rfl, _⟩ := h
    rfl
  · obtain ⟨v, q, rfl, hv, VQ, kk⟩ := h
    obtain ⟨c, c0, c1, c2, c3, c4, ls, ss, rfl, hc, p0, p1, p2, p3, d3, p4, d4⟩ := cat_parts hv
    refine ⟨_, pss_cons (ps_expr (pe_dn (ok_needC T) hr pass0 (pa_cons (pv 0) pa_nil)))
      (pss_cons (ps_set (i := 1) scWC.nd rfl (Or.inl rfl) (pe_lst pa_nil))
      (pss_cons (ps_for PassesOwn.never rfl (RZ.pi_zipA (by rfl) T.zip (pa_cons (pe_gR mW) (pa_cons (pv 0) pa_nil))) (pg_tup rfl (pgs_cons (pg_name (i := 2) scWC.nd rfl (Or.inl rfl)) (pgs_cons (pg_name (i := 3) scWC.nd rfl (Or.inl rfl)) pgs_nil)))
        (pss_one (ps_for PassesOwn.never rfl (pi_tup (pv 3)) (pg_name (i := 4) scWC.nd rfl (Or.inl rfl))
          (pss_one (ps_expr (pe_bm PySem.F.plainAttrs_list PySem.F.slot_list_append PySem.F.type_list_append mt_append (pv 1) (pa_cons (pe_jn K pe_str (pe_op op_cat (pe_lst (pa_cons (pv 2) pa_nil))
            (pe_ifExp (pt_val (pe_isi T (pv 4) T.str boot_str)) (pe_lst (pa_cons (pv 4) pa_nil)) (pe_lc (own := [("one", 5)]) (g := gName 5) rfl scWC.nd (pi_tup (pv 4)) (blkOk_by (own := [("one", 5)]) (N := nmWC) (sc := defScope sWriteCat) (by decide +kernel))
              (fun _ _ _ _ _ => pg_name (i := 5) scWC.nd rfl (Or.inl rfl)) (fun _ _ _ _ _ => pts_nil) (fun _ _ _ _ _ => pe_str1 T (pv 5)))))) pa_nil)))))))
      (pss_one (ps_ret (pe_jn K pe_str (pv 1)))))), ?_⟩
    refine ⟨_, rfl, _, q, rfl, hv, VQ, fun H1 s1 => ⟨by rw [sizeLine_eq]; decide, fun fa nf => ?_⟩⟩
    have nf0 : H fa = none := Same.free s1 nf
    have s2 : Same H (upd H1 fa (.lst [])) := same_new s1 nf
    refine ⟨_, rfl, aW, c, _, _, rfl, .inr ⟨kW.sq _, same_sqt s2 hc, ?_⟩⟩
    have parts : ∀ k, k < 5 → ∃ b, ([V.ref c0, .ref c1, .ref c2, .ref c3, .ref c4] : List V)[k]? = some (.ref b) ∧ PartAt K H b (q k) := fun k hk => by
      match k, hk with
      | 0, _ => exact ⟨c0, rfl, part_names VQ.toSound (by omega) p0⟩
      | 1, _ => exact ⟨c1, rfl, part_names VQ.toSound (by omega) p1⟩
      | 2, _ => exact ⟨c2, rfl, part_names VQ.toSound (by omega) p2⟩
      | 3, _ => exact ⟨c3, rfl, part_rows p3 d3⟩
      | 4, _ => exact ⟨c4, rfl, part_rows p4 d4⟩
    refine RZ.for_zipT (xs := (List.range 5).map fun k => .str (ks k)) (ys := [.ref c0, .ref c1, .ref c2, .ref c3, .ref c4]) rfl (fun i σ H' => ∃ x2 x3 x4, σ = [some (.ref c), some (.ref fa), x2, x3, x4, none] ∧ Same H H' ∧ H' fa = some (.lst ((linesTo q i).map lineV))) ⟨none, none, none, rfl, s2, upd_same⟩ (fun i σ H' ⟨_, _, _, _, s', _⟩ => ⟨kW.sq _, same_sqt s' hc⟩) ?_ ?_
    · rintro i x y Tp σ H2 hx hy ⟨x2, x3, x4, rfl, s3, hf⟩ nT
      have hi : i < 5 := by
        have := (List.getElem?_eq_some_iff.mp hy).1
        simpa using this
      obtain ⟨b, eb, hb⟩ := parts i hi
      rw [eb] at hy
      cases hy
      have ex : x = .str (ks i) := by
        rw [List.getElem?_map, List.getElem?_range hi] at hx
        exact (Option.some.inj hx).symm
      subst ex
      have s4 : Same H (upd H2 Tp (.tup [.str (ks i), .ref b])) := same_new s3 nT
      have hf4 : (upd H2 Tp (.tup [.str (ks i), .ref b])) fa = some (.lst ((linesTo q i).map lineV)) := by
        rw [upd_ne (ne_of_none hf nT)]
        exact hf
      obtain ⟨xs, hxs, hxl, hrow⟩ := hb
      refine ⟨Tp, _, rfl, .of upd_same, rfl, _, _, rfl, _, _, rfl, rfl, ?_⟩
      refine ⟨_, rfl, b, rfl, ⟨_, same_sqt s4 hxs⟩, ?_⟩
      refine for_it (walk_tup (xs := xs)) (fun j σ H' => ∃ x4, σ = [some (.ref c), some (.ref fa), some (.str (ks i)), some (.ref b), x4, none] ∧ Same H H' ∧ H' fa = some (.lst ((linesTo q i ++ ((q i).take j).map (rowWs i)).map lineV)))
        ⟨x4, rfl, s4, by rw [List.take_zero, List.map_nil, List.append_nil]; exact hf4⟩ (fun j σ H' _ ⟨_, _, s', _⟩ => same_sqt s' hxs) ?_ ?_
      · rintro j x σ H3 H' hj ⟨x4', rfl, s5, hf5⟩ ⟨rfl, hx⟩
        rw [hxl] at hj
        have hr : (q i)[j]? = some (q i)[j] := List.getElem?_eq_getElem hj
        have hR := rowV_same s5 (hrow j x _ hx hr)
        generalize (q i)[j] = r at hr hR
        have hmem := List.mem_of_getElem? hr
        have hin := sound_flds VQ.toSound hi r hmem
        have lok := row_ok (k := i) (VQ.toSound.rows_ok hi r hmem).1 (VQ.toSound.rows_ok hi r hmem).2.1
        have hlen : ((linesTo q i ++ ((q i).take j).map (rowWs i)).map lineV).length < sizeLine := by
          have h1 := linesTo_len VQ.toSound i (by omega)
          have h2 := VQ.rm i hi
          have h3 : room i ≤ 20 := by
            match i, hi with
            | 0, _ => decide
            | 1, _ => decide
            | 2, _ => decide
            | 3, _ => decide
            | 4, _ => decide
          rw [List.length_map, List.length_append, List.length_map, List.length_take, sizeLine_eq]
          omega
        -- what is common behind the list of the words
        have tail : ∀ (H4 : Hp) (l1 l2 : Addr), Same H' H4 → H4 l1 = some (.lst [.str (ks i)]) → H4 l2 = some (.lst ((r.map fText).map sv)) →
            ∀ (D : Hp → Prop), (∀ H5, Same H H5 → H5 fa = some (.lst ((linesTo q i ++ ((q i).take (j + 1)).map (rowWs i)).map lineV)) → D H5) → rCat (.ref l1) (.ref l2) H4 fun y H5 => rJn K (.str " ") [y] H5 fun z H6 => rAppend (.ref fa) [z] H6 fun _ H7 => D H7 := by
          intro H4 l1 l2 s6 h1 h2 D hD
          refine ⟨l1, l2, _, _, rfl, rfl, h1, h2, by rw [List.length_map, List.length_map, sizeLine_eq]; have := (VQ.toSound.rows_ok hi r hmem).2.1; simp; omega, fun p np => ?_⟩
          have s7 := s5.trans s6
          have hf6 := s6 _ _ hf5
          have npf : fa ≠ p := ne_of_none hf6 np
          have eV : ([V.str (ks i)] ++ (r.map fText).map sv) = (rowWs i r).map sv := by
            show _ = sv (kw i) :: (r.map fText).map sv
            rw [sv, ks_mk]
            rfl
          refine ⟨[32], p, rowWs i r, by rw [sp_eq]; rfl, rfl, .inl (.of (by rw [upd_same, eV])), Nat.le_trans (lok.len (s := [32]) (by simp)).2 (by omega), ?_⟩
          refine ⟨fa, _, _, rfl, rfl, by rw [upd_ne npf]; exact hf6, hlen, ?_⟩
          refine hD _ (same_set (same_new s7 np) nf0) ?_
          rw [upd_same, List.take_succ, hr, List.map_append, List.map_append, List.map_append, List.map_append, List.append_assoc]
          rfl
        refine ⟨_, rfl, .inl ⟨rfl, _, .of hf5⟩, ⟨_, rfl⟩, _, rfl, (by show 1 ≤ sizeLine; rw [sizeLine_eq]; decide), fun l1 n1 => ?_⟩
        have s6 : Same H' (upd H' l1 (.lst [.str (ks i)])) := same_new (Same.refl _) n1
        rcases hR with ⟨u, rfl, rfl⟩ | ⟨a, rfl, ha⟩
        · refine ⟨_, rfl, "str", true, .base (.str _), by decide +kernel, _, rfl, iteT ⟨_, rfl, (by show 1 ≤ sizeLine; rw [sizeLine_eq]; decide), fun l2 n2 => ?_⟩⟩
          have n12 : l1 ≠ l2 := ne_of_none upd_same n2
          exact tail _ l1 l2 (same_new s6 n2) (by rw [upd_ne n12, upd_same]) (by rw [upd_same]; rfl) _ fun H5 s7 h5 => ⟨_, rfl, s7, h5⟩
        · refine ⟨_, rfl, "tuple", false, ty_tup (same_sqt s6 ha), by decide +kernel, _, rfl, iteF ⟨_, rfl, a, rfl, ⟨_, same_sqt s6 ha⟩, fun D hD => ?_⟩⟩
          have hlr := (VQ.toSound.rows_ok hi r hmem).2.1
          refine lc_gen (walk_tup (xs := r.map fV)) (fun m acc _ => acc = ((r.take m).map fText).map sv) hD (by rw [List.length_map, sizeLine_eq]; omega) (fun H8 s8 => same_sqt (s6.trans s8) ha) (fun m acc _ _ e _ => e) rfl ?_ ?_
          · intro m y acc H8 H9 QT QF hm s8 hacc hy2 kT kF
            obtain ⟨rfl, hy3⟩ := hy2
            rw [List.getElem?_map] at hy3
            obtain ⟨x, hx3, rfl⟩ := Option.map_eq_some_iff.mp hy3
            refine ⟨rfl, tyes (iteT ⟨_, rfl, str_fld (hin x (List.mem_of_getElem? hx3)) (kT _ _ (Same.refl _) ?_)⟩)⟩
            rw [hacc, List.take_succ, hx3, List.map_append, List.map_append]
            rfl
          · intro acc H8 s8 h8 hacc
            have e : (r.map fV).length = r.length := List.length_map ..
            rw [e, List.take_length] at hacc
            subst hacc
            exact tail H8 l1 D (s6.trans s8) (s8 _ _ upd_same) h8 _ fun H5 s7 h5 => ⟨_, rfl, s7, h5⟩
      · rintro σ H3 ⟨x4', rfl, s5, hf5⟩
        refine ⟨_, _, _, rfl, s5, ?_⟩
        rw [hf5]
        have e : xs.length = (q i).length := hxl
        rw [e, List.take_length]
        rfl
    · rintro σ H2 ⟨x2, x3, x4, rfl, s3, hf⟩
      have hf : H2 fa = some (.lst ((linesTo q 5).map lineV)) := hf
      rw [linesTo_5] at hf
      have b1 : ((lines q).map (jn [32])).length ≤ 49 := by
        rw [List.length_map]
        exact VQ.toSound.lines_few
      have b2 := sum_le (k := 66) (ws := (lines q).map (jn [32])) fun p hp => by
        obtain ⟨ws, hws, rfl⟩ := List.mem_map.mp hp
        exact ((VQ.toSound.lines_ok ws hws).len (s := [32]) (by simp)).1
      have b3 : ((lines q).map (jn [32])).length * 66 ≤ 49 * 66 := Nat.mul_le_mul_right 66 b1
      refine ⟨⟨_, rfl⟩, _, rfl, [10], fa, (lines q).map (jn [32]), by rw [nl_eq]; rfl, rfl, .inl (.of (by rw [hf, List.map_map]; rfl)), ?_, kk H2 s3⟩
      have e : ([10] : W).length = 1 := rfl
      rw [e]
      omega
end
end Kw
set_option Elab.async false
set_option linter.all false
set_option maxRecDepth 100000
set_option maxHeartbeats 800000
/-! The walk, part 11: the error of a wrong word; the reader of catalogs: its facts, its making, its names. -/
namespace Kw
open PySem PySem.Spec PyProof.Rows L2 Km
/-- what the written part tells of BadLine (at C) and CatalogReader (at R) -/
structure TxtE (K : PySem.W.Frag) (mg : Str → Option Value) (C R : Addr) : Prop where
  gC : mg "BadLine" = some (.ref C)
  ox : OexC K C
  xf : XfC K C
  noL : PySem.W.findIn K (.ref C) "line" = some none
  noW : PySem.W.findIn K (.ref C) "word" = some none
  iC : ∃ (f : Addr) (fd : FuncData), PySem.W.findIn K (.ref C) "__init__" = some (some (.ref f)) ∧ PySem.W.typeIn K (.ref f) = some (.type "function") ∧ Fun K "__init__" "BadLine.__init__" sLineI f fd
  te : PySem.W.exmOne K (.ref C) (.ref C) = some true
  gR : mg "CatalogReader" = some (.ref R)
  cl : Cls K R
  noP : NoAttr K R "parts"
  mI : ∃ (f : Addr) (fd : FuncData), Mk K R f ∧ Fun K "__init__" "CatalogReader.__init__" sRdInit f fd
  mN : ∃ (f : Addr) (fd : FuncData), Meth K R "names" f ∧ Fun K "names" "CatalogReader.names" sRdNames f fd
  mP : ∃ (f : Addr) (fd : FuncData), Meth K R "part" f ∧ Fun K "part" "CatalogReader.part" sRdPart f fd
  mR : ∃ (f : Addr) (fd : FuncData), Meth K R "read" f ∧ Fun K "read" "CatalogReader.read" sRdRead f fd
  mL : ∃ (f : Addr) (fd : FuncData), Meth K R "need_lane" f ∧ Fun K "need_lane" "CatalogReader.need_lane" sRdNeed f fd
/-- the fields of the error -/
def lw (l c : Int) : List (Str × V) := [("word", .int c), ("line", .int l)]
/-- what is wanted of the error that tells this line and word -/
def RaiseP (C : Addr) (H : Hp) (E : XK) (l c : Int) : Prop := ∀ (d : Addr) (H' : Hp), Same H H' → H d = none → H' d = some (.xd (lw l c)) → E (.ref C) (some d) H'
theorem raiseP_same {C : Addr} {H H1 : Hp} {E : XK} {l c : Int} (s : Same H H1) (r : RaiseP C H E l c) : RaiseP C H1 E l c := fun d H' s' n e => r d H' (s.trans s') (Same.free s n) e
def spLineI (C : Addr) : Sp := fun vs H Q _ => ∃ (a : Addr) (x y : V), vs = [.ref a, x, y] ∧ H a = some (exo a C none) ∧ ∀ dx, H dx = none → dx ≠ a → Q .non (upd (upd (upd H dx (exd dx [("line", x)])) a (exo a C (some dx))) dx (exd dx [("word", y), ("line", x)]))
theorem mkLine {C a : Addr} {H : Hp} {l c : Int} {Q : XK} {E : XK} (na : H a = none) (q : ∀ (d : Addr) (H' : Hp), Same H H' → H d = none → H' d = some (.xd (lw l c)) → Q (.ref C) (some d) H') :
    spLineI C [.ref a, .int l, .int c] (upd H a (exo a C none)) (fun v H2 => v = .non ∧ ∃ (d : Addr) (fs : List (Str × V)), H2 a = some (exo a C (some d)) ∧ H2 d = some (exd d fs) ∧ H d = none ∧ Q (.ref C) (some d) (upd (del H2 a) d (.xd fs))) E := by
  refine ⟨a, .int l, .int c, rfl, upd_same, fun dx nd ne => ⟨rfl, dx, lw l c, ?_, upd_same, ?_, ?_⟩⟩
  · rw [upd_ne (Ne.symm ne), upd_same]
  · rw [upd_ne ne] at nd
    exact nd
  · have nd' : H dx = none := by
      rw [upd_ne ne] at nd
      exact nd
    refine q dx _ (fun b o e => ?_) nd' upd_same
    have h1 : b ≠ a := ne_of_none e na
    have h2 : b ≠ dx := ne_of_none e nd'
    rw [upd_ne h2, del_ne h1, upd_ne h2, upd_ne h1, upd_ne h2, upd_ne h1]
    exact e
/-! ### the reader's state -/
def kvsOf (ls : Nat → Addr) : List (Key × V) := (List.range 5).map fun k => ((Sum.inr (ks k) : Key), V.ref (ls k))
theorem kw_inj : ∀ i j, i < 5 → j < 5 → kw i = kw j → i = j := by
  intro i j hi hj
  match i, j, hi, hj with
  | 0, 0, _, _ => decide
  | 0, 1, _, _ => decide
  | 0, 2, _, _ => decide
  | 0, 3, _, _ => decide
  | 0, 4, _, _ => decide
  | 1, 0, _, _ => decide
  | 1, 1, _, _ => decide
  | 1, 2, _, _ => decide
  | 1, 3, _, _ => decide
  | 1, 4, _, _ => decide
  | 2, 0, _, _ => decide
  | 2, 1, _, _ => decide
  | 2, 2, _, _ => decide
  | 2, 3, _, _ => decide
  | 2, 4, _, _ => decide
  | 3, 0, _, _ => decide
  | 3, 1, _, _ => decide
  | 3, 2, _, _ => decide
  | 3, 3, _, _ => decide
  | 3, 4, _, _ => decide
  | 4, 0, _, _ => decide
  | 4, 1, _, _ => decide
  | 4, 2, _, _ => decide
  | 4, 3, _, _ => decide
  | 4, 4, _, _ => decide
theorem ks_inj {i j : Nat} (hi : i < 5) (hj : j < 5) (h : ks i = ks j) : i = j := kw_inj i j hi hj (by rw [← ks_tl, ← ks_tl, h])
theorem val_range (ls : Nat → Addr) {k : Nat} : ∀ (m n : Nat), m + n = 5 → m ≤ k → k < 5 → valV ((List.range' m n).map fun k => ((Sum.inr (ks k) : Key), V.ref (ls k))) (Sum.inr (ks k)) = some (.ref (ls k))
  | m, 0, h, h1, h2 => by omega
  | m, n + 1, h, h1, h2 => by
    rw [List.range'_succ, List.map_cons]
    by_cases e : m = k
    · subst e
      exact valV_pos rfl
    · rw [valV_neg (fun z => e (ks_inj (by omega) h2 (Sum.inr.inj z)))]
      exact val_range ls (m + 1) n (by omega) (by omega) h2
theorem kvs_get (ls : Nat → Addr) {k : Nat} (h : k < 5) : valV (kvsOf ls) (Sum.inr (ks k)) = some (.ref (ls k)) := by
  unfold kvsOf
  rw [List.range_eq_range']
  exact val_range ls 0 5 rfl (Nat.zero_le _) h
/-- a row of a kind: a name, or a tuple of its fields -/
def RowK (K : PySem.W.Frag) (H : Hp) (k : Nat) (x : V) (r : Km.Row) : Prop := if k < 3 then ∃ u, r = [.inl u] ∧ x = sv u else ∃ a, x = .ref a ∧ SqT K H a (r.map fV)
theorem rowK_ts {K : PySem.W.Frag} {H H' : Hp} {k : Nat} {x : V} {r : Km.Row} (s : TS H H') (h : RowK K H k x r) : RowK K H' k x r := by
  unfold RowK at h ⊢
  by_cases e : k < 3
  · rw [if_pos e] at h ⊢
    exact h
  · rw [if_neg e] at h ⊢
    obtain ⟨a, e1, e2⟩ := h
    exact ⟨a, e1, sqt_ts s e2⟩
/-- the rows of a kind as they stand in a list -/
def RowsK (K : PySem.W.Frag) (H : Hp) (k : Nat) (xs : List V) (rs : List Km.Row) : Prop := xs.length = rs.length ∧ ∀ (i : Nat) (x : V) (r : Km.Row), xs[i]? = some x → rs[i]? = some r → RowK K H k x r
theorem rowsK_ts {K : PySem.W.Frag} {H H' : Hp} {k : Nat} {xs : List V} {rs : List Km.Row} (s : TS H H') (h : RowsK K H k xs rs) : RowsK K H' k xs rs := ⟨h.1, fun i x r e1 e2 => rowK_ts s (h.2 i x r e1 e2)⟩
theorem rowsK_snoc {K : PySem.W.Frag} {H : Hp} {k : Nat} {xs : List V} {rs : List Km.Row} {x : V} {r : Km.Row} (h : RowsK K H k xs rs) (hx : RowK K H k x r) : RowsK K H k (xs ++ [x]) (rs ++ [r]) := by
  refine ⟨by rw [List.length_append, List.length_append, h.1]; rfl, fun i y q e1 e2 => ?_⟩
  by_cases hi : i < xs.length
  · rw [List.getElem?_append_left hi] at e1
    rw [List.getElem?_append_left (by rw [← h.1]; exact hi)] at e2
    exact h.2 i y q e1 e2
  · have l1 : i < (xs ++ [x]).length := (List.getElem?_eq_some_iff.mp e1).1
    rw [List.length_append] at l1
    have e : i = xs.length := by
      simp at l1
      omega
    subst e
    rw [List.getElem?_append_right (Nat.le_refl _), Nat.sub_self] at e1
    rw [h.1, List.getElem?_append_right (Nat.le_refl _), Nat.sub_self] at e2
    cases e1
    cases e2
    exact hx
/-- a reader at p, its dict at d, its lists at ls: what it has read is q -/
structure RdAt (K : PySem.W.Frag) (R : Addr) (H : Hp) (p d : Addr) (ls : Nat → Addr) (q : Ps) : Prop where
  ob : ∃ dx, H p = some (.ins R dx [("parts", .ref d)])
  dc : H d = some (.dK (kvsOf ls))
  inj : ∀ i j, i < 5 → j < 5 → ls i = ls j → i = j
  pt : ∀ k, k < 5 → ∃ xs, H (ls k) = some (.lst xs) ∧ RowsK K H k xs (q k)
theorem rdAt_same {K : PySem.W.Frag} {R : Addr} {H H' : Hp} {p d : Addr} {ls : Nat → Addr} {q : Ps} (s : Same H H') (h : RdAt K R H p d ls q) : RdAt K R H' p d ls q :=
  ⟨let ⟨dx, e⟩ := h.ob; ⟨dx, s _ _ e⟩, s _ _ h.dc, h.inj, fun k hk => let ⟨xs, e, r⟩ := h.pt k hk; ⟨xs, s _ _ e, rowsK_ts (same_ts s) r⟩⟩
theorem fld_parts (v : V) : List.lookup ("parts" : Str) [(("parts" : Str), v)] = some v := by simp [List.lookup]
theorem fld_none {m : Str} (v : V) (h : (m == ("parts" : Str)) = false) : List.lookup m [(("parts" : Str), v)] = none := by simp [List.lookup, h]
section
variable {P : Program} {w : World} {K : PySem.W.Frag} {mg : Str → Option Value} {base : Heap} {C R : Addr}
/-- raise BadLine(e1, e2) -/
theorem ps_line {X : Cx} {e1 e2 : Expr} {t1 t2 : TE} {W : WX} {p pos pos2 : Pos} (hc : X.calm = true) (T : TxtE K mg C R) (eK : X.K = K) (em : X.mg = mg) (hr : Room 2 X.A) (tk : Takes X W) (h1 : PE X e1 t1) (h2 : PE X e2 t2) (hg : Gl X "BadLine" := by rfl)
    (he : starEach [e1, e2] X.env = (false, eval e1 X.env) :: starEach [e2] X.env := by rfl) (he2 : starEach [e2] X.env = (false, eval e2 X.env) :: starEach [] X.env := by rfl) (hpl : (backTo pos (starEach [e2] X.env)).any (·.1) = false := by rfl) :
    PS X (.Raise (some (.Call (.Name "BadLine" p) [e1, e2] [] pos)) none pos2) (fun _ σ H => tMkO C (spLineI C) [] (tCons t1 (tCons t2 tNil)) σ H fun cls d H' => W cls d σ H') := by
  subst eK em
  obtain ⟨fI, fd, f1, f2, F⟩ := T.iC
  have sc : FnScope ["self", "line", "word"] ["self", "line", "word"] (defScope sLineI) := ⟨rfl, rfl, rfl, by decide +kernel, rfl, by decide +kernel, by decide +kernel⟩
  have F1 : FnOk X.prog X.w X.K X.mg X.base CX0 1 fI fd ["self", "line", "word"] (spLineI C) := by
    refine F.ok sc (fun vs H Q E h => ?_) (fun cdv A outer s H vs Q E hr h => ?_)
    · obtain ⟨a, x, y, rfl, _⟩ := h
      rfl
    · obtain ⟨a, x, y, rfl, ha, q⟩ := h
      refine ⟨_, pss_cons (ps_ost (pv 0) (pv 1)) (pss_one (ps_ost (pv 0) (pv 2))), ?_⟩
      refine ⟨_, rfl, _, rfl, a, C, rfl, T.ox, T.noL, .inl ⟨ha, fun dx nd ne => ?_⟩⟩
      refine ⟨_, rfl, _, rfl, a, C, rfl, T.ox, T.noW, .inr ⟨dx, [("line", x)], upd_same, ?_, by show 1 ≤ 900; decide, q dx nd ne⟩⟩
      rw [upd_ne ne, upd_same]
  have B := F.binds (ps := ["self", "line", "word"]) fun _ _ _ _ _ _ us hl => match us, hl with | [_, _, _], _ => rfl
  exact ps_raise hc tk (pmk_oex T.ox f1 f2 F1 hr B .nil pass0 hg T.gC (pa_cons h1 (pa_cons h2 pa_nil he2) he) (he := he) (hpl := hpl))
/-! ### CatalogReader() -/
def spRdInit (K : PySem.W.Frag) (R : Addr) : Sp := fun vs H Q _ => ∃ (p dx : Addr), vs = [.ref p] ∧ H p = some (.ins R dx []) ∧ ∀ (d : Addr) (ls : Nat → Addr) (H' : Hp), RdAt K R H' p d ls ps0 → (∀ b o, H b = some o → b ≠ p → H' b = some o) → H d = none → (∀ k, k < 5 → H (ls k) = none) → Q .non H'
theorem scRdI : FnScope ["self", "word"] ["self"] (defScope sRdInit) := ⟨rfl, rfl, rfl, by decide +kernel, rfl, by decide +kernel, by decide +kernel⟩
theorem put_new (ls : Nat → Addr) (l : Addr) {i : Nat} (hi : i < 5) : putK ((List.range i).map fun k => ((Sum.inr (ks k) : Key), V.ref (ls k))) (Sum.inr (ks i)) (.ref l) = ((List.range (i + 1)).map fun k => ((Sum.inr (ks k) : Key), V.ref ((fun j => if j = i then l else ls j) k))) := by
  have no : (((List.range i).map fun k => ((Sum.inr (ks k) : Key), V.ref (ls k))).any fun kv => decide (kv.1 = Sum.inr (ks i))) = false := by
    rw [List.any_eq_false]
    intro kv hkv
    obtain ⟨j, hj, rfl⟩ := List.mem_map.mp hkv
    rw [List.mem_range] at hj
    simp only [decide_eq_true_eq]
    intro z
    have := ks_inj (by omega) hi (Sum.inr.inj z)
    omega
  unfold putK
  rw [no, if_neg Bool.false_ne_true, List.range_succ, List.map_append]
  congr 1
  · refine List.map_congr_left fun k hk => ?_
    rw [List.mem_range] at hk
    simp only [if_neg (show ¬ k = i by omega)]
  · simp
theorem ok_rdI (T : Txt K mg w) (TE : TxtE K mg C R) {f : Addr} {fd : FuncData} (F : Fun K "__init__" "CatalogReader.__init__" sRdInit f fd) : FnOk P w K mg base CX0 1 f fd ["self"] (spRdInit K R) := by
  obtain ⟨aW, mW, kW⟩ := T.WORDS
  refine F.ok scRdI (fun vs H Q E h => ?_) (fun cdv A outer s H vs Q E hr h => ?_)
  · obtain ⟨p, dx, rfl, _⟩ := h
    rfl
  · obtain ⟨p, dx, rfl, hp, kk⟩ := h
    refine ⟨_, pss_one (ps_fld (pv 0) (pe_dc (own := [("word", 1)]) (g := gName 1) rfl scRdI.nd (pi_tup (pe_gR mW)) (blkOk_by (own := [("word", 1)]) (N := ["self", "word"]) (sc := defScope sRdInit) (by decide +kernel))
      (fun _ _ _ _ _ => pg_name (i := 1) scRdI.nd rfl (Or.inl rfl)) (fun _ _ _ _ _ => pts_nil) (fun _ _ _ _ _ => pv 1) (fun _ _ _ _ _ => pe_lst pa_nil)) rfl), ?_⟩
    refine ⟨aW, rfl, ⟨_, kW.sq _⟩, fun D nD => ?_⟩
    refine dc_tup (xs := (List.range 5).map fun k => .str (ks k)) (fun i H' => ∃ ls : Nat → Addr, Same H H' ∧ H' D = some (.dK ((List.range i).map fun k => ((Sum.inr (ks k) : Key), V.ref (ls k)))) ∧ (∀ k, k < i → H' (ls k) = some (.lst []) ∧ H (ls k) = none) ∧ ∀ a b, a < i → b < i → ls a = ls b → a = b)
      ⟨fun _ => 0, same_new (Same.refl H) nD, upd_same, fun k hk => by omega, fun a b ha => by omega⟩ (fun i H' _ _ => kW.sq _) ?_ ?_
    · rintro i x H' hx ⟨ls, s', hD, hl, hi⟩
      have h5 : i < 5 := by
        have := (List.getElem?_eq_some_iff.mp hx).1
        simpa using this
      rw [List.getElem?_map, List.getElem?_range h5] at hx
      have ex : x = .str (ks i) := (Option.some.inj hx).symm
      subst ex
      refine ⟨rfl, tyes (iteT ⟨_, rfl, Nat.zero_le _, fun l nl => ?_⟩)⟩
      have nlD : l ≠ D := (ne_of_none hD nl).symm
      refine ⟨_, Sum.inr (ks i), rfl, by rw [upd_ne nlD.symm]; exact hD, by rw [List.length_map, List.length_range, sizeLine_eq]; omega, fun j => if j = i then l else ls j, ?_, ?_, ?_, ?_⟩
      · exact same_set (same_new s' nl) nD
      · rw [upd_same, put_new ls l h5]
      · intro k hk
        by_cases e : k = i
        · have e0 : (fun j => if j = i then l else ls j) k = l := if_pos e
          rw [e0, upd_ne nlD, upd_same]
          exact ⟨rfl, Same.free s' nl⟩
        · have e0 : (fun j => if j = i then l else ls j) k = ls k := if_neg e
          rw [e0]
          obtain ⟨e1, e2⟩ := hl k (by omega)
          have n1 : ls k ≠ D := ne_of e1 hD (by intro z; cases z)
          have n2 : ls k ≠ l := ne_of_none e1 nl
          rw [upd_ne n1, upd_ne n2]
          exact ⟨e1, e2⟩
      · intro a b ha hb hab
        have hab : (if a = i then l else ls a) = (if b = i then l else ls b) := hab
        by_cases ea : a = i
        · by_cases eb : b = i
          · omega
          · rw [if_pos ea, if_neg eb] at hab
            have := (hl b (by omega)).1
            rw [← hab, nl] at this
            cases this
        · by_cases eb : b = i
          · rw [if_neg ea, if_pos eb] at hab
            have := (hl a (by omega)).1
            rw [hab, nl] at this
            cases this
          · rw [if_neg ea, if_neg eb] at hab
            exact hi a b (by omega) (by omega) hab
    · rintro H' ⟨ls, s', hD, hl, hi⟩
      have hD : H' D = some (.dK (kvsOf ls)) := hD
      have hl : ∀ k, k < 5 → H' (ls k) = some (.lst []) ∧ H (ls k) = none := hl
      have npD : D ≠ p := (ne_of_none hp nD).symm
      refine ⟨_, rfl, p, R, dx, [], rfl, s' _ _ hp, TE.cl, TE.noP, by show 0 < 1000; decide, ?_⟩
      refine kk D ls _ ⟨⟨dx, upd_same⟩, by rw [upd_ne npD]; exact hD, hi, fun k hk => ⟨[], ?_, rfl, fun i x r e1 _ => by simp at e1⟩⟩ (fun b o e hb => ?_) nD (fun k hk => (hl k hk).2)
      · have n1 : ls k ≠ p := ne_of (hl k hk).1 (s' _ _ hp) (by intro z; cases z)
        rw [upd_ne n1]
        exact (hl k hk).1
      · rw [upd_ne hb]
        exact s' _ _ e
/-! ### names -/
def spRdNames (K : PySem.W.Frag) (R : Addr) : Sp := fun vs H Q _ => ∃ (p d : Addr) (ls : Nat → Addr) (q : Ps) (k : Nat), vs = [.ref p, .str (ks k)] ∧ RdAt K R H p d ls q ∧ Sound q ∧ k < 5 ∧ ∀ l H', Same H H' → H l = none → H' l = some (.lst ((names q k).map sv)) → Q (.ref l) H'
theorem scRdN : FnScope ["self", "word", "row"] ["self", "word"] (defScope sRdNames) := ⟨rfl, rfl, rfl, by decide +kernel, rfl, by decide +kernel, by decide +kernel⟩
/-- the first field of a row is its name -/
theorem row_hd {q : Ps} (S : Sound q) {k : Nat} (hk : k < 5) (h3 : ¬ k < 3) {r : Km.Row} (hr : r ∈ q k) : ∃ u rest, r = .inl u :: rest := by
  match k, hk, h3, hr with
  | 3, _, _, hr =>
    obtain ⟨h, g, a, b, p, rfl, _⟩ := S.ln r hr
    exact ⟨_, _, rfl⟩
  | 4, _, _, hr =>
    obtain ⟨h, g, a, b, p, rfl, _⟩ := S.sp r hr
    exact ⟨_, _, rfl⟩
theorem ok_rdN (T : Txt K mg w) (TE : TxtE K mg C R) {f : Addr} {fd : FuncData} (F : Fun K "names" "CatalogReader.names" sRdNames f fd) : FnOk P w K mg base CX0 1 f fd ["self", "word"] (spRdNames K R) := by
  refine F.ok scRdN (fun vs H Q E h => ?_) (fun cdv A outer s H vs Q E hr h => ?_)
  · obtain ⟨p, d, ls, q, k, rfl, _⟩ := h
    rfl
  · obtain ⟨p, d, ls, q, k, rfl, hR, S, hk, kk⟩ := h
    have hu := hu_of hr
    refine ⟨_, pss_one (ps_ret (pe_lc (own := [("row", 2)]) (g := gName 2) rfl scRdN.nd (pi_list (pe_dget hu (pe_fld (pv 0) rfl) (pv 1) (fun _ _ => rfl))) (blkOk_by (own := [("row", 2)]) (N := ["self", "word", "row"]) (sc := defScope sRdNames) (by decide +kernel))
      (fun _ _ _ _ _ => pg_name (i := 2) scRdN.nd rfl (Or.inl rfl)) (fun _ _ _ _ _ => pts_nil) (fun _ _ _ _ _ => pe_ifExp (pt_val (pe_isi T (pv 2) T.str boot_str)) (pv 2) (pe_ix (ix_tK K) (pv 2) pe_int (fun _ _ => rfl))))), ?_⟩
    obtain ⟨dx, ob⟩ := hR.ob
    obtain ⟨xs, hx, hl, hrow⟩ := hR.pt k hk
    refine ⟨_, rfl, p, R, dx, _, _, rfl, ob, TE.cl, TE.noP, fld_parts _, _, rfl, d, _, rfl, (by rw [← kvs_get ls hk]; exact DGet.k (k := Sum.inr (ks k)) hR.dc), ls k, rfl, ⟨xs, .of hx⟩, fun D nD => ?_⟩
    have hlen : xs.length ≤ 20 := by
      have := S.rm k hk
      rw [hl]
      have h3 : room k ≤ 20 := by
        match k, hk with
        | 0, _ => decide
        | 1, _ => decide
        | 2, _ => decide
        | 3, _ => decide
        | 4, _ => decide
      omega
    refine lc_gen (walk_list (xs := xs)) (fun i acc _ => acc = ((names q k).take i).map sv) nD (by rw [sizeLine_eq]; omega) (fun H' s' => .of (s' _ _ hx)) (fun i acc _ _ e _ => e) rfl ?_ ?_
    · intro i x acc H2 H' QT QF hi s2 hacc hy kT kF
      obtain ⟨rfl, hxi⟩ := hy
      have hr' : (q k)[i]? = some (q k)[i] := List.getElem?_eq_getElem (by omega)
      have hrow' := rowK_ts (same_ts s2) (hrow i x _ hxi hr')
      generalize (q k)[i] = r at hr' hrow'
      have hmem := List.mem_of_getElem? hr'
      have hn : (names q k)[i]? = some (nameOf r) := by
        unfold names
        rw [List.getElem?_map, hr']
        rfl
      have step : acc ++ [sv (nameOf r)] = ((names q k).take (i + 1)).map sv := by
        rw [hacc, List.take_succ, hn, List.map_append]
        rfl
      unfold RowK at hrow'
      by_cases e3 : k < 3
      · rw [if_pos e3] at hrow'
        obtain ⟨u, rfl, rfl⟩ := hrow'
        exact ⟨rfl, tyes (iteT ⟨_, rfl, "str", true, .base (.str _), by decide +kernel, _, rfl, iteT ⟨_, rfl, kT _ _ (Same.refl _) step⟩⟩)⟩
      · rw [if_neg e3] at hrow'
        obtain ⟨a, rfl, ha⟩ := hrow'
        obtain ⟨u, rest, rfl⟩ := row_hd S hk e3 hmem
        exact ⟨rfl, tyes (iteT ⟨_, rfl, "tuple", false, ty_tup ha, by decide +kernel, _, rfl, iteF ⟨_, rfl, a, _, _, _, rfl, rfl, ha, atI_nat (j := 0) rfl, kT _ _ (Same.refl _) step⟩⟩)⟩
    · intro acc H2 s2 h2 hacc
      refine kk D H2 s2 nD ?_
      rw [h2, hacc, hl, ← names_len, List.take_length]
end
end Kw
set_option Elab.async false
set_option linter.all false
set_option maxRecDepth 100000
set_option maxHeartbeats 800000
/-! The walk, part 12: enumerate over a tuple. -/
namespace Kw
open PySem PySem.Spec PyProof.Rows L2 Km
open Sem (wp)
/-- enumerate(t) is made: its iterator, then itself -/
theorem meets_enum1 {v : Value} {o : Obj} {H : Heap → Prop} (B : Begins v o H) :
    Meets (Builtin.«enumerate.__new__» ⟨[.type "enumerate", v], []⟩) (fun _ R s => H s.heap ∧
      R (.ok (.ret (.ref (s.heap.push o).objs.size))) { s with heap := (s.heap.push o).push { cls := .type "enumerate", data := .fields #[.none, .bool false, .ref s.heap.objs.size, rawInt 0, .none, .none] } }) :=
  .of_wp fun prog w A R s h => by
    obtain ⟨hp, g, d, tk, os⟩ := s
    obtain ⟨h1, h⟩ := h
    have hsub := sub_enumerate
    have q1 : ∀ {B' : Around} {E' : Value → Shared → Prop} {Q' : Value → Shared → Prop}, Q' (.ref hp.objs.size) ⟨hp.push o, g, d, tk, os⟩ → wpAny (model prog w) B' (pyIter v) Q' E' ⟨hp, g, d, tk, os⟩ :=
      fun q => B.iter prog w _ _ ⟨hp, g, d, tk, os⟩ _ h1 q
    wp_walk using q1
    refine wpAny_stack_any fun st => wpAny_pure ?_
    split
    · rename_i c _ _ _ _ _
      cases (c == Value.type "enumerate")
      · wp_walk using q1
        exact ⟨_, rfl, h⟩
      · wp_walk using q1
        exact ⟨_, rfl, h⟩
    · wp_walk using q1
      exact ⟨_, rfl, h⟩
theorem call_enum1 {prog : Program} {w : World} {A : Around} {E : Value → Shared → Prop} {s : Shared} {v : Value} {o : Obj} {H : Heap → Prop} {Q : Value → Shared → Prop} (B : Begins v o H) (h1 : H s.heap)
    (h : ∀ h', IsEnum h' (s.heap.objs.size + 1) s.heap.objs.size 0 .none → h'.get? s.heap.objs.size = some o →
      (∀ b x, s.heap.get? b = some x → h'.get? b = some x) → Q (.ref (s.heap.objs.size + 1)) { s with heap := h' }) :
    wpAny (model prog w) A (call (.type "enumerate") [v]) Q E s := by
  refine callType_new F.called_enumerate (by decide) (F.typeCall_enumerate_1 _) (F.newCall_enumerate_1 _) (fun obj => F.args_object_init_2 obj _) F.entry_enumerate_new (meets_enum1 B) ⟨h1, ?_⟩
  have hz : (s.heap.push o).objs.size = s.heap.objs.size + 1 := Heap.size_push ..
  have he := Heap.get?_push_size (s.heap.push o) (o := { cls := .type "enumerate", data := .fields #[.none, .bool false, .ref s.heap.objs.size, rawInt 0, .none, .none] }) rfl
  show _ ∧ _
  rw [hz] at he ⊢
  exact ⟨⟨_, he, rfl⟩, h _ he (Heap.get?_push_of_some _ (Heap.get?_push_size _ B.free)) fun b x e => Heap.get?_push_of_some _ (Heap.get?_push_of_some _ e)⟩
/-- the tuple at a, each item in a new pair with its place -/
def IteT (K : PySem.W.Frag) (a : Addr) : It :=
  ⟨fun i H => ∃ (xs : List V) (x : V), SqT K H a xs ∧ xs[i]? = some x, fun i H v H' => ∃ T x, v = .ref T ∧ H T = none ∧ H' = upd H T (.tup [.int (i : Nat), x]) ∧ ∀ xs, SqT K H a xs → xs[i]? = some x, fun i H => ∃ xs : List V, SqT K H a xs ∧ xs.length = i⟩
theorem turn_enumT {P : Program} {w : World} {K : PySem.W.Frag} {elts : List Expr} {kk : Nat} {tpos : Pos} (a e it : Addr) :
    Turn P w K (.Tuple elts kk tpos) (IteT K a) [e, it] e (fun i h => (∃ old, IsEnum h e it ((i : Nat) : Int) old) ∧ h.IsTupleIter it a i ∧ e ≠ it) where
  mem := by simp
  obj := fun i h st b hb => by
    obtain ⟨⟨old, he⟩, ⟨o, ho, hc, hd⟩, _⟩ := st
    have e' : b = e ∨ b = it := by simpa using hb
    rcases e' with z | z
    · subst z
      exact ⟨_, he, fun v q => nomatch q⟩
    · subst z
      exact ⟨o, ho, fun v q => by rw [hd] at q; cases q⟩
  keep := fun i h h' st k => by
    obtain ⟨⟨old, he⟩, hi, hne⟩ := st
    exact ⟨⟨old, k e (by simp) _ he⟩, hi.at fun o q => k it (by simp) o q, hne⟩
  item := by
    intro X hP hw hK hc i pins s σ H E I hf st hg
    subst hP hw hK
    obtain ⟨⟨old, he⟩, hit, hne⟩ := st
    obtain ⟨xs, x, hq, hx⟩ := hg
    obtain ⟨its, rv, p, hz⟩ := I.tuple hq
    obtain ⟨u, hu, ru⟩ := rv.get hx
    have hel : e < s.heap.objs.size := Heap.lt_size he
    have hil : it < s.heap.objs.size := by
      obtain ⟨_, q, _⟩ := hit
      exact Heap.lt_size q
    have p' : s.heap.IsTuple a its.toArray := p
    have ha : a ≠ it := by
      intro z
      obtain ⟨o1, e1, c1, _⟩ := p'
      obtain ⟨o2, e2, c2, _⟩ := hit
      rw [z, e2] at e1
      cases e1
      rw [c2] at c1
      exact absurd c1 (by decide)
    have hea : e ≠ a := by
      intro z
      obtain ⟨o1, e1, c1, _⟩ := p'
      have he' : s.heap.get? e = _ := he
      rw [z, e1] at he'
      cases he'
      have c1 : Value.type "enumerate" = Value.type "tuple" := c1
      exact absurd c1 (by decide)
    have hil2 : i < its.toArray.size := by
      have := (List.getElem?_eq_some_iff.mp hu).1
      simpa using this
    refine wpAny_pyNext_enum_itemD (Draws.tuple (A := X.A.in1) (I.ok.hd hc) it a ha its.toArray) he ⟨hit, p'⟩ hil2 hne (by simp [hne, hea]) fun y h' tk hy ho hst hT hsz hk => ?_
    have hyu : y = u := by
      have hy' : its.toArray[i]? = some y := hy
      have hu' : its.toArray[i]? = some u := by simpa using hu
      rw [hu'] at hy'
      exact (Option.some.inj hy').symm
    subst hyu
    refine ⟨_, rfl, wpAny_letOwnedTupleGo_enum (s := { s with heap := h', toks := tk + 1 }) ho fun h'' he' sb => ?_⟩
    have hT2 : h''.get? s.heap.objs.size = some { cls := .type "tuple", data := .seq #[.int i tk, y] } := (sb.2 _ (Nat.ne_of_gt hel)).trans hT
    have new : ObjOk X.prog X.w (upd H s.heap.objs.size (.tup [.int (i : Nat), x])) h'' s.heap.objs.size (.tup [.int (i : Nat), x]) :=
      ⟨by show 2 ≤ sizeLine; decide, [.int i tk, y], .cons ⟨_, rfl⟩ (.cons ru .nil), ⟨_, hT2, rfl, _, rfl⟩⟩
    have I1 : Inv X pins σ (upd H s.heap.objs.size (.tup [.int (i : Nat), x])) { s with heap := h'', toks := tk + 1 } :=
      I.turnedNew (ch := [e, it]) (fun b ob hb q => (sb.2 b (fun z => hb (by simp [z]))).trans (hk b ob (fun z => hb (by simp [z])) (fun z => hb (by simp [z])) q)) hf (Nat.le_refl _) new
    refine ⟨.ref s.heap.objs.size, _, I1, rfl, ⟨_, x, rfl, I.hok.fresh (Nat.le_refl _), rfl, fun ys hy => by rw [I.tuple_inj hy hq]; exact hx⟩, ⟨⟨y, ?_⟩, hst.1.at fun o q => (sb.2 it (Ne.symm hne)).trans q, hne⟩, fun b hb => ?_⟩
    · have e1 : ((i + 1 : Nat) : Int) = (i : Int) + 1 := by omega
      rw [e1]
      exact he'
    · have hb' : b < s.heap.objs.size := by
        have e' : b = e ∨ b = it := by simpa using hb
        rcases e' with z | z
        · rw [z]
          exact hel
        · rw [z]
          exact hil
      rw [upd_ne (Nat.ne_of_lt hb')]
      exact (hf b hb).1
  done := by
    intro X hP hw hK hc i pins s σ H E I hf st hg
    subst hP hw hK
    obtain ⟨⟨old, he⟩, hit, hne⟩ := st
    obtain ⟨xs, hq, hx⟩ := hg
    obtain ⟨its, rv, p, hz⟩ := I.tuple hq
    obtain ⟨f0, f1, f2, f3, f4, f5⟩ := hf it (by simp)
    have hl := rv.length
    have p' : s.heap.IsTuple a its.toArray := p
    have ha : a ≠ it := by
      intro z
      obtain ⟨o1, e1, c1, _⟩ := p'
      obtain ⟨o2, e2, c2, _⟩ := hit
      rw [z, e2] at e1
      cases e1
      rw [c2] at c1
      exact absurd c1 (by decide)
    have ei : its.toArray.size = i := by
      rw [List.size_toArray]
      omega
    exact wpAny_pyNext_enum_endD (Draws.tuple (A := X.A.in1) (I.ok.hd hc) it a ha its.toArray) he ⟨by rw [ei]; exact hit, p'⟩ fun h' eb => ⟨rfl, I.turned (t' := s.toks) (fun b o hb q => eb b o hb q) f0 f1 f3 f4 f5⟩
  self := fun A i s Q E st h => by
    obtain ⟨⟨_, he⟩, _⟩ := st
    exact wpAny_pyIter_enum he h
def iEnumT (K : PySem.W.Frag) (ta : TA) : TI := fun σ H R => ta σ H fun vs H1 => ∃ a xs, vs = [.ref a] ∧ SqT K H1 a xs ∧ R (IteT K a) H1
theorem pi_enumT {X : Cx} {e : Expr} {ta : TA} {p pos tpos : Pos} {elts : List Expr} {kk : Nat} (hg : Gl X "enumerate") (hm : X.mg "enumerate" = none) (ha : PA X [e] ta) (hs : starEach [e] X.env = [(false, eval e X.env)] := by rfl) :
    PI X (.Tuple elts kk tpos) (.Call (.Name "enumerate" p) [e] [] pos) (iEnumT X.K ta) := by
  refine ⟨fun pins s σ H R I h => ?_⟩
  refine Call_ (ld_blt I hg hm boot_enumerate (PyProof.Rows.callWith_type1 (thn (ha.run pos pins s σ H _ I h) fun us s1 ⟨vs, H1, I1, r1, q1⟩ => ?_) hs rfl))
  obtain ⟨a, xs, ex, hq, q⟩ := q1
  subst ex
  obtain ⟨u, rfl, ru⟩ := vals1 r1
  cases ru
  obtain ⟨its, rv, p', hz⟩ := I1.tuple hq
  refine call_enum1 (begins_tuple a its.toArray) p' fun h' he hit hk => wpAny_pyIter_enum he ?_
  have I2 : Inv X pins σ H1 { s1 with heap := h' } := I1.kept (t' := s1.toks) hk
  refine ⟨s1.heap.objs.size + 1, [s1.heap.objs.size + 1, s1.heap.objs.size], _, _, H1, rfl, I2, turn_enumT a (s1.heap.objs.size + 1) s1.heap.objs.size, ⟨⟨.none, he⟩, ⟨_, hit, rfl, rfl⟩, Nat.succ_ne_self _⟩, fun b hb => ?_, q⟩
  have e' : b = s1.heap.objs.size + 1 ∨ b = s1.heap.objs.size := by simpa using hb
  have hle : s1.heap.objs.size ≤ b := by
    rcases e' with z | z
    · rw [z]
      exact Nat.le_add_right _ _
    · rw [z]
      exact Nat.le_refl _
  exact I1.fpOk hle (I1.hok.fresh hle)
/-- a loop over enumerate of a tuple -/
theorem for_enumT {K : PySem.W.Frag} {a : Addr} {xs : List V} {g : TG} {tb : L2.TS} {D : Ends} {σ : L2.St} {H : Hp} (Pv : Nat → L2.St → Hp → Prop) (h0 : Pv 0 σ H) (hq : ∀ i σ H, Pv i σ H → SqT K H a xs)
    (hs : ∀ (i : Nat) (x : V) (T : Addr) (σ : L2.St) (H : Hp), xs[i]? = some x → Pv i σ H → H T = none → g (.ref T) σ (upd H T (.tup [.int (i : Nat), x])) fun σ2 H2 => tb { D with nx := Pv (i + 1), ct := Pv (i + 1), bk := D.nx } σ2 H2) (hd : ∀ σ H, Pv xs.length σ H → D.nx σ H) :
    ∃ W : Nat → Nat → L2.St → Hp → Prop, (∃ m, W 0 m σ H) ∧ ∀ i m σ H, W i m σ H →
      ((IteT K a).stop i H ∧ D.nx σ H) ∨ ((IteT K a).go i H ∧ ∃ N : L2.St → Hp → Prop, (∀ σ' H', N σ' H' → ∃ m', m' < m ∧ W (i + 1) m' σ' H') ∧ ∀ v H', (IteT K a).yld i H v H' → g v σ H' fun σ2 H2 => tb { D with nx := N, ct := N, bk := D.nx } σ2 H2) := by
  refine ⟨fun i m σ H => m = xs.length - i ∧ i ≤ xs.length ∧ Pv i σ H, ⟨xs.length, rfl, Nat.zero_le _, h0⟩, ?_⟩
  rintro i m σ H ⟨rfl, hi, p⟩
  have qx := hq i σ H p
  by_cases hlt : i < xs.length
  · have hx : xs[i]? = some xs[i] := List.getElem?_eq_getElem hlt
    refine .inr ⟨⟨xs, _, qx, hx⟩, Pv (i + 1), fun σ' H' p' => ⟨xs.length - (i + 1), by omega, rfl, hlt, p'⟩, fun v H' y => ?_⟩
    obtain ⟨T, x', rfl, hT, rfl, f1⟩ := y
    exact hs i x' T σ H (f1 xs qx) p hT
  · have e : i = xs.length := by omega
    subst e
    exact .inl ⟨⟨xs, qx, rfl⟩, hd σ H p⟩
end Kw
set_option Elab.async false
set_option linter.all false
set_option maxRecDepth 100000
set_option maxHeartbeats 800000
/-! The walk, part 13: the reader's word about lanes. -/
namespace Kw
open PySem PySem.Spec PyProof.Rows L2 Km
theorem any_rows (r : Km.Row) : ∀ rs : List Km.Row, ((rs.map rowD).any fun z => PyData.eqv z (rowD r)) = decide (r ∈ rs)
  | [] => rfl
  | x :: rs => by
    show (PyData.eqv (rowD x) (rowD r) || (rs.map rowD).any fun z => PyData.eqv z (rowD r)) = _
    rw [eqv_row, any_rows r rs, Bool.eq_iff_iff, Bool.or_eq_true, decide_eq_true_eq, decide_eq_true_eq, decide_eq_true_eq, List.mem_cons]
    exact ⟨fun h => h.imp Eq.symm id, fun h => h.imp Eq.symm id⟩
/-- a lane under way -/
def LaneSoFar (r : Km.Row) : Prop := r.length ≤ 5 ∧ (∀ x ∈ r, ∀ u, x = .inl u → okW u) ∧ (r.length = 4 → ∃ x y a b, r = [x, y, .inr a, .inr b])
theorem row_sm60 {r : Km.Row} (h : ∀ x ∈ r, ∀ u, x = .inl u → okW u) : (rowD r).canLay0 = true ∧ (rowD r).depth ≤ 60 := by
  have := row_sm h
  exact ⟨this.1, Nat.le_trans this.2 (by omega)⟩
section
variable {P : Program} {w : World} {K : PySem.W.Frag} {mg : Str → Option Value} {base : Heap} {C R : Addr}
def spRdLane (K : PySem.W.Frag) (C R : Addr) : Sp := fun vs H Q E => ∃ (p d f : Addr) (ls : Nat → Addr) (q : Ps) (r : Km.Row) (l c : Int), vs = [.ref p, .ref f, .int l, .int c] ∧ RdAt K R H p d ls q ∧ Sound q ∧ H f = some (.lst (r.map fV)) ∧ LaneSoFar r ∧
  (laneBad q r = false → ∀ H', Same H H' → Q .non H') ∧ (laneBad q r = true → RaiseP C H E l c)
abbrev nmRdL : List Str := ["self", "found", "at", "place", "row"]
theorem scRdL : FnScope nmRdL ["self", "found", "at", "place"] (defScope sRdNeed) := ⟨rfl, rfl, rfl, by decide +kernel, rfl, by decide +kernel, by decide +kernel⟩
theorem len_dec (m n : Nat) : decide (V.int (m : Int) = V.int (n : Int)) = decide (m = n) := by
  rw [Bool.eq_iff_iff, decide_eq_true_eq, decide_eq_true_eq]
  exact ⟨fun h => by injection h with h; omega, fun h => by rw [h]⟩
theorem ok_rdL (T : Txt K mg w) (TE : TxtE K mg C R) {f : Addr} {fd : FuncData} (F : Fun K "need_lane" "CatalogReader.need_lane" sRdNeed f fd) : FnOk P w K mg base (L2.CX P w) 3 f fd ["self", "found", "at", "place"] (spRdLane K C R) := by
  refine F.okX scRdL (fun vs H Q E h => ?_) (fun cdv A outer s H vs Q E hr h => ?_)
  · obtain ⟨p, d, f, ls, q, r, l, c, rfl, _⟩ := h
    rfl
  · obtain ⟨p, d, f, ls, q, r, l, c, rfl, hR, S, hf, hL, kk, kr⟩ := h
    have hu := hu65 hr
    have hu1 := hu_of hr
    refine ⟨_, pss_cons (ps_if (PW.pt (pw_and (pt_cmpR op_eq (pe_len T (pv 1)) pe_int (nomark _)) (pw_and1 (pt_cmpR (op_inDK K hu) (pe_tuple1 T (pv 1))
        (pe_lc (own := [("row", 4)]) (g := gName 4) rfl scRdL.nd (pi_list (pe_dget hu1 (pe_fld (pv 0) rfl) pe_str (fun _ _ => rfl))) (blkOk_by (own := [("row", 4)]) (N := nmRdL) (sc := defScope sRdNeed) (by decide +kernel))
          (fun _ _ _ _ _ => pg_name (i := 4) scRdL.nd rfl (Or.inl rfl)) (fun _ _ _ _ _ => pts_nil) (fun _ _ _ _ _ => pe_slice (sl_tK K) (pv 4) po_none (po_some pe_int))) rfl))))
        (pss_one (ps_line rfl TE rfl rfl hr (takes_of rfl rfl rfl rfl) (pv 2) (pv 3))) pss_nil)
      (pss_one (ps_if (PW.pt (pw_and (pt_cmpR op_eq (pe_len T (pv 1)) pe_int (nomark _)) (pw_and1 (pt_cmpR op_lt (pe_ix (ix_lK K) (pv 1) pe_int (fun _ _ => rfl)) (pe_ix (ix_lK K) (pv 1) pe_int (fun _ _ => rfl)) (nomark _)))))
        (pss_one (ps_line rfl TE rfl rfl hr (takes_of rfl rfl rfl rfl) (pv 2) (pv 3))) pss_nil)), ?_⟩
    obtain ⟨h5, hok, h4⟩ := hL
    have hlv : LenV K (.ref f) H r.length := .inl ⟨_, .of hf, (List.length_map ..).symm⟩
    refine ⟨_, rfl, r.length, hlv, rfl, _, rfl, ?_⟩
    by_cases h2 : r.length = 2
    · rw [decide_eq_true (show V.int (r.length : Int) = V.int 2 by rw [h2]; rfl)]
      refine iteT ⟨_, rfl, f, _, rfl, .of hf, fun l1 n1 => ?_⟩
      have s1 : Same H (upd H l1 (.tup (r.map fV))) := same_new (Same.refl H) n1
      obtain ⟨dx, ob⟩ := hR.ob
      obtain ⟨xs, hx, hl, hrow⟩ := hR.pt 3 (by omega)
      have hR1 := rdAt_same s1 hR
      refine ⟨_, rfl, p, R, dx, _, _, rfl, s1 _ _ ob, TE.cl, TE.noP, fld_parts _, d, _, rfl, (by rw [← kvs_get ls (k := 3) (by omega)]; exact DGet.k (k := Sum.inr (ks 3)) hR1.dc), ls 3, rfl, ⟨xs, .of (s1 _ _ hx)⟩, fun D nD => ?_⟩
      have hlen : xs.length ≤ 20 := by
        have : (q 3).length ≤ 20 := S.rm 3 (by omega)
        omega
      refine lc_gen (walk_list (xs := xs)) (fun i acc H' => DpAll K H' acc ((((q 3).take i).map (List.take 2)).map rowD)) nD (by rw [sizeLine_eq]; omega) (fun H' s' => .of (s' _ _ (s1 _ _ hx))) (fun i acc _ _ e t => dps_ts t _ _ (tupOnly_rows _) e) .nil ?_ ?_
      · intro i x acc H2 H' QT QF hi s2 hacc hy kT kF
        obtain ⟨rfl, hxi⟩ := hy
        have hr' : (q 3)[i]? = some (q 3)[i] := List.getElem?_eq_getElem (by omega)
        have hrow' := rowK_ts (same_ts (s1.trans s2)) (hrow i x _ hxi hr')
        generalize (q 3)[i] = r2 at hr' hrow'
        obtain ⟨a, rfl, ha⟩ := hrow'
        refine ⟨rfl, tyes (iteT ⟨_, rfl, _, rfl, slA_take (i := 2) ha rfl fun b H4 s4 hb => kT _ _ s4 ?_⟩)⟩
        rw [List.take_succ, hr', List.map_append, List.map_append]
        refine dpAll_snoc (dps_same s4 _ _ hacc) ?_
        rw [← List.map_take] at hb
        exact .tup hb (flds_dpAll _)
      · intro acc H2 s2 hD hacc
        rw [hl, List.take_length] at hacc
        have s3 := s1.trans s2
        refine ⟨rowD r, _, .tup (.of (s2 _ _ upd_same)) (flds_dpAll r), .lst (.of hD) hacc, ?_, ?_, _, rfl, ?_⟩
        · exact sh_one (row_sm60 hok)
        · refine sh_list (k := 60) (fun e he => ?_) (by omega)
          obtain ⟨r2, hr2, rfl⟩ := List.mem_map.mp he
          refine row_sm60 fun x hx u hu => ?_
          obtain ⟨r3, hr3, rfl⟩ := List.mem_map.mp hr2
          obtain ⟨a, b, c, d, e, rfl, m1, m2, _⟩ := S.ln r3 hr3
          subst hu
          simp at hx
          rcases hx with rfl | rfl
          · exact okW_name (S.names_ok (by omega) _ m1)
          · exact okW_name (S.names_ok (by omega) _ m2)
        · rw [any_rows]
          have e2 : laneBad q r = decide (r ∈ (q 3).map (List.take 2)) := by
            unfold laneBad
            rw [decide_eq_true h2, decide_eq_false (show ¬ r.length = 4 by omega), Bool.true_and, Bool.false_and, Bool.or_false]
          rw [← e2]
          cases hb : laneBad q r with
          | true => exact iteT ⟨_, rfl, _, rfl, (by show 2 ≤ 1000; decide), fun a na => mkLine na (raiseP_same s3 (kr hb))⟩
          | false =>
            refine iteF ⟨_, rfl, r.length, .inl ⟨_, .of (s3 _ _ hf), (List.length_map ..).symm⟩, rfl, _, rfl, ?_⟩
            rw [decide_eq_false (show ¬ V.int (r.length : Int) = V.int 4 by rw [h2]; decide)]
            exact iteF (iteF (kk hb _ s3))
    · rw [decide_eq_false (show ¬ V.int (r.length : Int) = V.int 2 from fun z => h2 (by injection z with z; omega))]
      refine iteF (iteF ⟨_, rfl, r.length, hlv, rfl, _, rfl, ?_⟩)
      by_cases h4' : r.length = 4
      · obtain ⟨x, y, a, b, rfl⟩ := h4 h4'
        have e2 : laneBad q [x, y, .inr a, .inr b] = decide (b < a) := by
          unfold laneBad
          rw [decide_eq_false h2, decide_eq_true h4', Bool.true_and, Bool.false_and, Bool.false_or]
          rfl
        refine iteT ⟨_, rfl, f, _, _, _, rfl, rfl, .of hf, atI_nat (j := 3) rfl, _, rfl, f, _, _, _, rfl, rfl, .of hf, atI_nat (j := 2) rfl, _, _, rfl, rfl, _, rfl, ?_⟩
        rw [← e2]
        cases hb : laneBad q [x, y, .inr a, .inr b] with
        | true => exact iteT ⟨_, rfl, _, rfl, (by show 2 ≤ 1000; decide), fun a na => mkLine na (kr hb)⟩
        | false => exact iteF (kk hb _ (Same.refl H))
      · rw [decide_eq_false (show ¬ V.int (r.length : Int) = V.int 4 from fun z => h4' (by injection z with z; omega))]
        refine iteF (iteF (kk ?_ _ (Same.refl H)))
        unfold laneBad
        rw [decide_eq_false h2, decide_eq_false h4', Bool.false_and, Bool.false_and]
        rfl
end
end Kw
set_option Elab.async false
set_option linter.all false
set_option maxRecDepth 100000
set_option maxHeartbeats 800000
/-! The walk, part 14: one word of a row read. -/
namespace Kw
open PySem PySem.Spec PyProof.Rows L2 Km
/-- how a form names what it wants -/
inductive KindIs : Str → FK → Prop
  | new : KindIs "new" .new
  | old (k : Nat) (h : k < 3) : KindIs (ks k) (.old k)
  | span : KindIs "span" (.num 9)
  | price : KindIs "price" (.num 99)
  | day : KindIs "day" (.num 60)
  | count : KindIs "count" (.num 99)
def fkV : FK → Str
  | .new => "new"
  | .old k => ks k
  | .num m => if m = 9 then "span" else if m = 99 then "price" else "day"
section
variable {P : Program} {w : World} {K : PySem.W.Frag} {mg : Str → Option Value} {base : Heap} {C R : Addr}
def spRdPart (K : PySem.W.Frag) (C R : Addr) : Sp := fun vs H Q E => ∃ (p d : Addr) (ls : Nat → Addr) (q : Ps) (kd : Str) (fk : FK) (u : W) (own : Nat) (l c : Int), vs = [.ref p, .str kd, sv u, .str (ks own), .int l, .int c] ∧ KindIs kd fk ∧ own < 5 ∧ u.length ≤ 1000000 ∧ RdAt K R H p d ls q ∧ Sound q ∧
  (∀ x, partM q own fk u = some x → ∀ H', Same H H' → Q (fV x) H') ∧ (partM q own fk u = none → RaiseP C H E l c)
abbrev nmRdP : List Str := ["self", "kind", "word", "own", "at", "place", "number"]
theorem scRdP : FnScope nmRdP ["self", "kind", "word", "own", "at", "place"] (defScope sRdPart) := ⟨rfl, rfl, rfl, by decide +kernel, rfl, by decide +kernel, by decide +kernel⟩
theorem names_bind {f : Addr} {fd : FuncData} (F : Fun K "names" "CatalogReader.names" sRdNames f fd) : Binds K fd ["self", "word"] [] := F.binds fun _ _ _ _ _ _ us hl => match us, hl with | [_, _], _ => rfl
theorem kind3 (H : Hp) (kd : Str) : inV (.str kd) [.str "house", .str "region", .str "item"] = (decide (kd = "house") || decide (kd = "region") || decide (kd = "item")) := by
  show (eqV (.str "house") (.str kd) || (eqV (.str "region") (.str kd) || (eqV (.str "item") (.str kd) || false))) = _
  have e : ∀ a : Str, eqV (.str a) (.str kd) = decide (kd = a) := fun a => by
    show (a == kd) = decide (kd = a)
    rw [Bool.eq_iff_iff, beq_iff_eq, decide_eq_true_eq]
    exact eq_comm
  rw [e, e, e, Bool.or_false, Bool.or_assoc]
theorem ok_rdP (T : Txt K mg w) (TE : TxtE K mg C R) {f : Addr} {fd : FuncData} (F : Fun K "part" "CatalogReader.part" sRdPart f fd) : FnOk P w K mg base (L2.CX P w) 3 f fd ["self", "kind", "word", "own", "at", "place"] (spRdPart K C R) := by
  obtain ⟨fN, fdN, MN, FN⟩ := TE.mN
  obtain ⟨aM, mM, k9, k99, k60, kC, kW⟩ := T.MOST
  refine F.okX scRdP (fun vs H Q E h => ?_) (fun cdv A outer s H vs Q E hr h => ?_)
  · obtain ⟨p, d, ls, q, kd, fk, u, own, l, c, rfl, _⟩ := h
    rfl
  · obtain ⟨p, d, ls, q, kd, fk, u, own, l, c, rfl, hk, hown, hul, hR, S, kk, kr⟩ := h
    have hr1 := hr.mono (show 1 ≤ 2 by decide)
    refine ⟨_, pss_cons (ps_if (pt_cmpR op_eq (pv 1) pe_str (nomark _))
        (pss_cons (ps_if (PW.pt (pw_or (pt_not (pt_val (pe_dn (ok_name T) hr1 pass0 (pa_cons (pv 2) pa_nil)))) (pw_or1 (pt_cmpR (op_inSK K) (pv 2) (pe_meth (pv 0) TE.cl MN (ok_rdN T TE FN) hr1 (names_bind FN) .nil pass0 (pa_cons (pv 3) pa_nil)) rfl))))
          (pss_one (ps_line rfl TE rfl rfl hr (takes_of rfl rfl rfl rfl) (pv 4) (pv 5))) pss_nil)
        (pss_one (ps_ret (pv 2)))) pss_nil)
      (pss_cons (ps_if (pt_cmpR (op_inSK K) (pv 1) (pe_tup (pa_cons pe_str (pa_cons pe_str (pa_cons pe_str pa_nil)))) rfl)
        (pss_cons (ps_if (pt_cmpR (op_ninSK K) (pv 2) (pe_meth (pv 0) TE.cl MN (ok_rdN T TE FN) hr1 (names_bind FN) .nil pass0 (pa_cons (pv 1) pa_nil)) rfl)
          (pss_one (ps_line rfl TE rfl rfl hr (takes_of rfl rfl rfl rfl) (pv 4) (pv 5))) pss_nil)
        (pss_one (ps_ret (pv 2)))) pss_nil)
      (pss_cons (ps_set (i := 6) scRdP.nd rfl (Or.inl rfl) (pe_dn (ok_num T) hr1 pass0 (pa_cons (pv 2) (pa_cons (pe_ix ix_kdict (pe_gR mM) (pv 1) (fun _ _ => rfl)) pa_nil))))
      (pss_cons (ps_if (pt_cmpR op_lt (pv 6) pe_int (nomark _)) (pss_one (ps_line rfl TE rfl rfl hr (takes_of rfl rfl rfl rfl) (pv 4) (pv 5))) pss_nil)
      (pss_one (ps_ret (pv 6)))))), ?_⟩
    obtain ⟨dx, ob⟩ := hR.ob
    have raise : ∀ (σ : L2.St) (H' : Hp), Same H H' → partM q own fk u = none → 2 ≤ 1000 ∧ ∀ a : Addr, H' a = none → spLineI C [.ref a, .int l, .int c] (upd H' a (exo a C none)) (fun v H2 => v = .non ∧ ∃ (d : Addr) (fs : List (Str × V)), H2 a = some (exo a C (some d)) ∧ H2 d = some (exd d fs) ∧ H' d = none ∧ E (.ref C) (some d) (upd (del H2 a) d (.xd fs))) (fun _ _ _ => False) := fun σ H' s' e =>
      ⟨by decide, fun a na => mkLine na (raiseP_same s' (kr e))⟩
    have kinds : (fk = .new ∧ kd = "new") ∨ (∃ k, k < 3 ∧ fk = .old k ∧ kd = ks k) ∨ ∃ m, fk = .num m ∧ KDct K w aM kd (.int m) ∧ decide (V.str kd = V.str "new") = false ∧ inV (.str kd) [.str "house", .str "region", .str "item"] = false := by
      cases hk with
      | new => exact .inl ⟨rfl, rfl⟩
      | old k h => exact .inr (.inl ⟨k, h, rfl, rfl⟩)
      | span => exact .inr (.inr ⟨9, rfl, k9, by decide +kernel, by decide +kernel⟩)
      | price => exact .inr (.inr ⟨99, rfl, k99, by decide +kernel, by decide +kernel⟩)
      | day => exact .inr (.inr ⟨60, rfl, k60, by decide +kernel, by decide +kernel⟩)
      | count => exact .inr (.inr ⟨99, rfl, kC, by decide +kernel, by decide +kernel⟩)
    -- a kind of the three
    have three : ∀ k, k < 3 → (inV (.str (ks k)) [.str "house", .str "region", .str "item"]) = true := fun k h => by
      match k, h with
      | 0, _ => decide +kernel
      | 1, _ => decide +kernel
      | 2, _ => decide +kernel
    have notnew : ∀ k, k < 3 → decide (V.str (ks k) = V.str "new") = false := fun k h => by
      match k, h with
      | 0, _ => decide +kernel
      | 1, _ => decide +kernel
      | 2, _ => decide +kernel
    have nl : ∀ (m : Str) (v : V), (m == ("parts" : Str)) = false → List.lookup m [(("parts" : Str), v)] = none := fun m v h => fld_none v h
    refine ⟨_, rfl, rfl, _, rfl, ?_⟩
    rcases kinds with ⟨rfl, rfl⟩ | ⟨k, h3, rfl, rfl⟩ | ⟨m, rfl, hm, d1, d2⟩
    · refine iteT ⟨_, rfl, u, rfl, hul, fun H1 s1 => ⟨_, rfl, ?_⟩⟩
      cases hn : isName u with
      | false => exact iteT (iteT ⟨_, rfl, _, rfl, raise [] _ s1 (if_neg (by rw [hn]; simp))⟩)
      | true =>
        refine iteF ⟨_, rfl, _, rfl, p, dx, _, rfl, s1 _ _ ob, nl _ _ (by decide), _, rfl, p, d, ls, q, own, rfl, rdAt_same s1 hR, S, hown, fun nl H2 s2 n0 hl => ⟨nl, _, rfl, .inl (.of hl), rfl, flat_strs _, _, rfl, ?_⟩⟩
        have s3 := s1.trans s2
        rw [if_neg Bool.false_ne_true, inV_strs]
        by_cases hm : u ∈ names q own
        · rw [decide_eq_true hm]
          exact iteT ⟨_, rfl, _, rfl, raise [] _ s3 (if_neg (fun z => z.2 hm))⟩
        · rw [decide_eq_false hm]
          exact iteF ⟨_, rfl, kk (.inl u) (if_pos ⟨hn, hm⟩) _ s3⟩
    · rw [notnew k h3]
      refine iteF ⟨_, rfl, (by show 3 ≤ sizeLine; rw [sizeLine_eq]; decide), fun t nt => ⟨t, _, rfl, .inr (.of upd_same), rfl, rfl, _, rfl, ?_⟩⟩
      have s1 : Same H (upd H t (.tup [.str "house", .str "region", .str "item"])) := same_new (Same.refl H) nt
      rw [if_neg Bool.false_ne_true, three k h3]
      refine iteT ⟨_, rfl, _, rfl, p, dx, _, rfl, s1 _ _ ob, nl _ _ (by decide), _, rfl, p, d, ls, q, k, rfl, rdAt_same s1 hR, S, by omega, fun nl H2 s2 n0 hl => ⟨nl, _, rfl, .inl (.of hl), rfl, flat_strs _, _, rfl, ?_⟩⟩
      have s3 := s1.trans s2
      rw [if_pos rfl, inV_strs]
      by_cases hm : u ∈ names q k
      · rw [decide_eq_true hm]
        exact iteF ⟨_, rfl, kk (.inl u) (if_pos hm) _ s3⟩
      · rw [decide_eq_false hm]
        exact iteT ⟨_, rfl, _, rfl, raise [] _ s3 (if_neg hm)⟩
    · rw [d1]
      refine iteF ⟨_, rfl, (by show 3 ≤ sizeLine; rw [sizeLine_eq]; decide), fun t nt => ⟨t, _, rfl, .inr (.of upd_same), rfl, rfl, _, rfl, ?_⟩⟩
      have s1 : Same H (upd H t (.tup [.str "house", .str "region", .str "item"])) := same_new (Same.refl H) nt
      rw [if_neg Bool.false_ne_true, d2]
      refine iteF ⟨_, rfl, _, rfl, aM, kd, _, rfl, rfl, hm, u, m, rfl, hul, fun H2 s2 => ⟨_, rfl, _, _, rfl, rfl, _, rfl, ?_⟩⟩
      have s3 := s1.trans s2
      by_cases hn : numIn u m < 0
      · rw [decide_eq_true hn]
        exact iteT ⟨_, rfl, _, rfl, raise [] _ s3 (if_pos hn)⟩
      · rw [decide_eq_false hn]
        exact iteF ⟨_, rfl, kk (.inr (numIn u m)) (if_neg hn) _ s3⟩
end
end Kw
set_option Elab.async false
set_option linter.all false
set_option maxRecDepth 100000
set_option maxHeartbeats 800000
/-! The walk, part 15: a row read. -/
namespace Kw
open PySem PySem.Spec PyProof.Rows L2 Km
/-- a row under way, beside its form -/
def Fits (fs : List FK) (r : Km.Row) : Prop := r.length ≤ fs.length ∧ ∀ (i : Nat) (x : Fld) (f : FK), r[i]? = some x → fs[i]? = some f → match f with
  | .num _ => ∃ n, x = .inr n
  | _ => ∃ u, x = .inl u ∧ isName u = true
theorem fits_nil (fs : List FK) : Fits fs [] := ⟨Nat.zero_le _, fun i x f h => by simp at h⟩
theorem fits_snoc {q : Ps} (S : Sound q) {own : Nat} {fs : List FK} {r : Km.Row} {f : FK} {u : W} {x : Fld} (old : ∀ k, f = .old k → k < 3) (h : Fits fs r) (hf : fs[r.length]? = some f) (hx : partM q own f u = some x) : Fits fs (r ++ [x]) := by
  have hl := (List.getElem?_eq_some_iff.mp hf).1
  refine ⟨by rw [List.length_append]; simp; omega, fun i y g hy hg => ?_⟩
  by_cases hi : i < r.length
  · rw [List.getElem?_append_left hi] at hy
    exact h.2 i y g hy hg
  · have l1 : i < (r ++ [x]).length := (List.getElem?_eq_some_iff.mp hy).1
    rw [List.length_append] at l1
    have e : i = r.length := by
      simp at l1
      omega
    subst e
    rw [List.getElem?_append_right (Nat.le_refl _), Nat.sub_self] at hy
    rw [hf] at hg
    cases hy
    cases hg
    match f, old, hx with
    | .new, _, hx =>
      obtain ⟨rfl, h1, _⟩ := partM_new_back hx
      exact ⟨u, rfl, h1⟩
    | .old k, old, hx =>
      obtain ⟨rfl, h1⟩ := partM_old_back hx
      exact ⟨u, rfl, S.names_ok (old k rfl) _ h1⟩
    | .num m, _, hx =>
      obtain ⟨n, rfl, _⟩ := partM_num_back hx
      exact ⟨n, rfl⟩
theorem fits_lane {r : Km.Row} (h : Fits (form 3) r) : LaneSoFar r := by
  refine ⟨h.1, fun x hx u hu => ?_, fun h4 => ?_⟩
  · obtain ⟨i, hi, e⟩ := List.mem_iff_getElem.mp hx
    have hi5 : i < 5 := Nat.lt_of_lt_of_le hi h.1
    have hr : r[i]? = some x := by rw [List.getElem?_eq_getElem hi, e]
    subst hu
    have name : ∀ k, (form 3)[i]? = some (.old k) → okW u := fun k hk => by
      obtain ⟨v, hv, hn⟩ := h.2 i _ _ hr hk
      cases hv
      exact okW_name hn
    have num : ∀ m, (form 3)[i]? = some (.num m) → okW u := fun m hm => by
      obtain ⟨n, hn⟩ := h.2 i _ _ hr hm
      cases hn
    match i, hi5, name, num with
    | 0, _, name, _ => exact name 0 rfl
    | 1, _, name, _ => exact name 1 rfl
    | 2, _, _, num => exact num 9 rfl
    | 3, _, _, num => exact num 9 rfl
    | 4, _, _, num => exact num 99 rfl
  · match r, h4, h with
    | [a, b, c, d], _, h =>
      obtain ⟨m, rfl⟩ := h.2 2 c (.num 9) rfl rfl
      obtain ⟨n, rfl⟩ := h.2 3 d (.num 9) rfl rfl
      exact ⟨a, b, m, n, rfl⟩
theorem form_old {k i j : Nat} (hk : k < 5) (h : (form k)[i]? = some (.old j)) : j < 3 := by
  have hm := List.mem_of_getElem? h
  match k, hk, hm with
  | 0, _, hm => simp [form] at hm
  | 1, _, hm => simp [form] at hm
  | 2, _, hm => simp [form] at hm
  | 3, _, hm =>
    simp [form] at hm
    omega
  | 4, _, hm =>
    simp [form] at hm
    omega
theorem form_kind {k : Nat} (hk : k < 5) : (fkS k).length = (form k).length ∧ ∀ (i : Nat) (s : Str), (fkS k)[i]? = some s → ∃ f, (form k)[i]? = some f ∧ KindIs s f := by
  match k, hk with
  | 0, _ => exact ⟨rfl, fun i s h => match i, h with | 0, h => by cases h; exact ⟨_, rfl, .new⟩⟩
  | 1, _ => exact ⟨rfl, fun i s h => match i, h with | 0, h => by cases h; exact ⟨_, rfl, .new⟩⟩
  | 2, _ => exact ⟨rfl, fun i s h => match i, h with | 0, h => by cases h; exact ⟨_, rfl, .new⟩⟩
  | 3, _ => exact ⟨rfl, fun i s h => match i, h with
      | 0, h => by cases h; exact ⟨_, rfl, .old 0 (by omega)⟩
      | 1, h => by cases h; exact ⟨_, rfl, .old 1 (by omega)⟩
      | 2, h => by cases h; exact ⟨_, rfl, .span⟩
      | 3, h => by cases h; exact ⟨_, rfl, .span⟩
      | 4, h => by cases h; exact ⟨_, rfl, .price⟩⟩
  | 4, _ => exact ⟨rfl, fun i s h => match i, h with
      | 0, h => by cases h; exact ⟨_, rfl, .new⟩
      | 1, h => by cases h; exact ⟨_, rfl, .old 0 (by omega)⟩
      | 2, h => by cases h; exact ⟨_, rfl, .old 2 (by omega)⟩
      | 3, h => by cases h; exact ⟨_, rfl, .day⟩
      | 4, h => by cases h; exact ⟨_, rfl, .count⟩⟩
theorem form_len {k : Nat} (hk : k < 5) : ((form k).length = 1 ↔ k < 3) ∧ (form k).length ≤ 5 := by
  match k, hk with
  | 0, _ => decide
  | 1, _ => decide
  | 2, _ => decide
  | 3, _ => decide
  | 4, _ => decide
/-- a row behind the rows that stand -/
theorem rdAt_put {K : PySem.W.Frag} {R : Addr} {H : Hp} {p d : Addr} {ls : Nat → Addr} {q : Ps} {k : Nat} {xs : List V} {x : V} {r : Km.Row} (h : RdAt K R H p d ls q) (hk : k < 5) (hx : H (ls k) = some (.lst xs)) (hxs : RowsK K H k xs (q k)) (hr : RowK K H k x r) :
    RdAt K R (upd H (ls k) (.lst (xs ++ [x]))) p d ls (put q k r) := by
  obtain ⟨dx, ob⟩ := h.ob
  have t : TS H (upd H (ls k) (.lst (xs ++ [x]))) := ts_lst hx
  refine ⟨⟨dx, ?_⟩, ?_, h.inj, fun j hj => ?_⟩
  · rw [upd_ne (ne_of ob hx (by intro z; cases z))]
    exact ob
  · rw [upd_ne (ne_of h.dc hx (by intro z; cases z))]
    exact h.dc
  · by_cases e : j = k
    · subst e
      have e1 : put q j r j = q j ++ [r] := if_pos rfl
      rw [e1]
      exact ⟨_, upd_same, rowsK_ts t (rowsK_snoc hxs hr)⟩
    · have e1 : put q k r j = q j := if_neg e
      obtain ⟨ys, h1, h2⟩ := h.pt j hj
      rw [e1]
      exact ⟨ys, by rw [upd_ne (fun z => e (h.inj j k hj hk z))]; exact h1, rowsK_ts t h2⟩
theorem readRow_full {q : Ps} {k : Nat} {as : List W} (hk : k < 5) (h : (q k).length = room k) : readRow q (kw k :: as) = .error 1 := by
  simp only [readRow, kindOf_kw hk, if_pos h]
theorem readRow_go {q : Ps} {k : Nat} {as : List W} (hk : k < 5) (h : ¬ (q k).length = room k) : readRow q (kw k :: as) = match go q k (form k) as [] 0 with
    | .error e => .error e
    | .ok r => .ok (put q k r) := by
  simp only [readRow, kindOf_kw hk, if_neg h] <;> rfl
theorem go_none {q : Ps} {own : Nat} {f : FK} {fs : List FK} {u : W} {ws : List W} {found : Km.Row} {p : Nat} (h : partM q own f u = none) : go q own (f :: fs) (u :: ws) found p = .error (p + 2) := by
  have e : go q own (f :: fs) (u :: ws) found p = match partM q own f u with
    | none => .error (p + 2)
    | some x => if own = 3 ∧ laneBad q (found ++ [x]) = true then .error (p + 2) else go q own fs ws (found ++ [x]) (p + 1) := rfl
  rw [e, h]
theorem go_bad {q : Ps} {f : FK} {fs : List FK} {u : W} {ws : List W} {found : Km.Row} {p : Nat} {x : Fld} (h : partM q 3 f u = some x) (h2 : laneBad q (found ++ [x]) = true) : go q 3 (f :: fs) (u :: ws) found p = .error (p + 2) := by
  have e : go q 3 (f :: fs) (u :: ws) found p = match partM q 3 f u with
    | none => .error (p + 2)
    | some x => if 3 = 3 ∧ laneBad q (found ++ [x]) = true then .error (p + 2) else go q 3 fs ws (found ++ [x]) (p + 1) := rfl
  rw [e, h]
  exact if_pos ⟨rfl, h2⟩
theorem lane_dec {k : Nat} (hk : k < 5) : decide (V.str (ks k) = V.str "lane") = decide (k = 3) := by
  match k, hk with
  | 0, _ => decide +kernel
  | 1, _ => decide +kernel
  | 2, _ => decide +kernel
  | 3, _ => decide +kernel
  | 4, _ => decide +kernel
theorem ext_one {q : Ps} {k : Nat} {r : Km.Row} (h3 : k < 3) (ext : Ext q k r) : ∃ u, r = [.inl u] := by
  match k, h3, ext with
  | 0, _, ext =>
    obtain ⟨u, e, _⟩ := ext
    exact ⟨u, e⟩
  | 1, _, ext =>
    obtain ⟨u, e, _⟩ := ext
    exact ⟨u, e⟩
  | 2, _, ext =>
    obtain ⟨u, e, _⟩ := ext
    exact ⟨u, e⟩
theorem room_20 {k : Nat} (hk : k < 5) : room k ≤ 20 := by
  match k, hk with
  | 0, _ => decide
  | 1, _ => decide
  | 2, _ => decide
  | 3, _ => decide
  | 4, _ => decide
theorem kw_sv (k : Nat) : sv (kw k) = .str (ks k) := by
  rw [sv, ks_mk]
section
variable {P : Program} {w : World} {K : PySem.W.Frag} {mg : Str → Option Value} {base : Heap} {C R : Addr}
def spRdRead (K : PySem.W.Frag) (C R : Addr) : Sp := fun vs H Q E => ∃ (p d a : Addr) (ls : Nat → Addr) (q : Ps) (ws : List W) (l : Int), vs = [.ref p, .ref a, .int l] ∧ H a = some (.lst (ws.map sv)) ∧ ws ≠ [] ∧ ws.length ≤ 2000000 ∧ (∀ u ∈ ws, u.length ≤ 1000000) ∧ RdAt K R H p d ls q ∧ Sound q ∧
  (∀ q', readRow q ws = .ok q' → ∀ H', RdAt K R H' p d ls q' → TS H H' → (∀ b o, H b = some o → (∀ k, k < 5 → b ≠ ls k) → H' b = some o) → Q .non H') ∧ (∀ c, readRow q ws = .error c → RaiseP C H E l c)
abbrev nmRdR : List Str := ["self", "words", "at", "form", "found", "place", "kind"]
theorem scRdR : FnScope nmRdR ["self", "words", "at"] (defScope sRdRead) := ⟨rfl, rfl, rfl, by decide +kernel, rfl, by decide +kernel, by decide +kernel⟩
theorem part_bind {f : Addr} {fd : FuncData} (F : Fun K "part" "CatalogReader.part" sRdPart f fd) : Binds K fd ["self", "kind", "word", "own", "at", "place"] [] := F.binds fun _ _ _ _ _ _ us hl => match us, hl with | [_, _, _, _, _, _], _ => rfl
theorem lane_bind {f : Addr} {fd : FuncData} (F : Fun K "need_lane" "CatalogReader.need_lane" sRdNeed f fd) : Binds K fd ["self", "found", "at", "place"] [] := F.binds fun _ _ _ _ _ _ us hl => match us, hl with | [_, _, _, _], _ => rfl
theorem ok_rdR (T : Txt K mg w) (TE : TxtE K mg C R) {f : Addr} {fd : FuncData} (F : Fun K "read" "CatalogReader.read" sRdRead f fd) : FnOk P w K mg base (L2.CX P w) 4 f fd ["self", "words", "at"] (spRdRead K C R) := by
  obtain ⟨fP, fdP, MP, FP⟩ := TE.mP
  obtain ⟨fL, fdL, ML, FL⟩ := TE.mL
  obtain ⟨aF, esF, nF, mF, kF, inF, getF⟩ := T.FORMS
  obtain ⟨aR, mR, getR⟩ := T.ROOM
  refine F.okX scRdR (fun vs H Q E h => ?_) (fun cdv A outer s H vs Q E hr h => ?_)
  · obtain ⟨p, d, a, ls, q, ws, l, rfl, _⟩ := h
    rfl
  · obtain ⟨p, d, a, ls, q, ws, l, rfl, ha, hne, hwl, hul, hR, S, kk, kr⟩ := h
    have hr2 := hr.mono (show 2 ≤ 3 by decide)
    have hu1 := hu_of hr
    refine ⟨_, pss_cons (ps_if (PW.pt (pw_or (pt_cmpR (op_notIn_kd kF) (pe_ix (ix_lK K) (pv 1) pe_int (fun _ _ => rfl)) (pe_gR mF) rfl)
          (pw_or1 (pt_cmpR op_eq (pe_len T (pe_dget hu1 (pe_fld (pv 0) rfl) (pe_ix (ix_lK K) (pv 1) pe_int (fun _ _ => rfl)) (fun _ _ => rfl))) (pe_ix ix_kdict (pe_gR mR) (pe_ix (ix_lK K) (pv 1) pe_int (fun _ _ => rfl)) (fun _ _ => rfl)) (nomark _)))))
        (pss_one (ps_line rfl TE rfl rfl hr2 (takes_of rfl rfl rfl rfl) (pv 2) pe_int)) pss_nil)
      (pss_cons (ps_par (i := 3) (j := 4) rfl scRdR.nd rfl rfl (by decide) rfl rfl (pa_cons (pe_ix ix_kdict (pe_gR mF) (pe_ix (ix_lK K) (pv 1) pe_int (fun _ _ => rfl)) (fun _ _ => rfl)) (pa_cons (pe_lst pa_nil) pa_nil)) rfl)
      (pss_cons (ps_for (passes_of rfl) rfl (pi_enumT (by rfl) T.enum (pa_cons (pv 3) pa_nil)) (pg_tup rfl (pgs_cons (pg_name (i := 5) scRdR.nd rfl (Or.inl rfl)) (pgs_cons (pg_name (i := 6) scRdR.nd rfl (Or.inl rfl)) pgs_nil)))
        (pss_cons (ps_if (pt_cmpR op_eq (pe_op op_add (pv 5) pe_int) (pe_len T (pv 1)) (nomark _)) (pss_one (ps_line rfl TE rfl rfl hr2 (takes_of rfl rfl rfl rfl) (pv 2) (pe_op op_add (pv 5) pe_int))) pss_nil)
        (pss_cons (ps_expr (pe_bm PySem.F.plainAttrs_list PySem.F.slot_list_append PySem.F.type_list_append mt_append (pv 4) (pa_cons (pe_meth (pv 0) TE.cl MP (ok_rdP T TE FP) hr (part_bind FP) .nil (passes_call (takes_of rfl rfl rfl rfl) (fun _ _ _ _ h => h))
            (pa_cons (pv 6) (pa_cons (pe_ix (ix_lK K) (pv 1) (pe_op op_add (pv 5) pe_int) (fun _ _ => rfl)) (pa_cons (pe_ix (ix_lK K) (pv 1) pe_int (fun _ _ => rfl)) (pa_cons (pv 2) (pa_cons (pe_op op_add (pv 5) pe_int) pa_nil)))))) pa_nil)))
        (pss_one (ps_if (pt_cmpR op_eq (pe_ix (ix_lK K) (pv 1) pe_int (fun _ _ => rfl)) pe_str (nomark _)) (pss_one (ps_expr (pe_meth (pv 0) TE.cl ML (ok_rdL T TE FL) hr (lane_bind FL) .nil (passes_call (takes_of rfl rfl rfl rfl) (fun _ _ _ _ h => h)) (pa_cons (pv 4) (pa_cons (pv 2) (pa_cons (pe_op op_add (pv 5) pe_int) pa_nil)))))) pss_nil)))))
      (pss_cons (ps_if (pt_cmpR op_gt (pe_len T (pv 1)) (pe_op op_add (pe_len T (pv 3)) pe_int) (nomark _)) (pss_one (ps_line rfl TE rfl rfl hr2 (takes_of rfl rfl rfl rfl) (pv 2) (pe_op op_add (pe_len T (pv 3)) pe_int))) pss_nil)
      (pss_one (ps_expr (pe_bm PySem.F.plainAttrs_list PySem.F.slot_list_append PySem.F.type_list_append mt_append (pe_dget hu1 (pe_fld (pv 0) rfl) (pe_ix (ix_lK K) (pv 1) pe_int (fun _ _ => rfl)) (fun _ _ => rfl)) (pa_cons (pe_ifExp (pt_cmpR op_eq (pe_len T (pv 3)) pe_int (nomark _)) (pe_ix (ix_lK K) (pv 4) pe_int (fun _ _ => rfl)) (pe_tuple1 T (pv 4))) pa_nil))))))), ?_⟩
    obtain ⟨dx, ob⟩ := hR.ob
    obtain ⟨w0, as, rfl⟩ : ∃ w0 as, ws = w0 :: as := by
      cases ws with
      | nil => exact absurd rfl hne
      | cons w0 as => exact ⟨w0, as, rfl⟩
    have nlk : ∀ (m : Str) (v : V), (m == ("parts" : Str)) = false → List.lookup m [(("parts" : Str), v)] = none := fun m v h => fld_none v h
    obtain ⟨r0, e0, e1⟩ := inF (mk w0)
    rw [tl_mk'] at e1
    refine ⟨_, rfl, a, _, _, _, rfl, rfl, .of ha, atI_nat (j := 0) rfl, mk w0, r0, rfl, rfl, e0, _, rfl, ?_⟩
    rw [e1]
    cases hkd : kindOf w0 with
    | none =>
      have er : readRow q (w0 :: as) = .error 1 := by
        simp only [readRow, hkd]
      exact iteT (iteT ⟨_, rfl, (by show 2 ≤ 1000; decide), fun b nb => mkLine nb (kr 1 er)⟩)
    | some k =>
    obtain ⟨rfl, hk⟩ := kw_of hkd
    have ha' : H a = some (.lst (.str (ks k) :: as.map sv)) := by
      rw [ha, List.map_cons, kw_sv]
    have hwa : ∀ H', Same H H' → LenV K (.ref a) H' (as.length + 1) := fun H' s' => .inl ⟨_, .of (s' _ _ ha'), by rw [List.length_cons, List.length_map]⟩
    obtain ⟨xs, hx, hrow⟩ := hR.pt k hk
    have hdg : ∀ H', Same H H' → DGet H' d (.str (ks k)) (some (.ref (ls k))) := fun H' s' => by
      rw [← kvs_get ls hk]
      exact DGet.k (k := Sum.inr (ks k)) (s' _ _ hR.dc)
    refine iteF ⟨_, rfl, p, R, dx, _, _, rfl, ob, TE.cl, TE.noP, fld_parts _, _, rfl, a, _, _, _, rfl, rfl, .of ha', atI_nat (j := 0) rfl, d, _, rfl, hdg H (Same.refl H), (q k).length, .inl ⟨xs, .of hx, hrow.1.symm⟩, _, rfl, a, _, _, _, rfl, rfl, .of ha', atI_nat (j := 0) rfl, aR, ks k, _, rfl, rfl, getR k hk, rfl, _, rfl, ?_⟩
    rw [len_dec]
    by_cases hroom : (q k).length = room k
    · rw [decide_eq_true hroom]
      exact iteT ⟨_, rfl, (by show 2 ≤ 1000; decide), fun b nb => mkLine nb (kr 1 (readRow_full hk hroom))⟩
    rw [decide_eq_false hroom]
    have er := readRow_go (as := as) hk hroom
    obtain ⟨af, kD, kT⟩ := getF k hk
    obtain ⟨fl, fk⟩ := form_kind hk
    obtain ⟨fl1, fl5⟩ := form_len hk
    refine iteF ⟨_, rfl, a, _, _, _, rfl, rfl, .of ha', atI_nat (j := 0) rfl, aF, ks k, _, rfl, rfl, kD, (by show 0 ≤ sizeLine; omega), fun ff nf => ⟨_, _, rfl, ?_⟩⟩
    have s1 : Same H (upd H ff (.lst [])) := same_new (Same.refl H) nf
    refine ⟨_, rfl, af, _, rfl, kT.sq _, ?_⟩
    refine for_enumT (xs := (fkS k).map .str) (fun i σ H' => ∃ x5 x6 found, σ = [some (.ref p), some (.ref a), some (.int l), some (.ref af), some (.ref ff), x5, x6] ∧ Same H H' ∧ H' ff = some (.lst (found.map fV)) ∧ found.length = i ∧ i ≤ as.length ∧ Fits (form k) found ∧ go q k (form k) as [] 0 = go q k ((form k).drop i) (as.drop i) found i)
      ⟨none, none, [], rfl, s1, upd_same, rfl, Nat.zero_le _, fits_nil _, rfl⟩ (fun i σ H' _ => kT.sq _) ?_ ?_
    · rintro i x Tp σ H2 hx2 ⟨x5, x6, found, rfl, s2, hff, hfl, hia, hfit, hgo⟩ nT
      rw [List.getElem?_map] at hx2
      obtain ⟨kd, hkd2, rfl⟩ := Option.map_eq_some_iff.mp hx2
      obtain ⟨fkd, hfk, hki⟩ := fk i kd hkd2
      have s3 : Same H (upd H2 Tp (.tup [.int (i : Nat), .str kd])) := same_new s2 nT
      have hff3 : (upd H2 Tp (.tup [.int (i : Nat), .str kd])) ff = some (.lst (found.map fV)) := by
        rw [upd_ne (ne_of_none hff nT)]
        exact hff
      have hi5 := (List.getElem?_eq_some_iff.mp hfk).1
      refine ⟨Tp, _, rfl, .of upd_same, rfl, _, _, rfl, _, _, rfl, rfl, ?_⟩
      generalize upd H2 Tp (.tup [.int (i : Nat), .str kd]) = H3 at s3 hff3
      refine ⟨_, rfl, _, _, rfl, rfl, _, rfl, as.length + 1, hwa H3 s3, rfl, _, rfl, ?_⟩
      have c2 : (((i + 2 : Nat)) : Int) = (i : Int) + 2 := by omega
      by_cases hl : i = as.length
      · rw [decide_eq_true (show V.int ((i : Int) + 1) = V.int ((as.length + 1 : Nat) : Int) by rw [hl]; rfl)]
        have e3 : go q k (form k) as [] 0 = .error (i + 2) := by
          rw [hgo, List.drop_of_length_le (Nat.le_of_eq hl.symm), List.drop_eq_getElem_cons hi5]
          rfl
        have e4 := kr (i + 2) (by rw [er, e3])
        rw [c2] at e4
        exact iteT ⟨_, rfl, _, rfl, _, _, rfl, rfl, (by show 2 ≤ 1000; decide), fun b nb => mkLine nb (raiseP_same s3 e4)⟩
      · have hil : i < as.length := by omega
        rw [decide_eq_false (show ¬ V.int ((i : Int) + 1) = V.int ((as.length + 1 : Nat) : Int) from fun z => by injection z with z; omega)]
        have hwi : as[i]? = some as[i] := List.getElem?_eq_getElem hil
        have d1 : as.drop i = as[i] :: as.drop (i + 1) := List.drop_eq_getElem_cons hil
        have d2 : (form k).drop i = fkd :: (form k).drop (i + 1) := by
          rw [List.drop_eq_getElem_cons hi5]
          congr 1
          rw [List.getElem?_eq_getElem hi5] at hfk
          exact Option.some.inj hfk
        generalize as[i] = wi at hwi d1
        rw [d1, d2] at hgo
        have hwm : wi ∈ kw k :: as := List.mem_cons_of_mem _ (List.mem_of_getElem? hwi)
        refine iteF ⟨_, rfl, .inl ⟨rfl, _, .of hff3⟩, _, rfl, p, dx, _, rfl, s3 _ _ ob, nlk _ _ (by decide), _, rfl, _, rfl, _, rfl, _, _, rfl, rfl, a, _, _, _, rfl, rfl, .of (s3 _ _ ha'), at_of (show (i : Int) + 1 = ((i + 1 : Nat) : Int) by omega) (v := sv wi) (by rw [List.getElem?_cons_succ, List.getElem?_map, hwi]; rfl),
          _, rfl, a, _, _, _, rfl, rfl, .of (s3 _ _ ha'), atI_nat (j := 0) rfl, _, rfl, _, rfl, _, _, rfl, rfl, p, d, ls, q, kd, fkd, wi, k, l, _, rfl, hki, hk, hul _ hwm, rdAt_same s3 hR, S, fun x hx3 H4 s4 => ?_, fun hx3 => ?_⟩
        · have hff4 := s4 _ _ hff3
          have s5 : Same H (upd H4 ff (.lst (found.map fV ++ [fV x]))) := same_set (s3.trans s4) nf
          have hff5 : (upd H4 ff (.lst (found.map fV ++ [fV x]))) ff = some (.lst ((found ++ [x]).map fV)) := by
            rw [upd_same, List.map_append]
            rfl
          refine ⟨ff, _, _, rfl, rfl, hff4, (by rw [List.length_map, sizeLine_eq]; omega), ?_⟩
          generalize upd H4 ff (.lst (found.map fV ++ [fV x])) = H5 at s5 hff5
          have hfit2 := fits_snoc S (fun j hj => form_old hk (by rw [hfk, hj])) hfit (by rw [hfl]; exact hfk) hx3
          refine ⟨_, rfl, a, _, _, _, rfl, rfl, .of (s5 _ _ ha'), atI_nat (j := 0) rfl, rfl, _, rfl, ?_⟩
          rw [lane_dec hk]
          by_cases h3 : k = 3
          · subst h3
            rw [decide_eq_true rfl]
            refine iteT ⟨_, rfl, p, dx, _, rfl, s5 _ _ ob, nlk _ _ (by decide), _, rfl, _, rfl, _, rfl, _, _, rfl, rfl, p, d, ff, ls, q, found ++ [x], l, _, rfl, rdAt_same s5 hR, S, hff5, fits_lane hfit2, fun hb H6 s6 => ?_, fun hb => ?_⟩
            · rw [go_step hx3 (fun _ => hb)] at hgo
              exact ⟨_, _, found ++ [x], rfl, s5.trans s6, s6 _ _ hff5, (by rw [List.length_append, hfl]; rfl), hil, hfit2, hgo⟩
            · have e3 : go q 3 (form 3) as [] 0 = .error (i + 2) := by rw [hgo, go_bad hx3 hb]
              have e4 := kr (i + 2) (by rw [er, e3])
              rw [c2] at e4
              exact raiseP_same s5 e4
          · rw [decide_eq_false h3]
            rw [go_step hx3 (fun z => absurd z h3)] at hgo
            exact iteF ⟨_, _, found ++ [x], rfl, s5, hff5, (by rw [List.length_append, hfl]; rfl), hil, hfit2, hgo⟩
        · have e3 : go q k (form k) as [] 0 = .error (i + 2) := by rw [hgo, go_none hx3]
          have e4 := kr (i + 2) (by rw [er, e3])
          rw [c2] at e4
          exact raiseP_same s3 e4
    · rintro σ H2 ⟨x5, x6, found, rfl, s2, hff, hfl, hia, hfit, hgo⟩
      have en : ((fkS k).map V.str).length = (form k).length := by rw [List.length_map, fl]
      rw [en] at hfl hia hgo
      rw [List.drop_of_length_le (Nat.le_refl _)] at hgo
      have lf : LenV K (.ref af) H2 (form k).length := .inr ⟨_, kT.sq _, en.symm⟩
      refine ⟨_, rfl, as.length + 1, hwa H2 s2, _, rfl, (form k).length, lf, _, _, rfl, rfl, _, _, rfl, rfl, _, rfl, ?_⟩
      by_cases hlt : (form k).length < as.length
      · rw [decide_eq_true (show ((form k).length : Int) + 1 < ((as.length + 1 : Nat) : Int) by omega)]
        have e3 : go q k (form k) as [] 0 = .error ((form k).length + 2) := by
          rw [hgo, List.drop_eq_getElem_cons hlt]
          rfl
        have e4 := kr ((form k).length + 2) (by rw [er, e3])
        rw [show ((((form k).length + 2 : Nat)) : Int) = ((form k).length : Int) + 2 by omega] at e4
        exact iteT ⟨_, rfl, _, rfl, (form k).length, lf, _, _, rfl, rfl, (by show 2 ≤ 1000; decide), fun b nb => mkLine nb (raiseP_same s2 e4)⟩
      · rw [decide_eq_false (show ¬ ((form k).length : Int) + 1 < ((as.length + 1 : Nat) : Int) by omega)]
        have e3 : go q k (form k) as [] 0 = .ok found := by
          rw [hgo, List.drop_of_length_le (by omega)]
          rfl
        have eq : readRow q (kw k :: as) = .ok (put q k found) := by rw [er, e3]
        have hxl : xs.length < sizeLine := by
          have := S.rm k hk
          have h20 := room_20 hk
          rw [hrow.1, sizeLine_eq]
          omega
        have fin : ∀ (x : V) (H3 : Hp), Same H H3 → RowK K H3 k x found → rAppend (.ref (ls k)) [x] H3 fun _ H4 => Q .non H4 := fun x H3 s3 hr3 => by
          have R3 := rdAt_same s3 hR
          refine ⟨ls k, xs, x, rfl, rfl, s3 _ _ hx, hxl, ?_⟩
          refine kk _ eq _ (rdAt_put R3 hk (s3 _ _ hx) (rowsK_ts (same_ts s3) hrow) hr3) ((same_ts s3).trans (ts_lst (s3 _ _ hx))) fun b o hb hn => ?_
          rw [upd_ne (hn k hk)]
          exact s3 _ _ hb
        refine iteF ⟨_, rfl, p, R, dx, _, _, rfl, s2 _ _ ob, TE.cl, TE.noP, fld_parts _, _, rfl, a, _, _, _, rfl, rfl, .of (s2 _ _ ha'), atI_nat (j := 0) rfl, d, _, rfl, hdg H2 s2, .inl ⟨rfl, _, .of (s2 _ _ hx)⟩, _, rfl, (form k).length, lf, rfl, _, rfl, ?_⟩
        by_cases h3 : k < 3
        · rw [decide_eq_true (show V.int ((form k).length : Int) = V.int 1 by rw [fl1.mpr h3]; rfl)]
          obtain ⟨ext, _⟩ := go_ext_back hk e3
          obtain ⟨u, rfl⟩ := ext_one h3 ext
          refine iteT ⟨_, rfl, ff, _, _, _, rfl, rfl, .of hff, atI_nat (j := 0) rfl, ?_⟩
          refine fin _ _ s2 ?_
          unfold RowK
          rw [if_pos h3]
          exact ⟨u, rfl, rfl⟩
        · rw [decide_eq_false (show ¬ V.int ((form k).length : Int) = V.int 1 from fun z => h3 (fl1.mp (by injection z with z; omega)))]
          refine iteF ⟨_, rfl, ff, _, rfl, .of hff, fun t nt => ?_⟩
          refine fin _ _ (same_new s2 nt) ?_
          unfold RowK
          rw [if_neg h3]
          exact ⟨t, rfl, .of upd_same⟩
end
end Kw
set_option Elab.async false
set_option linter.all false
set_option maxRecDepth 100000
set_option maxHeartbeats 800000
/-! The walk, part 16: a catalog read. -/
namespace Kw
open PySem PySem.Spec PyProof.Rows L2 Km
theorem splA_parts (c : Nat) : ∀ (u acc : W), (splA c acc u).length ≤ u.length + 1 ∧ ∀ p ∈ splA c acc u, p.length ≤ acc.length + u.length ∧ ∀ x ∈ p, x ∈ acc ∨ x ∈ u
  | [], acc => ⟨Nat.le_refl _, fun p hp => by
      rw [show splA c acc [] = [acc] from rfl, List.mem_singleton] at hp
      subst hp
      exact ⟨Nat.le_refl _, fun x hx => .inl hx⟩⟩
  | y :: r, acc => by
    have e : splA c acc (y :: r) = if y = c then acc :: splA c [] r else splA c (acc ++ [y]) r := rfl
    rw [e]
    by_cases h : y = c
    · rw [if_pos h]
      obtain ⟨a, b⟩ := splA_parts c r []
      refine ⟨by rw [List.length_cons, List.length_cons]; omega, fun p hp => ?_⟩
      rcases List.mem_cons.mp hp with rfl | hp
      · exact ⟨Nat.le_add_right _ _, fun x hx => .inl hx⟩
      · obtain ⟨b1, b2⟩ := b p hp
        refine ⟨by rw [List.length_cons]; simp at b1; omega, fun x hx => .inr (List.mem_cons_of_mem _ ?_)⟩
        rcases b2 x hx with z | z
        · simp at z
        · exact z
    · rw [if_neg h]
      obtain ⟨a, b⟩ := splA_parts c r (acc ++ [y])
      refine ⟨by rw [List.length_cons]; omega, fun p hp => ?_⟩
      obtain ⟨b1, b2⟩ := b p hp
      rw [List.length_append] at b1
      refine ⟨by rw [List.length_cons]; simp at b1; omega, fun x hx => ?_⟩
      rcases b2 x hx with z | z
      · rcases List.mem_append.mp z with z | z
        · exact .inl z
        · rw [List.mem_singleton] at z
          subst z
          exact .inr (List.mem_cons_self ..)
      · exact .inr (List.mem_cons_of_mem _ z)
theorem spl_ok (c : Nat) {u : W} (hu : okW u) (hl : u.length ≤ 1000000) : (splA c [] u).length ≤ 1000001 ∧ ∀ p ∈ splA c [] u, p.length ≤ 1000000 ∧ okW p := by
  obtain ⟨a, b⟩ := splA_parts c u []
  refine ⟨by omega, fun p hp => ?_⟩
  obtain ⟨b1, b2⟩ := b p hp
  refine ⟨by simp at b1; omega, fun x hx => ?_⟩
  rcases b2 x hx with z | z
  · simp at z
  · exact hu x z
theorem readRow_sound {q q' : Ps} {ws : List W} (S : Sound q) (h : readRow q ws = .ok q') : Sound q' := by
  cases ws with
  | nil =>
    cases h
    exact S
  | cons u as =>
    have h2 : readRows q [u :: as] 0 = .ok q' := by
      rw [readRows_ok h]
      rfl
    exact (readRows_back h2 (fun ws hws => by
      rw [List.mem_singleton] at hws
      subst hws
      exact List.cons_ne_nil _ _) S).1
theorem readRows_bad {q : Ps} {ws : List W} {r : List (List W)} {n c : Nat} (h : readRow q ws = .error c) : readRows q (ws :: r) n = .error (n + 1, c) := by
  rw [readRows_cons, h]
theorem words_filter {u : W} : wordsOf u = (splA 32 [] u).filter fun p => !decide (p = []) := rfl
/-- a comprehension that leaves words out -/
theorem filt_take {l : List W} {f : W → Bool} {i : Nat} {x : W} (h : l[i]? = some x) : (l.take (i + 1)).filter f = (l.take i).filter f ++ if f x = true then [x] else [] := by
  rw [List.take_succ, h, List.filter_append]
  congr 1
  show List.filter f [x] = _
  by_cases e : f x = true
  · rw [if_pos e, List.filter_cons_of_pos e]
    rfl
  · rw [if_neg e, List.filter_cons_of_neg e]
    rfl
theorem eqvs_nil (ds : List PyData) : PyData.eqv (.list ds) (.list []) = decide (ds = []) := by
  cases ds with
  | nil => rfl
  | cons d ds => exact (decide_eq_false (List.cons_ne_nil _ _)).symm
/-- a part as data -/
def partD (q : Ps) (k : Nat) : PyData := if k < 3 then strsD (names q k) else rowsD (q k)
theorem catD_parts (q : Ps) : catD q = .tuple ((List.range 5).map (partD q)) := rfl
theorem rowsK_names {K : PySem.W.Frag} {H : Hp} {k : Nat} {xs : List V} {q : Ps} (h : RowsK K H k xs (q k)) (h3 : k < 3) : xs = (names q k).map sv := by
  refine List.ext_getElem? fun i => ?_
  unfold names
  rw [List.map_map, List.getElem?_map]
  by_cases hi : i < xs.length
  · have h1 : xs[i]? = some xs[i] := List.getElem?_eq_getElem hi
    have h2 : (q k)[i]? = some ((q k)[i]'(by rw [← h.1]; exact hi)) := List.getElem?_eq_getElem _
    have h3' := h.2 i _ _ h1 h2
    unfold RowK at h3'
    rw [if_pos h3] at h3'
    obtain ⟨u, e1, e2⟩ := h3'
    rw [h1, h2, e1, e2]
    rfl
  · rw [List.getElem?_eq_none (by omega), List.getElem?_eq_none (by rw [← h.1]; omega)]
    rfl
theorem rowsK_rows {K : PySem.W.Frag} {H : Hp} {k : Nat} (h3 : ¬ k < 3) : ∀ (xs : List V) (rs : List Km.Row), xs.length = rs.length → (∀ (i : Nat) (x : V) (r : Km.Row), xs[i]? = some x → rs[i]? = some r → RowK K H k x r) → DpAll K H xs (rs.map rowD)
  | [], [], _, _ => .nil
  | [], _ :: _, hl, _ => by simp at hl
  | _ :: _, [], hl, _ => by simp at hl
  | x :: xs, r :: rs, hl, hi => by
    refine .cons ?_ (rowsK_rows h3 xs rs (by simpa using hl) fun i y s e1 e2 => hi (i + 1) y s e1 e2)
    have h0 := hi 0 x r rfl rfl
    unfold RowK at h0
    rw [if_neg h3] at h0
    obtain ⟨b, rfl, hb⟩ := h0
    exact .tup hb (flds_dpAll _)
theorem rows_data {K : PySem.W.Frag} {H : Hp} {k : Nat} {xs : List V} {q : Ps} {a : Addr} (h : RowsK K H k xs (q k)) (ha : SqT K H a xs) : Dp K H (.ref a) (partD q k) := by
  unfold partD
  by_cases h3 : k < 3
  · rw [if_pos h3]
    refine .tup ha ?_
    rw [rowsK_names h h3]
    exact strs_dpAll _
  · rw [if_neg h3]
    exact .tup ha (rowsK_rows h3 xs (q k) h.1 h.2)
theorem tupOnlys_strs : ∀ ws : List W, tupOnlys (ws.map dS) = true
  | [] => rfl
  | _ :: ws => tupOnlys_strs ws
theorem tupOnly_part (q : Ps) (k : Nat) : tupOnly (partD q k) = true := by
  unfold partD
  by_cases h3 : k < 3
  · rw [if_pos h3]
    exact tupOnlys_strs _
  · rw [if_neg h3]
    exact tupOnly_rows _
theorem tupOnly_parts (q : Ps) : ∀ l : List Nat, tupOnlys (l.map (partD q)) = true
  | [] => rfl
  | k :: l => by
    show (tupOnly (partD q k) && tupOnlys (l.map (partD q))) = true
    rw [tupOnly_part, tupOnly_parts q l]
    rfl
theorem lacks_any (q : Ps) : (((List.range 3).map fun k => PyData.list ((names q k).map dS)).any fun z => PyData.eqv z (.list [])) = lacks q := by
  show (PyData.eqv (.list ((names q 0).map dS)) (.list []) || (PyData.eqv (.list ((names q 1).map dS)) (.list []) || (PyData.eqv (.list ((names q 2).map dS)) (.list []) || false))) = _
  have e : ∀ k, decide ((names q k).map dS = []) = (q k).isEmpty := fun k => by
    unfold names
    cases q k with
    | nil => rfl
    | cons r rs => rfl
  rw [eqvs_nil, eqvs_nil, eqvs_nil, e, e, e, Bool.or_false]
  unfold lacks
  rw [Bool.or_assoc]
theorem hu64 {k : Nat} {A : Around} (hr : Room k A) : A.units + 64 < cLine := by
  have := hr.un
  omega
theorem pe_fldK {X : Cx} (K : PySem.W.Frag) {e : Expr} {ta : TE} {f : Str} {pos : Pos} (he : PE X e ta) (eK : X.K = K := by rfl) (hb : attributeBase e f X.env (eval e X.env) = eval e X.env := by rfl) : PE X (.Attribute e f pos) (tFld K ta f) := by
  subst eK
  exact pe_fld he hb
theorem emp_eq : (Str.ofString "") = mk [] := by decide +kernel
theorem sv_emp (p : W) : decide (sv p = V.str "") = decide (p = []) := by
  rw [Bool.eq_iff_iff, decide_eq_true_eq, decide_eq_true_eq]
  exact ⟨fun h => mk_inj (by injection h), fun h => by rw [h, sv, emp_eq]⟩
/-- a loop over enumerate of a list -/
theorem for_enumL {K : PySem.W.Frag} {a : Addr} {xs : List V} {g : TG} {tb : L2.TS} {D : Ends} {σ : L2.St} {H : Hp} (Pv : Nat → L2.St → Hp → Prop) (h0 : Pv 0 σ H) (hq : ∀ i σ H, Pv i σ H → SqL K H a xs)
    (hs : ∀ (i : Nat) (x : V) (T : Addr) (σ : L2.St) (H : Hp), xs[i]? = some x → Pv i σ H → H T = none → g (.ref T) σ (upd H T (.tup [.int (i : Nat), x])) fun σ2 H2 => tb { D with nx := Pv (i + 1), ct := Pv (i + 1), bk := D.nx } σ2 H2) (hd : ∀ σ H, Pv xs.length σ H → D.nx σ H) :
    ∃ W : Nat → Nat → L2.St → Hp → Prop, (∃ m, W 0 m σ H) ∧ ∀ i m σ H, W i m σ H →
      ((Ite K a).stop i H ∧ D.nx σ H) ∨ ((Ite K a).go i H ∧ ∃ N : L2.St → Hp → Prop, (∀ σ' H', N σ' H' → ∃ m', m' < m ∧ W (i + 1) m' σ' H') ∧ ∀ v H', (Ite K a).yld i H v H' → g v σ H' fun σ2 H2 => tb { D with nx := N, ct := N, bk := D.nx } σ2 H2) := by
  refine ⟨fun i m σ H => m = xs.length - i ∧ i ≤ xs.length ∧ Pv i σ H, ⟨xs.length, rfl, Nat.zero_le _, h0⟩, ?_⟩
  rintro i m σ H ⟨rfl, hi, p⟩
  have qx := hq i σ H p
  by_cases hlt : i < xs.length
  · have hx : xs[i]? = some xs[i] := List.getElem?_eq_getElem hlt
    refine .inr ⟨⟨xs, _, qx, hx⟩, Pv (i + 1), fun σ' H' p' => ⟨xs.length - (i + 1), by omega, rfl, hlt, p'⟩, fun v H' y => ?_⟩
    obtain ⟨T, x', rfl, hT, rfl, f1⟩ := y
    exact hs i x' T σ H (f1 xs qx) p hT
  · have e : i = xs.length := by omega
    subst e
    exact .inl ⟨⟨xs, qx, Nat.le_refl _⟩, hd σ H p⟩
section
variable {P : Program} {w : World} {K : PySem.W.Frag} {mg : Str → Option Value} {base : Heap} {C R : Addr}
def spReadC (K : PySem.W.Frag) (C : Addr) : Sp := fun vs H Q E => ∃ t : W, vs = [sv t] ∧ okW t ∧ t.length ≤ 1000000 ∧ (∀ q, readCat t = .ok q → ∀ v H', Same H H' → Dp K H' v (catD q) → Q v H') ∧ (∀ l c, readCat t = .error (l, c) → RaiseP C H E l c)
abbrev nmRC : List Str := ["text", "reader", "rows", "at", "row", "words", "word"]
theorem scRC : FnScope nmRC ["text"] (defScope sReadCat) := ⟨rfl, rfl, rfl, by decide +kernel, rfl, by decide +kernel, by decide +kernel⟩
theorem read_bind {f : Addr} {fd : FuncData} (F : Fun K "read" "CatalogReader.read" sRdRead f fd) : Binds K fd ["self", "words", "at"] [] := F.binds fun _ _ _ _ _ _ us hl => match us, hl with | [_, _, _], _ => rfl
theorem init_bind {f : Addr} {fd : FuncData} (F : Fun K "__init__" "CatalogReader.__init__" sRdInit f fd) : Binds K fd ["self"] [] := F.binds fun _ _ _ _ _ _ us hl => match us, hl with | [_], _ => rfl
theorem ok_readC (T : Txt K mg w) (TE : TxtE K mg C R) : Dn P w K mg base (L2.CX P w) 5 "read_catalog" ["text"] (spReadC K C) := by
  obtain ⟨fI, fdI, MI, FI⟩ := TE.mI
  obtain ⟨fR, fdR, MR, FR⟩ := TE.mR
  obtain ⟨aW, mW, kW⟩ := T.WORDS
  refine T.dReadC.dn (fun f fd F => F.okX scRC (fun vs H Q E h => ?_) (fun cdv A outer s H vs Q E hr h => ?_)) (fun _ _ _ _ _ _ us hl => match us, hl with | [_], _ => rfl)
  · obtain ⟨t, rfl, _⟩ := h
    rfl
  · obtain ⟨t, rfl, ht, htl, kk, kr⟩ := h
    have hr2 := hr.mono (show 2 ≤ 4 by decide)
    have hu1 := hu_of hr
    have hu := hu65 hr
    have hu4 := hu64 hr
    refine ⟨_, pss_cons (ps_if (pt_not (pt_val (pe_isi T (pv 0) T.str boot_str))) (pss_one ps_never) pss_nil)
      (pss_cons (ps_asg (pe_tup (pa_cons (pe_make0 MI (ok_rdI T TE FI) hr2 (by rfl) TE.gR (init_bind FI) .nil pass0) (pa_cons (pe_sp (pv 0) pe_str) pa_nil))) (pg_tup rfl (pgs_cons (pg_name (i := 1) scRC.nd rfl (Or.inr rfl)) (pgs_cons (pg_name (i := 2) scRC.nd rfl (Or.inl rfl)) pgs_nil))))
      (pss_cons (ps_for (passes_of rfl) rfl (pi_enum (by rfl) T.enum (pa_cons (pv 2) pa_nil)) (pg_tup rfl (pgs_cons (pg_name (i := 3) scRC.nd rfl (Or.inl rfl)) (pgs_cons (pg_name (i := 4) scRC.nd rfl (Or.inl rfl)) pgs_nil)))
        (pss_cons (ps_setLc (i := 5) (own := [("word", 6)]) (g := gName 6) rfl scRC.nd rfl rfl (sw_true rfl rfl rfl (by decide +kernel)) (pi_list (pe_sp (pv 4) pe_str)) (blkOk_by (own := [("word", 6)]) (N := nmRC) (sc := defScope sReadCat) (by decide +kernel))
            (fun _ _ _ _ _ => pg_name (i := 6) scRC.nd rfl (Or.inl rfl)) (fun _ _ _ _ _ => pts_one (pt_cmpR op_ne (pv 6) pe_str (nomark _))) (fun _ _ _ _ _ => pv 6))
        (pss_one (ps_if (pt_cmpR (op_neDK K hu4) (pv 5) (pe_lst pa_nil) rfl) (pss_one (ps_expr (pe_meth (pv 1) TE.cl MR (ok_rdR T TE FR) hr (read_bind FR) .nil (passes_call (takes_of rfl rfl rfl rfl) (fun _ _ _ _ h => h)) (pa_cons (pv 5) (pa_cons (pe_op op_add (pv 3) pe_int) pa_nil))))) pss_nil))))
      (pss_cons (ps_if (pt_cmpR (op_inDK K hu) (pe_lst pa_nil) (pe_lc (own := [("word", 6)]) (g := gName 6) rfl scRC.nd (pi_tup (pe_slice (sl_tK K) (pe_gR mW) po_none (po_some pe_int))) (blkOk_by (own := [("word", 6)]) (N := nmRC) (sc := defScope sReadCat) (by decide +kernel))
            (fun _ _ _ _ _ => pg_name (i := 6) scRC.nd rfl (Or.inl rfl)) (fun _ _ _ _ _ => pts_nil) (fun _ _ _ _ _ => pe_dget hu1 (pe_fldK K (pv 1)) (pv 6) (fun _ _ => rfl))) rfl)
          (pss_one (ps_line rfl TE rfl rfl hr2 (takes_of rfl rfl rfl rfl) (pe_op op_add (pe_len T (pv 2)) pe_int) pe_int)) pss_nil)
      (pss_one (ps_ret (pe_tuple1 T (pe_lc (own := [("word", 6)]) (g := gName 6) rfl scRC.nd (pi_tup (pe_gR mW)) (blkOk_by (own := [("word", 6)]) (N := nmRC) (sc := defScope sReadCat) (by decide +kernel))
            (fun _ _ _ _ _ => pg_name (i := 6) scRC.nd rfl (Or.inl rfl)) (fun _ _ _ _ _ => pts_nil) (fun _ _ _ _ _ => pe_tuple1 T (pe_dget hu1 (pe_fldK K (pv 1)) (pv 6) (fun _ _ => rfl)))))))))), ?_⟩
    have nlk : ∀ (m : Str) (v : V), (m == ("parts" : Str)) = false → List.lookup m [(("parts" : Str), v)] = none := fun m v h => fld_none v h
    obtain ⟨rcl, rok⟩ := spl_ok 10 ht htl
    refine ⟨_, rfl, "str", true, .base (.str _), by decide +kernel, _, rfl, iteF ?_⟩
    refine fun x dx0 nx nd ne => ⟨x, dx0, rfl, upd_same, fun d ls H1 hR hfr nd1 nls => ⟨rfl, ?_⟩⟩
    have s0 : Same H (upd (upd H dx0 (.own x)) x (.ins R dx0 [])) := same_new (same_new (Same.refl H) nd) (by rw [upd_ne ne.symm]; exact nx)
    have s1 : Same H H1 := fun b o e => hfr b o (s0 b o e) (ne_of_none e nx)
    have nls' : ∀ k, k < 5 → H (ls k) = none := fun k hk => Same.free s0 (nls k hk)
    refine ⟨_, rfl, ⟨_, rfl⟩, t, 10, rfl, (by rw [nl_eq]; rfl), by omega, htl, fun rr nr => ⟨(by show 2 ≤ sizeLine; rw [sizeLine_eq]; decide), fun tp ntp => ?_⟩⟩
    have hrr : ∀ k, k < 5 → rr ≠ ls k := fun k hk z => by
      obtain ⟨xs, e, _⟩ := hR.pt k hk
      rw [z, e] at nr
      cases nr
    refine ⟨tp, _, rfl, .of upd_same, rfl, _, _, rfl, _, _, rfl, rfl, ?_⟩
    have s2 : Same H1 (upd (upd H1 rr (.lst ((splA 10 [] t).map sv))) tp (.tup [.ref x, .ref rr])) := same_new (same_new (Same.refl H1) nr) ntp
    have hrows : (upd (upd H1 rr (.lst ((splA 10 [] t).map sv))) tp (.tup [.ref x, .ref rr])) rr = some (.lst ((splA 10 [] t).map sv)) := by
      rw [upd_ne (ne_of_none upd_same ntp), upd_same]
    have hR2 := rdAt_same s2 hR
    have s3 := s1.trans s2
    generalize upd (upd H1 rr (.lst ((splA 10 [] t).map sv))) tp (.tup [.ref x, .ref rr]) = H2 at s2 hrows hR2 s3
    refine ⟨_, rfl, rr, _, rfl, .of hrows, ?_⟩
    refine for_enumL (xs := (splA 10 [] t).map sv) (fun i σ H' => ∃ x3 x4 x5 q, σ = [some (sv t), some (.ref x), some (.ref rr), x3, x4, x5, none] ∧ Same H H' ∧ RdAt K R H' x d ls q ∧ Sound q ∧ H' rr = some (.lst ((splA 10 [] t).map sv)) ∧ readRows ps0 (rowsOf t) 0 = readRows q ((rowsOf t).drop i) i)
      ⟨none, none, none, ps0, rfl, s3, hR2, sound0, hrows, rfl⟩ (fun i σ H' ⟨_, _, _, _, _, _, _, _, e, _⟩ => .of e) ?_ ?_
    · rintro i y Tp σ H3 hy ⟨x3, x4, x5, q, rfl, s4, hR3, S, hrw, hrd⟩ nT
      rw [List.getElem?_map] at hy
      obtain ⟨u, hu3, rfl⟩ := Option.map_eq_some_iff.mp hy
      obtain ⟨hul, huo⟩ := rok u (List.mem_of_getElem? hu3)
      have hd2 : (rowsOf t).drop i = wordsOf u :: (rowsOf t).drop (i + 1) := by
        have hi : i < (rowsOf t).length := by
          unfold rowsOf
          rw [List.length_map]
          exact (List.getElem?_eq_some_iff.mp hu3).1
        rw [List.drop_eq_getElem_cons hi]
        congr 1
        have e : (rowsOf t)[i]? = some (wordsOf u) := by
          unfold rowsOf
          rw [List.getElem?_map, hu3]
          rfl
        rw [List.getElem?_eq_getElem hi] at e
        exact Option.some.inj e
      rw [hd2] at hrd
      refine ⟨Tp, _, rfl, .of upd_same, rfl, _, _, rfl, _, _, rfl, rfl, ?_⟩
      have s5 : Same H3 (upd H3 Tp (.tup [.int (i : Nat), sv u])) := same_new (Same.refl _) nT
      generalize upd H3 Tp (.tup [.int (i : Nat), sv u]) = H4 at s5
      refine ⟨_, rfl, ⟨_, rfl⟩, u, 32, rfl, (by rw [sp_eq]; rfl), by omega, hul, fun wl nwl => ⟨wl, rfl, ⟨_, .of upd_same⟩, fun D nD => ?_⟩⟩
      have s6 : Same H4 (upd H4 wl (.lst ((splA 32 [] u).map sv))) := same_new (Same.refl _) nwl
      obtain ⟨wcl, wok⟩ := spl_ok 32 huo hul
      refine lc_gen (walk_list (xs := (splA 32 [] u).map sv)) (fun m acc _ => acc = (((splA 32 [] u).take m).filter fun p => !decide (p = [])).map sv) nD (by rw [List.length_map, sizeLine_eq]; omega) (fun H' s' => .of (s' _ _ upd_same)) (fun m acc _ _ e _ => e) rfl ?_ ?_
      · intro m z acc H5 H6 QT QF hm s7 hacc hz kT kF
        obtain ⟨rfl, hz2⟩ := hz
        rw [List.getElem?_map] at hz2
        obtain ⟨p, hp, rfl⟩ := Option.map_eq_some_iff.mp hz2
        refine ⟨rfl, ⟨_, rfl, rfl, _, rfl, ?_⟩⟩
        have e5 := filt_take (f := fun p : W => !decide (p = [])) hp
        rw [sv_emp]
        by_cases hp0 : p = []
        · rw [decide_eq_true hp0]
          refine iteF (kF _ (Same.refl _) ?_)
          rw [hacc, e5, hp0]
          simp
        · rw [decide_eq_false hp0]
          refine iteT ⟨_, rfl, kT _ _ (Same.refl _) ?_⟩
          rw [hacc, e5]
          simp [hp0]
      · intro acc H5 s7 hD hacc
        rw [List.length_map, List.take_length] at hacc
        have hacc : acc = (wordsOf u).map sv := hacc
        subst hacc
        have s8 := s5.trans (s6.trans s7)
        have wsub : ∀ p ∈ wordsOf u, p.length ≤ 1000000 ∧ okW p := fun p hp => wok p ((List.mem_filter.mp hp).1)
        have wlen : (wordsOf u).length ≤ 1000000 + 1 := Nat.le_trans (List.length_filter_le ..) wcl
        refine ⟨_, rfl, (by show 0 ≤ sizeLine; omega), fun e0 ne0 => ⟨.list ((wordsOf u).map dS), .list [], .lst (.of (by rw [upd_ne (ne_of_none hD ne0)]; exact hD)) (strs_dpAll _), .lst (.of upd_same) .nil, ?_, by decide +kernel, _, rfl, ?_⟩⟩
        · refine sh_list (k := 60) (fun e he => ?_) (by omega)
          obtain ⟨p, hp, rfl⟩ := List.mem_map.mp he
          have := sm_str (wsub p hp).2
          exact ⟨this.1, Nat.le_trans this.2 (by omega)⟩
        · have s9 : Same H5 (upd H5 e0 (.lst [])) := same_new (Same.refl _) ne0
          have s10 := s8.trans s9
          have hD2 := s9 _ _ hD
          generalize upd H5 e0 (.lst []) = H6 at s9 s10 hD2
          rw [eqvs_nil]
          by_cases hw : wordsOf u = []
          · rw [decide_eq_true (show (wordsOf u).map dS = [] by rw [hw]; rfl)]
            rw [hw, readRows_ok (q' := q) rfl] at hrd
            exact iteF ⟨_, _, _, q, rfl, s4.trans s10, rdAt_same s10 hR3, S, s10 _ _ hrw, hrd⟩
          · rw [decide_eq_false (show ¬ (wordsOf u).map dS = [] from fun z => hw (List.map_eq_nil_iff.mp z))]
            obtain ⟨dx, ob⟩ := hR3.ob
            refine iteT ⟨_, rfl, x, dx, _, rfl, s10 _ _ ob, nlk _ _ (by decide), _, rfl, _, rfl, _, _, rfl, rfl, x, d, D, ls, q, wordsOf u, _, rfl, hD2, hw, ?_, fun p hp => (wsub p hp).1, rdAt_same s10 hR3, S, fun q' hq H7 hR7 t7 fr7 => ?_, fun c hc => ?_⟩
            · omega
            · rw [readRows_ok hq] at hrd
              refine ⟨_, _, _, q', rfl, fun b o e => fr7 b o ((s4.trans s10) b o e) fun k hk z => ?_, hR7, readRow_sound S hq, fr7 _ _ (s10 _ _ hrw) hrr, hrd⟩
              rw [z, nls' k hk] at e
              cases e
            · rw [readRows_bad hc] at hrd
              have e4 := kr (i + 1) c (by unfold readCat; rw [hrd])
              rw [show (((i + 1 : Nat)) : Int) = (i : Int) + 1 by omega] at e4
              exact raiseP_same (s4.trans s10) e4
    · rintro σ H3 ⟨x3, x4, x5, q, rfl, s4, hR3, S, hrw, hrd⟩
      have en : ((splA 10 [] t).map sv).length = (rowsOf t).length := by
        unfold rowsOf
        rw [List.length_map, List.length_map]
      rw [en, List.drop_of_length_le (Nat.le_refl _)] at hrd
      obtain ⟨dx, ob⟩ := hR3.ob
      refine ⟨(by show 0 ≤ sizeLine; omega), fun e0 ne0 => ⟨_, rfl, slA_take (i := 3) (kW.sq _) rfl fun wt H4 s5 hw => ⟨wt, rfl, ⟨_, hw⟩, fun D nD => ?_⟩⟩⟩
      have s6 : Same H3 H4 := (same_new (Same.refl _) ne0).trans s5
      have he0 := s5 _ _ (upd_same (H := H3) (a := e0) (o := .lst []))
      refine lc_gen (walk_tup (xs := ((List.range 5).map fun k => V.str (ks k)).take 3)) (fun i acc _ => acc = (List.range i).map fun k => V.ref (ls k)) nD (by show 3 < sizeLine; rw [sizeLine_eq]; decide) (fun H' s' => same_sqt s' hw) (fun i acc _ _ e _ => e) rfl ?_ ?_
      · intro i y acc H5 H6 QT QF hi s7 hacc hy kT kF
        obtain ⟨rfl, hy2⟩ := hy
        have hi3 : i < 3 := hi
        have ey : y = .str (ks i) := by
          rw [List.getElem?_take, if_pos hi3, List.getElem?_map, List.getElem?_range (by omega)] at hy2
          exact (Option.some.inj hy2).symm
        subst ey
        have R5 := rdAt_same (s6.trans s7) hR3
        refine ⟨rfl, tyes (iteT ⟨_, rfl, x, R, dx, _, _, rfl, (s6.trans s7) _ _ ob, TE.cl, TE.noP, fld_parts _, _, rfl, d, _, rfl, (by rw [← kvs_get ls (k := i) (by omega)]; exact DGet.k (k := Sum.inr (ks i)) R5.dc), kT _ _ (Same.refl _) ?_⟩)⟩
        rw [hacc, List.range_succ, List.map_append]
        rfl
      · intro acc H5 s7 hD hacc
        have hacc : acc = (List.range 3).map fun k => V.ref (ls k) := hacc
        subst hacc
        have s8 := s6.trans s7
        have R5 := rdAt_same s8 hR3
        have lst3 : ∀ k, k < 3 → Dp K H5 (.ref (ls k)) (.list ((names q k).map dS)) := fun k hk => by
          obtain ⟨xs, e1, e2⟩ := R5.pt k (by omega)
          rw [rowsK_names e2 hk] at e1
          exact .lst (.of e1) (strs_dpAll _)
        have smw : ∀ k, k < 3 → (PyData.list ((names q k).map dS)).canLay0 = true ∧ (PyData.list ((names q k).map dS)).depth ≤ 59 := fun k hk => by
          obtain ⟨a, b⟩ := lays (ds := (names q k).map dS) (k := 58) fun e he => by
            obtain ⟨p, hp, rfl⟩ := List.mem_map.mp he
            have := sm_str (okW_name (S.names_ok hk p hp))
            exact ⟨this.1, Nat.le_trans this.2 (by omega)⟩
          exact ⟨a, by show PyData.depthAll _ + 1 ≤ 59; omega⟩
        refine ⟨.list [], _, .lst (.of (s7 _ _ he0)) .nil, .lst (.of hD) (dpAll_map (f := fun k => V.ref (ls k)) (g := fun k => PyData.list ((names q k).map dS)) fun k hk => lst3 k (List.mem_range.mp hk)), by decide +kernel, ?_, _, rfl, ?_⟩
        · refine sh_list (k := 59) (fun e he => ?_) (by omega)
          obtain ⟨k, hk, rfl⟩ := List.mem_map.mp he
          exact smw k (List.mem_range.mp hk)
        · rw [lacks_any]
          have s9 := s4.trans s8
          cases hlk : lacks q with
          | true =>
            have e4 := kr ((rowsOf t).length + 1) 1 (by unfold readCat; rw [hrd]; exact if_pos hlk)
            rw [show ((((rowsOf t).length + 1 : Nat)) : Int) = ((rowsOf t).length : Int) + 1 by omega] at e4
            exact iteT ⟨_, rfl, (rowsOf t).length, .inl ⟨_, .of (s8 _ _ hrw), en.symm⟩, _, _, rfl, rfl, (by show 2 ≤ 1000; decide), fun b nb => mkLine nb (raiseP_same s9 e4)⟩
          | false =>
            have eq : readCat t = .ok q := by
              unfold readCat
              rw [hrd]
              exact if_neg (by rw [hlk]; exact Bool.false_ne_true)
            refine iteF ⟨aW, rfl, ⟨_, kW.sq _⟩, fun D2 nD2 => ?_⟩
            refine lc_gen (walk_tup (xs := (List.range 5).map fun k => V.str (ks k))) (fun i acc H' => DpAll K H' acc ((List.range i).map (partD q))) nD2 (by show 5 < sizeLine; rw [sizeLine_eq]; decide) (fun H' s' => kW.sq _) (fun i acc _ _ e t' => dps_ts t' _ _ (tupOnly_parts q _) e) .nil ?_ ?_
            · intro i y acc H6 H7 QT QF hi s10 hacc hy kT kF
              obtain ⟨rfl, hy2⟩ := hy
              have hi5 : i < 5 := hi
              have ey : y = .str (ks i) := by
                rw [List.getElem?_map, List.getElem?_range hi5] at hy2
                exact (Option.some.inj hy2).symm
              subst ey
              have R6 := rdAt_same (s8.trans s10) hR3
              obtain ⟨xs, e1, e2⟩ := R6.pt i hi5
              refine ⟨rfl, tyes (iteT ⟨_, rfl, x, R, dx, _, _, rfl, (s8.trans s10) _ _ ob, TE.cl, TE.noP, fld_parts _, _, rfl, d, _, rfl, (by rw [← kvs_get ls hi5]; exact DGet.k (k := Sum.inr (ks i)) R6.dc), ls i, xs, rfl, .of e1, fun l nl => kT _ _ (same_new (Same.refl _) nl) ?_⟩)⟩
              have t1 : Same H7 (upd H7 l (.tup xs)) := same_new (Same.refl _) nl
              rw [List.range_succ, List.map_append]
              exact dpAll_snoc (dps_same t1 _ _ hacc) (rows_data (rowsK_ts (same_ts t1) e2) (.of upd_same))
            · intro acc H6 s10 hD2 hacc
              have hacc : DpAll K H6 acc ((List.range 5).map (partD q)) := hacc
              refine ⟨D2, acc, rfl, .of hD2, fun l nl => kk q eq _ _ ((s9.trans s10).trans (same_new (Same.refl _) nl)) ?_⟩
              rw [catD_parts]
              exact .tup (.of upd_same) (dps_same (same_new (Same.refl _) nl) _ _ hacc)
end
end Kw
set_option Elab.async false
set_option linter.all false
set_option maxRecDepth 100000
set_option maxHeartbeats 800000
/-! The walk, part 17: an order written. -/
namespace Kw
open PySem PySem.Spec PyProof.Rows L2 Km
/-- turns of a walk whose body is given what comes next -/
theorem walk_it {J : It} {n : Nat} {G : Hp → Prop} {Y : Nat → Hp → V → Hp → Prop} (w : Walk J n G Y) {Bd : V → Hp → (Hp → Prop) → Prop} {Qd : Hp → Prop} {H1 : Hp} (Pv : Nat → Hp → Prop) (h0 : Pv 0 H1) (hG : ∀ i H, i ≤ n → Pv i H → G H)
    (hs : ∀ i x H H', i < n → Pv i H → Y i H x H' → Bd x H' (Pv (i + 1))) (hd : ∀ H, Pv n H → Qd H) :
    ∃ W : Nat → Nat → Hp → Prop, (∃ m, W 0 m H1) ∧ ∀ i m H, W i m H → (J.stop i H ∧ Qd H) ∨ (J.go i H ∧ ∃ Nx : Hp → Prop, (∀ H', Nx H' → ∃ m', m' < m ∧ W (i + 1) m' H') ∧ ∀ x H', J.yld i H x H' → Bd x H' Nx) := by
  refine ⟨fun i m H => m = n - i ∧ i ≤ n ∧ Pv i H, ⟨n, rfl, Nat.zero_le _, h0⟩, ?_⟩
  rintro i m H ⟨rfl, hi, p⟩
  have q := hG i H hi p
  by_cases hlt : i < n
  · exact .inr ⟨w.goes i H hlt q, Pv (i + 1), fun H' p' => ⟨n - (i + 1), by omega, rfl, hlt, p'⟩, fun x H' y => hs i x H H' hlt p (w.yields i H x H' hlt q y)⟩
  · have e : i = n := by omega
    subst e
    exact .inl ⟨w.stops H q, hd H p⟩
theorem pg_tupK {X : Cx} (K : PySem.W.Frag) {es : List Expr} {k : Nat} {t : TGs} {n : Nat} {pos : Pos} (hc : X.calm = true) (h : PGs X es t) (eK : X.K = K := by rfl)
    (hn : (assignEach es X.env).length = n := by rfl) (hst : (assignEach es X.env).findIdx? (·.1) = none := by rfl) : PG X (.Tuple es k pos) (gTup K n t) := by
  subst eK
  exact pg_tup hc h hn hst
theorem pi_tupK {X : Cx} (K : PySem.W.Frag) {tg l : Expr} {tl : TE} (hl : PE X l tl) (eK : X.K = K := by rfl) : PI X tg l (iTup K tl) := by
  subst eK
  exact pi_tup hl
theorem wish_len {items : List W} {u : Wish} (h : OkWish items u) : (u.1.map List.length).sum + u.1.length * 1 ≤ 27 ∧ (jn [47] u.1).length ≤ 27 := by
  have h1 := sum_le (k := 8) (ws := u.1) fun p hp => name_len (h.nm p hp)
  have h2 := h.n3
  have h3 : u.1.length * 8 ≤ 3 * 8 := Nat.mul_le_mul_right 8 h2
  have h4 := jn_len [47] u.1
  have e : ([47] : W).length = 1 := rfl
  rw [e] at h4
  omega
theorem ordWs_len {regs items : List W} {o : Ord} (h : OkOrd regs items o) : (ordWs o).length = 4 + 2 * o.wishes.length ∧ ((ordWs o).map List.length).sum + (ordWs o).length * 1 ≤ 16777216 := by
  have e : ∀ us : List Wish, (us.flatMap wishWs).length = 2 * us.length := by
    intro us
    induction us with
    | nil => rfl
    | cons u us ih =>
      rw [List.flatMap_cons, List.length_append, ih, List.length_cons]
      show 2 + _ = _
      omega
  have e1 : (ordWs o).length = 4 + 2 * o.wishes.length := by
    unfold ordWs
    rw [List.length_append, e]
    rfl
  have h1 := sum_le (k := 30) (ws := ordWs o) fun p hp => by
    unfold ordWs at hp
    rw [List.mem_append] at hp
    rcases hp with hp | hp
    · simp only [List.mem_cons, List.mem_nil_iff, or_false] at hp
      rcases hp with rfl | rfl | rfl | rfl
      · have := name_len h.nm
        omega
      · have := name_len h.rnm
        omega
      · have := dig_len o.day.toNat
        omega
      · have := dig_len o.worth.toNat
        omega
    · obtain ⟨u, hu, hp⟩ := List.mem_flatMap.mp hp
      have hu := h.ws u hu
      simp only [wishWs, List.mem_cons, List.mem_nil_iff, or_false] at hp
      rcases hp with rfl | rfl
      · have := (wish_len hu).2
        omega
      · have := dig_len u.2.toNat
        omega
  have h3 := h.w3
  refine ⟨e1, ?_⟩
  rw [e1] at h1 ⊢
  omega
section
variable {P : Program} {w : World} {K : PySem.W.Frag} {mg : Str → Option Value} {base : Heap}
def spWriteO (K : PySem.W.Frag) : Sp := fun vs H Q _ => ∃ (v x : V) (q : Ps) (o : Ord), vs = [v, x] ∧ Dp K H v (catD q) ∧ Valid q ∧ Dp K H x (ordD o) ∧ OkOrd (names q 1) (names q 2) o ∧ ∀ H', Same H H' → Q (sv (ordText o)) H'
abbrev nmWO : List Str := ["catalog", "order", "wishes", "items", "count", "part"]
theorem scWO : FnScope nmWO ["catalog", "order"] (defScope sWriteOrd) := ⟨rfl, rfl, rfl, by decide +kernel, rfl, by decide +kernel, by decide +kernel⟩
theorem ok_writeO (T : Txt K mg w) : Dn P w K mg base CX0 6 "write_order" ["catalog", "order"] (spWriteO K) := by
  refine T.dWriteO.dn (fun f fd F => F.ok scWO (fun vs H Q E h => ?_) (fun cdv A outer s H vs Q E hr h => ?_)) (fun _ _ _ _ _ _ us hl => match us, hl with | [_, _], _ => rfl)
  · obtain ⟨v, x, q, o, rfl, _⟩ := h
    rfl
  · obtain ⟨v, x, q, o, rfl, hv, VQ, hx, ok, kk⟩ := h
    obtain ⟨a, a2, us, rfl, ha, h2, hd⟩ := ord_parts hx
    have ul : us.length = o.wishes.length := (dpAll_len hd).trans (List.length_map ..)
    obtain ⟨ol, ob⟩ := ordWs_len ok
    have w3 := ok.w3
    refine ⟨_, pss_cons (ps_expr (pe_dn (ok_needC T) (hr.mono (by decide)) pass0 (pa_cons (pv 0) pa_nil)))
      (pss_cons (ps_expr (pe_dn (ok_needO T) hr pass0 (pa_cons (pv 0) (pa_cons (pv 1) pa_nil))))
      (pss_cons (ps_setLc2 (i := 2) (own := [("items", 3), ("count", 4), ("part", 5)]) (vs1 := [5]) rfl scWO.nd rfl rfl (by rfl) (pi_tup (pe_ix (ix_tK K) (pv 1) pe_int (fun _ _ => rfl))) (blkOk_by (own := [("items", 3), ("count", 4), ("part", 5)]) (N := nmWO) (sc := defScope sWriteOrd) (by decide +kernel)) (by decide)
          (fun _ _ _ _ _ => pg_tupK K (n := 2) rfl (pgs_cons (pg_name (i := 3) scWO.nd rfl (Or.inl rfl)) (pgs_cons (pg_name (i := 4) scWO.nd rfl (Or.inl rfl)) pgs_nil))) (fun _ _ _ _ _ => pts_nil)
          (fun _ _ _ _ _ => pi_tupK K (pe_tup (pa_cons (pe_jn K pe_str (pv 3)) (pa_cons (pe_str1 T (pv 4)) pa_nil)))) (fun _ _ _ _ _ => pg_name (i := 5) scWO.nd rfl (Or.inl rfl)) (fun _ _ _ _ _ => pts_nil) (fun _ _ _ _ _ => pv 5))
      (pss_one (ps_ret (pe_jn K pe_str (pe_op op_cat (pe_lst (pa_cons (pe_ix (ix_tK K) (pv 1) pe_int (fun _ _ => rfl)) (pa_cons (pe_ix (ix_tK K) (pv 1) pe_int (fun _ _ => rfl)) (pa_cons (pe_str1 T (pe_ix (ix_tK K) (pv 1) pe_int (fun _ _ => rfl))) (pa_cons (pe_str1 T (pe_ix (ix_tK K) (pv 1) pe_int (fun _ _ => rfl))) pa_nil))))) (pv 2))))))), ?_⟩
    refine ⟨_, rfl, v, q, rfl, hv, VQ, fun H1 s1 => ⟨_, rfl, _, rfl, v, .ref a, q, o, rfl, dp_same s1 _ _ hv, dp_same s1 _ _ hx, ok, fun H2 s2' => ?_⟩⟩
    have s2 := s1.trans s2'
    refine ⟨_, rfl, a, _, _, _, rfl, rfl, same_sqt s2 ha, atI_nat (j := 2) rfl, a2, rfl, ⟨_, same_sqt s2 h2⟩, fun D nD => ?_⟩
    refine walk_it (walk_tup (xs := us)) (fun i H' => Same H2 H' ∧ H' D = some (.lst (((o.wishes.take i).flatMap wishWs).map sv))) ⟨same_new (Same.refl _) nD, upd_same⟩ (fun i H' _ p => same_sqt (s2.trans p.1) h2) ?_ ?_
    · rintro i y H3 H' hi ⟨s3, hD⟩ ⟨rfl, hy⟩
      obtain ⟨d, hde, hdp⟩ := dpAll_get hd hy
      rw [List.getElem?_map] at hde
      obtain ⟨u, hu, rfl⟩ := Option.map_eq_some_iff.mp hde
      obtain ⟨b, b0, rfl, hb, hb0⟩ := wish_parts (dp_same (s2.trans s3) _ _ hdp)
      have ou := ok.ws u (List.mem_of_getElem? hu)
      obtain ⟨wl1, wl2⟩ := wish_len ou
      have c1 := ou.c1
      have c99 := ou.c99
      have sd : (Str.ofString (toString u.2)) = mk (dig u.2.toNat) := str_dig (by omega) (by omega)
      refine ⟨b, _, rfl, hb, rfl, _, _, rfl, _, _, rfl, rfl, rfl, tyes (iteT ?_)⟩
      refine ⟨⟨_, rfl⟩, _, rfl, [47], b0, u.1, (by rw [sl_eq]; rfl), rfl, .inr hb0, (by show (u.1.map List.length).sum + u.1.length * 1 ≤ _; omega), _, rfl, log_small (by omega) (by omega), (by show 2 ≤ sizeLine; rw [sizeLine_eq]; decide), fun tp ntp => ⟨tp, rfl, ⟨_, .of upd_same⟩, ?_⟩⟩
      rw [sd]
      have ne : D ≠ tp := ne_of_none hD ntp
      refine walk_it (walk_tup (xs := [sv (jn [47] u.1), .str (mk (dig u.2.toNat))])) (fun j H' => Same H2 H' ∧ H' tp = some (.tup [sv (jn [47] u.1), .str (mk (dig u.2.toNat))]) ∧ H' D = some (.lst (((o.wishes.take i).flatMap wishWs ++ (wishWs u).take j).map sv)))
        ⟨same_new s3 ntp, upd_same, by rw [upd_ne ne, hD, List.take_zero, List.append_nil]⟩ (fun j H' _ p => .of p.2.1) ?_ ?_
      · rintro j z H4 H' hj ⟨s4, ht, hD4⟩ ⟨rfl, hz⟩
        have hzw : ∃ p, (wishWs u)[j]? = some p ∧ z = sv p := by
          match j, hj, hz with
          | 0, _, hz =>
            cases hz
            exact ⟨_, rfl, rfl⟩
          | 1, _, hz =>
            cases hz
            exact ⟨_, rfl, rfl⟩
        obtain ⟨p, hp, rfl⟩ := hzw
        have hil := (List.getElem?_eq_some_iff.mp hu).1
        have flen : ∀ vs : List Wish, (vs.flatMap wishWs).length = 2 * vs.length := by
          intro vs
          induction vs with
          | nil => rfl
          | cons v vs ih =>
            rw [List.flatMap_cons, List.length_append, ih, List.length_cons]
            show 2 + _ = _
            omega
        refine ⟨rfl, tyes (iteT ⟨_, rfl, _, hD4, ?_, same_set s4 nD, ?_, ?_⟩)⟩
        · rw [List.length_map, List.length_append, flen, List.length_take, List.length_take, sizeLine_eq]
          show _ + min j 2 < _
          omega
        · rw [upd_ne (ne_of ht hD4 (by intro z; cases z))]
          exact ht
        · rw [upd_same, List.take_succ, hp, ← List.append_assoc, List.map_append (f := sv) (l₂ := (some p).toList)]
          rfl
      · rintro H4 ⟨s4, _, hD4⟩
        refine ⟨s4, ?_⟩
        rw [hD4, List.take_succ, hu, List.flatMap_append]
        rfl
    · rintro H3 ⟨s3, hD⟩
      have e1 : us.length = o.wishes.length := ul
      rw [e1, List.take_length] at hD
      have s4 := s2.trans s3
      have ha4 := same_sqt s4 ha
      refine ⟨⟨_, rfl⟩, _, rfl, a, _, _, _, rfl, rfl, ha4, atI_nat (j := 0) rfl, _, rfl, a, _, _, _, rfl, rfl, ha4, atI_nat (j := 1) rfl, _, rfl, a, _, _, _, rfl, rfl, ha4, atI_nat (j := 3) rfl, log_small ok.d0 (by have := ok.d1; omega), _, rfl, a, _, _, _, rfl, rfl, ha4, atI_nat (j := 4) rfl, log_small ok.v0 (by have := ok.v1; omega), (by show 4 ≤ sizeLine; rw [sizeLine_eq]; decide), fun l1 n1 => ?_⟩
      rw [show (Str.ofString (toString o.day)) = mk (dig o.day.toNat) from str_dig ok.d0 (by have := ok.d1; omega), show (Str.ofString (toString o.worth)) = mk (dig o.worth.toNat) from str_dig ok.v0 (by have := ok.v1; omega)]
      have ne1 : D ≠ l1 := ne_of_none hD n1
      refine ⟨_, rfl, l1, D, _, _, rfl, rfl, upd_same, by rw [upd_ne ne1]; exact hD, ?_, fun p np => ?_⟩
      · have := List.length_map (f := sv) (as := o.wishes.flatMap wishWs)
        have e2 : (ordWs o).length = 4 + (o.wishes.flatMap wishWs).length := by
          unfold ordWs
          rw [List.length_append]
          rfl
        rw [this, sizeLine_eq]
        show 4 + _ ≤ _
        omega
      · refine ⟨[32], p, ordWs o, by rw [sp_eq]; rfl, rfl, .inl (.of ?_), ob, kk _ ((s4.trans (same_new (Same.refl _) n1)).trans (same_new (Same.refl _) np))⟩
        rw [upd_same]
        unfold ordWs
        rw [List.map_append]
        rfl
end
end Kw
set_option Elab.async false
set_option linter.all false
set_option maxRecDepth 100000
set_option maxHeartbeats 800000
/-! The walk, part 18: wishes read. -/
namespace Kw
open PySem PySem.Spec PyProof.Rows L2 Km
def goodW (items : List W) (u : W) (found : List Wish) : Prop := fitsW items (splA 47 [] u) = true ∧ found.length ≠ 3 ∧ (splA 47 [] u).Nodup
theorem wishesM_bad {items : List W} {u : W} {rest : List W} {found : List Wish} {p : Nat} (h : ¬ goodW items u found) : wishesM items (u :: rest) found p = .error (p + 1) := by
  cases rest with
  | nil => exact if_neg h
  | cons c ws => exact if_neg h
theorem wishesM_one {items : List W} {u : W} {found : List Wish} {p : Nat} (h : goodW items u found) : wishesM items [u] found p = .error (p + 2) := if_pos h
theorem wishesM_two {items : List W} {u c : W} {ws : List W} {found : List Wish} {p : Nat} (h : goodW items u found) : wishesM items (u :: c :: ws) found p = if numIn c 99 < 1 then .error (p + 2) else wishesM items ws (found ++ [(splA 47 [] u, numIn c 99)]) (p + 2) := if_pos h
/-- the word at a place is not among those ahead -/
def freshAt (l : List W) (i : Nat) : Bool := match l[i]? with
  | some x => !decide (x ∈ l.take i)
  | none => true
theorem freshAt_of {l : List W} {i : Nat} {x : W} (h : l[i]? = some x) : freshAt l i = !decide (x ∈ l.take i) := by
  unfold freshAt
  rw [h]
theorem nd_all (l : List W) : (List.range l.length).all (freshAt l) = decide l.Nodup := by
  rw [Bool.eq_iff_iff, List.all_eq_true, decide_eq_true_eq]
  constructor
  · intro h
    refine List.pairwise_iff_getElem.mpr fun i j hi hj hij e => ?_
    have h1 := h j (List.mem_range.mpr hj)
    rw [freshAt_of (List.getElem?_eq_getElem hj), Bool.not_eq_true', decide_eq_false_iff_not] at h1
    refine h1 (List.mem_of_getElem? (i := i) ?_)
    rw [List.getElem?_take, if_pos hij, List.getElem?_eq_getElem hi, e]
  · intro h j hj
    rw [List.mem_range] at hj
    rw [freshAt_of (List.getElem?_eq_getElem hj), Bool.not_eq_true', decide_eq_false_iff_not]
    intro hm
    obtain ⟨i, hi⟩ := List.mem_iff_getElem?.mp hm
    rw [List.getElem?_take] at hi
    by_cases hij : i < j
    · rw [if_pos hij] at hi
      have := nd_ix h hi (List.getElem?_eq_getElem hj)
      omega
    · rw [if_neg hij] at hi
      cases hi
theorem splA_pos (c : Nat) : ∀ (u acc : W), 1 ≤ (splA c acc u).length
  | [], acc => Nat.le_refl _
  | x :: r, acc => by
    have e : splA c acc (x :: r) = if x = c then acc :: splA c [] r else splA c (acc ++ [x]) r := rfl
    rw [e]
    by_cases h : x = c
    · rw [if_pos h, List.length_cons]
      omega
    · rw [if_neg h]
      exact splA_pos c r _
/-- what was found so far is small -/
def SmallW (us : List Wish) : Prop := ∀ u ∈ us, ∀ x ∈ u.1, okW x
theorem wishes_sm {us : List Wish} (h : SmallW us) : ∀ d ∈ us.map wishD, d.canLay0 = true ∧ d.depth ≤ 60 := fun d hd => by
  obtain ⟨u, hu, rfl⟩ := List.mem_map.mp hd
  have h1 := tup_small (ds := u.1.map dS) (k := 8) fun e he => by
    obtain ⟨x, hx, rfl⟩ := List.mem_map.mp he
    exact sm_str (h u hu x hx)
  have h2 := tup_small (ds := [strsD u.1, .int u.2]) (k := 9) fun e he => by
    simp only [List.mem_cons, List.mem_nil_iff, or_false] at he
    rcases he with rfl | rfl
    · exact h1
    · exact ⟨rfl, by show 0 ≤ 9; omega⟩
  exact ⟨h2.1, Nat.le_trans h2.2 (by omega)⟩
section
variable {P : Program} {w : World} {K : PySem.W.Frag} {mg : Str → Option Value} {base : Heap} {C R : Addr}
def spWishesIn (K : PySem.W.Frag) (C : Addr) : Sp := fun vs H Q E => ∃ (v : V) (q : Ps) (wa : Addr) (ws : List W), vs = [v, .ref wa] ∧ Dp K H v (catD q) ∧ Sound q ∧ H wa = some (.lst (ws.map sv)) ∧ (∀ u ∈ ws, u.length ≤ 1000000 ∧ okW u) ∧
  (∀ us, wishesM (names q 2) (ws.drop 4) [] 4 = .ok us → ∀ z H', Same H H' → Dp K H' z (wishesD us) → Q z H') ∧ (∀ c, wishesM (names q 2) (ws.drop 4) [] 4 = .error c → RaiseP C H E 1 c)
abbrev nmWI : List Str := ["catalog", "words", "found", "place", "items", "fits", "count", "item", "at"]
theorem scWI : FnScope nmWI ["catalog", "words"] (defScope sWishes) := ⟨rfl, rfl, rfl, by decide +kernel, rfl, by decide +kernel, by decide +kernel⟩
theorem ok_wishesIn (T : Txt K mg w) (TE : TxtE K mg C R) : Dn P w K mg base (L2.CX P w) 3 "wishes_in" ["catalog", "words"] (spWishesIn K C) := by
  obtain ⟨aM, mM, k9, k99, k60, kC, kW⟩ := T.MOST
  obtain ⟨tW, mW⟩ := T.WISHES
  refine T.dWishes.dn (fun f fd F => F.okX scWI (fun vs H Q E h => ?_) (fun cdv A outer s H vs Q E hr h => ?_)) (fun _ _ _ _ _ _ us hl => match us, hl with | [_, _], _ => rfl)
  · obtain ⟨v, q, wa, ws, rfl, _⟩ := h
    rfl
  · obtain ⟨v, q, wa, ws, rfl, hv, S, hwa, hws, kk, kr⟩ := h
    have hr1 := hr.mono (show 1 ≤ 2 by decide)
    have hu4 := hu64 hr
    refine ⟨_, pss_cons (ps_par (i := 2) (j := 3) rfl scWI.nd rfl rfl (by decide) rfl rfl (pa_cons (pe_lst pa_nil) (pa_cons pe_int pa_nil)) rfl)
      (pss_cons (ps_while (passes_of rfl) (PW.pt (pw_or (pt_cmpR op_lt (pv 3) (pe_len T (pv 1)) (nomark _)) (pw_or1 (pt_cmpR (op_eqDK K hu4) (pv 2) (pe_lst pa_nil) rfl))))
        (pss_cons (ps_set (i := 4) scWI.nd rfl (Or.inr rfl) (pe_ifExp (pt_cmpR op_lt (pv 3) (pe_len T (pv 1)) (nomark _)) (pe_sp (pe_ix (ix_lK K) (pv 1) (pv 3) (fun _ _ => rfl)) pe_str) (pe_lst pa_nil)))
        (pss_cons (ps_set (i := 5) scWI.nd rfl (Or.inl rfl) (pe_and (pe_chain op_le op_le pe_int (pe_len T (pv 4)) (pe_gI mW)) (pe_one (pe_all T rfl (pe_lc (own := [("item", 7)]) (g := gName 7) rfl scWI.nd (pi_list (pv 4)) (blkOk_by (own := [("item", 7)]) (N := nmWI) (sc := defScope sWishes) (by decide +kernel))
            (fun _ _ _ _ _ => pg_name (i := 7) scWI.nd rfl (Or.inl rfl)) (fun _ _ _ _ _ => pts_nil) (fun _ _ _ _ _ => pe_cmpR (op_inSK K) (pv 7) (pe_ix (ix_tK K) (pv 0) pe_int (fun _ _ => rfl)) rfl))))))
        (pss_cons (ps_if (PW.pt (pw_or (pt_not (pt_val (pv 5))) (pw_or (pt_cmpR op_eq (pe_len T (pv 2)) (pe_gI mW) (nomark _)) (pw_or1 (pt_not (pt_val (pe_all T rfl (pe_lc (own := [("at", 8)]) (g := gName 8) rfl scWI.nd (pi_range1 (by rfl) T.range (pa_cons (pe_len T (pv 4)) pa_nil)) (blkOk_by (own := [("at", 8)]) (N := nmWI) (sc := defScope sWishes) (by decide +kernel))
            (fun _ _ _ _ _ => pg_name (i := 8) scWI.nd rfl (Or.inl rfl)) (fun _ _ _ _ _ => pts_nil) (fun _ _ _ _ _ => pe_cmpR (op_ninSK K) (pe_ix (ix_lK K) (pv 4) (pv 8) (fun _ _ => rfl)) (pe_slice (sl_lK K) (pv 4) po_none (po_some (pv 8))) rfl)))))))))
          (pss_one (ps_line rfl TE rfl rfl hr (takes_of rfl rfl rfl rfl) pe_int (pe_op op_add (pv 3) pe_int))) pss_nil)
        (pss_cons (ps_set (i := 6) scWI.nd rfl (Or.inl rfl) (pe_ifExp (pt_cmpR op_lt (pe_op op_add (pv 3) pe_int) (pe_len T (pv 1)) (nomark _)) (pe_dn (ok_num T) hr1 pass0 (pa_cons (pe_ix (ix_lK K) (pv 1) (pe_op op_add (pv 3) pe_int) (fun _ _ => rfl)) (pa_cons (pe_ix ix_kdict (pe_gR mM) pe_str (fun _ _ => rfl)) pa_nil))) pe_int))
        (pss_cons (ps_if (pt_cmpR op_lt (pv 6) pe_int (nomark _)) (pss_one (ps_line rfl TE rfl rfl hr (takes_of rfl rfl rfl rfl) pe_int (pe_op op_add (pv 3) pe_int))) pss_nil)
        (pss_cons (ps_expr (pe_bm PySem.F.plainAttrs_list PySem.F.slot_list_append PySem.F.type_list_append mt_append (pv 2) (pa_cons (pe_tup (pa_cons (pe_tuple1 T (pv 4)) (pa_cons (pv 6) pa_nil))) pa_nil)))
        (pss_one (ps_aug (i := 3) scWI.nd rfl (Or.inl rfl) pe_int ip_add)))))))))
      (pss_one (ps_ret (pe_tuple1 T (pv 2))))), ?_⟩
    obtain ⟨c, c0, c1, c2, c3, c4, ls, ss, rfl, hc, p0, p1, p2, p3, d3, p4, d4⟩ := cat_parts hv
    refine ⟨(by show 0 ≤ sizeLine; omega), fun ff nf => ⟨_, _, rfl, ?_⟩⟩
    refine ⟨fun m σ H' => ∃ (p : Nat) (found : List Wish) (xs : List V) (x4 x5 x6 : Option V), σ = [some (.ref c), some (.ref wa), some (.ref ff), some (.int (p : Nat)), x4, x5, x6, none, none] ∧ m = ws.length - p ∧ Same H H' ∧ H' ff = some (.lst xs) ∧ DpAll K H' xs (found.map wishD) ∧ SmallW found ∧ found.length ≤ 3 ∧
        wishesM (names q 2) (ws.drop 4) [] 4 = wishesM (names q 2) (ws.drop p) found p,
      ⟨_, 4, [], [], none, none, none, rfl, rfl, same_new (Same.refl H) nf, upd_same, .nil, fun u hu => by simp at hu, Nat.zero_le _, rfl⟩, ?_⟩
    rintro m σ H2 ⟨p, found, xs, x4, x5, x6, rfl, rfl, s2, hff, hd, hsm, hf3, hgo⟩
    have hxl : xs.length = found.length := (dpAll_len hd).trans (List.length_map ..)
    have hlw : ∀ H', Same H H' → LenV K (.ref wa) H' ws.length := fun H' s' => .inl ⟨_, .of (s' _ _ hwa), (List.length_map ..).symm⟩
    refine ⟨_, rfl, _, rfl, ws.length, hlw H2 s2, _, _, rfl, rfl, _, rfl, ?_⟩
    by_cases hp : p < ws.length
    · rw [decide_eq_true (show (p : Int) < (ws.length : Int) by omega)]
      have hu0 : ws[p]? = some ws[p] := List.getElem?_eq_getElem hp
      have hdr : ws.drop p = ws[p] :: ws.drop (p + 1) := List.drop_eq_getElem_cons hp
      generalize ws[p] = u at hu0 hdr
      rw [hdr] at hgo
      obtain ⟨hul, huo⟩ := hws u (List.mem_of_getElem? hu0)
      have hix : ((ws.map sv)[p]?) = some (sv u) := by
        rw [List.getElem?_map, hu0]
        rfl
      obtain ⟨icl, iok⟩ := spl_ok 47 huo hul
      have ipos := splA_pos 47 u []
      refine iteT (iteT ⟨fun σ' H' => ∃ (p' : Nat) (found' : List Wish) (xs' : List V) (x4 x5 x6 : Option V), p < p' ∧ σ' = [some (.ref c), some (.ref wa), some (.ref ff), some (.int (p' : Nat)), x4, x5, x6, none, none] ∧ Same H H' ∧ H' ff = some (.lst xs') ∧ DpAll K H' xs' (found'.map wishD) ∧ SmallW found' ∧ found'.length ≤ 3 ∧
          wishesM (names q 2) (ws.drop 4) [] 4 = wishesM (names q 2) (ws.drop p') found' p', ?_, ?_⟩)
      · rintro σ' H' ⟨p', found', xs', y4, y5, y6, hpp, e, r⟩
        exact ⟨ws.length - p', by omega, p', found', xs', y4, y5, y6, e, rfl, r⟩
      refine ⟨_, rfl, _, rfl, ws.length, hlw H2 s2, _, _, rfl, rfl, _, rfl, ?_⟩
      rw [decide_eq_true (show (p : Int) < (ws.length : Int) by omega)]
      refine iteT ⟨_, rfl, _, rfl, wa, _, _, _, rfl, rfl, .of (s2 _ _ hwa), at_of rfl hix, ⟨_, rfl⟩, u, 47, rfl, (by rw [sl_eq]; rfl), by omega, hul, fun la nla => ?_⟩
      have s3 : Same H (upd H2 la (.lst ((splA 47 [] u).map sv))) := same_new s2 nla
      have t3 : Same H2 (upd H2 la (.lst ((splA 47 [] u).map sv))) := same_new (Same.refl _) nla
      have hla : (upd H2 la (.lst ((splA 47 [] u).map sv))) la = some (.lst ((splA 47 [] u).map sv)) := upd_same
      generalize upd H2 la (.lst ((splA 47 [] u).map sv)) = H3 at s3 t3 hla
      have hli : ∀ H', Same H3 H' → LenV K (.ref la) H' (splA 47 [] u).length := fun H' s' => .inl ⟨_, .of (s' _ _ hla), (List.length_map ..).symm⟩
      have bad : ∀ H', Same H3 H' → ¬ goodW (names q 2) u found → 2 ≤ 1000 ∧ ∀ a : Addr, H' a = none → spLineI C [.ref a, .int 1, .int ((p : Int) + 1)] (upd H' a (exo a C none)) (fun v H2 => v = .non ∧ ∃ (d : Addr) (fs : List (Str × V)), H2 a = some (exo a C (some d)) ∧ H2 d = some (exd d fs) ∧ H' d = none ∧ E (.ref C) (some d) (upd (del H2 a) d (.xd fs))) (fun _ _ _ => False) := fun H' s' hb => by
        rw [wishesM_bad hb] at hgo
        have r := kr (p + 1) hgo
        rw [show (((p + 1 : Nat)) : Int) = (p : Int) + 1 by omega] at r
        exact ⟨by decide, fun a na => mkLine na (raiseP_same (s3.trans s') r)⟩
      refine ⟨_, rfl, (splA 47 [] u).length, hli H3 (Same.refl _), _, _, rfl, rfl, _, rfl, ?_⟩
      rw [decide_eq_true (show (1 : Int) ≤ ((splA 47 [] u).length : Int) by omega)]
      refine iteT ⟨_, _, rfl, rfl, _, rfl, ?_⟩
      by_cases h3 : (splA 47 [] u).length ≤ 3
      · rw [decide_eq_true (show ((splA 47 [] u).length : Int) ≤ 3 by omega)]
        refine iteT ⟨_, rfl, la, rfl, ⟨_, .of hla⟩, fun D nD => ?_⟩
        refine lc_gen (walk_list (xs := (splA 47 [] u).map sv)) (fun i acc _ => acc = (((splA 47 [] u).take i).map fun x => decide (x ∈ names q 2)).map V.bl) nD (by rw [List.length_map, sizeLine_eq]; omega) (fun H' s' => .of (s' _ _ hla)) (fun i acc _ _ e _ => e) rfl ?_ ?_
        · intro i y acc H4 H5 QT QF hi s4 hacc hy kT kF
          obtain ⟨rfl, hy2⟩ := hy
          rw [List.getElem?_map] at hy2
          obtain ⟨x, hx, rfl⟩ := Option.map_eq_some_iff.mp hy2
          have s5 := s3.trans s4
          refine ⟨rfl, tyes (iteT ⟨_, rfl, _, rfl, c, _, _, _, rfl, rfl, same_sqt s5 hc, atI_nat (j := 2) rfl, c2, _, rfl, .inr (same_sqt s5 p2), rfl, flat_strs _, kT _ _ (Same.refl _) ?_⟩)⟩
          rw [hacc, if_neg Bool.false_ne_true, inV_strs, List.take_succ, hx, List.map_append, List.map_append]
          rfl
        · intro acc H4 s4 hD hacc
          rw [List.length_map, List.take_length] at hacc
          refine ⟨D, _, rfl, .of (by rw [hD, hacc]), ?_⟩
          have hall : (((splA 47 [] u).map fun x => decide (x ∈ names q 2)).all id) = (splA 47 [] u).all fun i => decide (i ∈ names q 2) := by
            rw [List.all_map]
            rfl
          rw [hall]
          have s5 := s3.trans s4
          have hd4 : DpAll K H4 xs (found.map wishD) := dps_same (t3.trans s4) _ _ hd
          have hff4 := (t3.trans s4) _ _ hff
          refine ⟨_, rfl, _, rfl, ?_⟩
          cases hA : (splA 47 [] u).all fun i => decide (i ∈ names q 2) with
          | false => exact iteT (iteT ⟨_, rfl, _, _, rfl, rfl, bad H4 s4 fun g => by
              have := g.1
              unfold fitsW at this
              rw [hA, Bool.and_false] at this
              cases this⟩)
          | true =>
            have hfit : fitsW (names q 2) (splA 47 [] u) = true := by
              unfold fitsW
              rw [hA, decide_eq_true ⟨ipos, h3⟩]
              rfl
            refine iteF ⟨_, rfl, found.length, .inl ⟨_, .of hff4, hxl.symm⟩, rfl, _, rfl, ?_⟩
            by_cases h33 : found.length = 3
            · rw [decide_eq_true (show V.int (found.length : Int) = V.int 3 by rw [h33]; rfl)]
              exact iteT (iteT ⟨_, rfl, _, _, rfl, rfl, bad H4 s4 fun g => g.2.1 h33⟩)
            · rw [decide_eq_false (show ¬ V.int (found.length : Int) = V.int 3 from fun z => h33 (by injection z with z; omega))]
              refine iteF ⟨_, rfl, (splA 47 [] u).length, hli H4 s4, _, rfl, by omega, by omega, fun D2 nD2 => ?_⟩
              refine lc_gen walk_range (fun i acc _ => acc = ((List.range i).map (freshAt (splA 47 [] u))).map V.bl) nD2 (by rw [Int.toNat_natCast, sizeLine_eq]; omega) (fun _ _ => trivial) (fun i acc _ _ e _ => e) rfl ?_ ?_
              · intro i y acc H5 H6 QT QF hi s6 hacc2 hy kT kF
                obtain ⟨rfl, rfl⟩ := hy
                rw [Int.toNat_natCast] at hi
                have hv5 : (splA 47 [] u)[i]? = some (splA 47 [] u)[i] := List.getElem?_eq_getElem hi
                generalize (splA 47 [] u)[i] = x at hv5
                have hv6 : ((splA 47 [] u).map sv)[i]? = some (sv x) := by
                  rw [List.getElem?_map, hv5]
                  rfl
                have hla6 := (s4.trans s6) _ _ hla
                refine ⟨rfl, tyes (iteT ⟨_, rfl, _, rfl, la, _, _, _, rfl, rfl, .of hla6, at_of (zero_add_int i) hv6, _, rfl, _, rfl, _, rfl, la, _, rfl, .of hla6, fun b nb => ⟨b, _, rfl, .inl (.of upd_same), rfl, ?_, ?_⟩⟩)⟩
                · rw [cut_to (zero_add_int i), ← List.map_take]
                  exact flat_strs _
                · rw [if_pos rfl, cut_to (zero_add_int i), ← List.map_take, inV_strs]
                  refine kT _ _ (same_new (Same.refl _) nb) ?_
                  have e7 := freshAt_of hv5
                  rw [hacc2, List.range_succ, List.map_append, List.map_append, ← e7]
                  rfl
              · intro acc2 H5 s6 hD2 hacc2
                rw [Int.toNat_natCast] at hacc2
                refine ⟨D2, _, rfl, .of (by rw [hD2, hacc2]), ?_⟩
                have hnd : (((List.range (splA 47 [] u).length).map (freshAt (splA 47 [] u))).all id) = decide (splA 47 [] u).Nodup := by
                  rw [← nd_all, List.all_map]
                  rfl
                rw [hnd]
                refine ⟨_, rfl, ?_⟩
                by_cases hN : (splA 47 [] u).Nodup
                · rw [decide_eq_true hN]
                  have good : goodW (names q 2) u found := ⟨hfit, h33, hN⟩
                  have s7 := s5.trans s6
                  have bad2 : ∀ H', Same H5 H' → wishesM (names q 2) (u :: ws.drop (p + 1)) found p = .error (p + 2) → 2 ≤ 1000 ∧ ∀ a : Addr, H' a = none → spLineI C [.ref a, .int 1, .int ((p : Int) + 2)] (upd H' a (exo a C none)) (fun v H2 => v = .non ∧ ∃ (d : Addr) (fs : List (Str × V)), H2 a = some (exo a C (some d)) ∧ H2 d = some (exd d fs) ∧ H' d = none ∧ E (.ref C) (some d) (upd (del H2 a) d (.xd fs))) (fun _ _ _ => False) := fun H' s' hb => by
                    rw [hb] at hgo
                    have r := kr (p + 2) hgo
                    rw [show (((p + 2 : Nat)) : Int) = (p : Int) + 2 by omega] at r
                    exact ⟨by decide, fun a na => mkLine na (raiseP_same (s7.trans s') r)⟩
                  refine iteF ⟨_, rfl, _, _, rfl, rfl, _, rfl, ws.length, hlw H5 s7, _, _, rfl, rfl, _, rfl, ?_⟩
                  by_cases hp1 : p + 1 < ws.length
                  · rw [decide_eq_true (show (p : Int) + 1 < (ws.length : Int) by omega)]
                    have hc0 : ws[p + 1]? = some ws[p + 1] := List.getElem?_eq_getElem hp1
                    have hdr2 : ws.drop (p + 1) = ws[p + 1] :: ws.drop (p + 1 + 1) := List.drop_eq_getElem_cons hp1
                    generalize ws[p + 1] = cw at hc0 hdr2
                    have hcx : ((ws.map sv)[p + 1]?) = some (sv cw) := by
                      rw [List.getElem?_map, hc0]
                      rfl
                    have hcl := (hws cw (List.mem_of_getElem? hc0)).1
                    refine iteT ⟨_, rfl, _, rfl, _, _, rfl, rfl, wa, _, _, _, rfl, rfl, .of (s7 _ _ hwa), at_of (show (p : Int) + 1 = ((p + 1 : Nat) : Int) by omega) hcx, aM, "count", _, rfl, rfl, kC, cw, 99, rfl, hcl, fun H6 s8 => ?_⟩
                    refine ⟨_, rfl, _, _, rfl, rfl, _, rfl, ?_⟩
                    rw [hdr2, wishesM_two good] at hgo bad2
                    by_cases hn : numIn cw 99 < 1
                    · rw [decide_eq_true hn]
                      exact iteT ⟨_, rfl, _, _, rfl, rfl, bad2 H6 s8 (if_pos hn)⟩
                    · rw [decide_eq_false hn]
                      rw [if_neg hn] at hgo
                      have s9 := s6.trans s8
                      have hff6 := s9 _ _ hff4
                      have hla6 := (s4.trans s9) _ _ hla
                      refine iteF ⟨_, rfl, .inl ⟨rfl, _, .of hff6⟩, _, rfl, la, _, rfl, .of hla6, fun tq ntq => ⟨_, rfl, (by show 2 ≤ sizeLine; rw [sizeLine_eq]; decide), fun tp ntp => ⟨ff, xs, .ref tp, rfl, rfl, ?_, by rw [hxl, sizeLine_eq]; omega, ?_⟩⟩⟩
                      · rw [upd_ne (ne_of_none (by rw [upd_ne (ne_of_none hff6 ntq)]; exact hff6) ntp), upd_ne (ne_of_none hff6 ntq)]
                        exact hff6
                      · have u1 : Same H6 (upd H6 tq (.tup ((splA 47 [] u).map sv))) := same_new (Same.refl _) ntq
                        have u2 := u1.trans (same_new (Same.refl _) ntp : Same _ (upd (upd H6 tq (.tup ((splA 47 [] u).map sv))) tp (.tup [.ref tq, .int (numIn cw 99)])))
                        have w1 : (upd (upd H6 tq (.tup ((splA 47 [] u).map sv))) tp (.tup [.ref tq, .int (numIn cw 99)])) tq = some (.tup ((splA 47 [] u).map sv)) := by
                          rw [upd_ne (ne_of_none upd_same ntp), upd_same]
                        have w2 : (upd (upd H6 tq (.tup ((splA 47 [] u).map sv))) tp (.tup [.ref tq, .int (numIn cw 99)])) tp = some (.tup [.ref tq, .int (numIn cw 99)]) := upd_same
                        have w3 := u2 _ _ hff6
                        generalize upd (upd H6 tq (.tup ((splA 47 [] u).map sv))) tp (.tup [.ref tq, .int (numIn cw 99)]) = H7 at u2 w1 w2 w3
                        have s10 := (s7.trans s8).trans u2
                        have tl : L2.Same H H7 := s10
                        have t7 : TS H7 (upd H7 ff (.lst (xs ++ [.ref tp]))) := ts_lst w3
                        refine ⟨_, rfl, _, _, rfl, rfl, p + 2, found ++ [(splA 47 [] u, numIn cw 99)], xs ++ [.ref tp], _, _, _, by omega, rfl, same_set s10 nf, upd_same, ?_, ?_, ?_, hgo⟩
                        · rw [List.map_append]
                          refine dps_ts t7 _ _ ?_ (dpAll_snoc (dps_same (s9.trans u2) _ _ hd4) (.tup (.of w2) (.cons (.tup (.of w1) (strs_dpAll _)) (.cons (.int _) .nil))))
                          have := tupOnly_wishes (found ++ [(splA 47 [] u, numIn cw 99)])
                          rw [List.map_append] at this
                          exact this
                        · intro v hv2
                          rcases List.mem_append.mp hv2 with hv2 | hv2
                          · exact hsm v hv2
                          · rw [List.mem_singleton] at hv2
                            subst hv2
                            exact fun x hx => (iok x hx).2
                        · rw [List.length_append]
                          show found.length + 1 ≤ 3
                          omega
                  · rw [decide_eq_false (show ¬ (p : Int) + 1 < (ws.length : Int) by omega)]
                    rw [List.drop_of_length_le (by omega), wishesM_one good] at bad2
                    refine iteF ⟨_, rfl, _, _, rfl, rfl, _, rfl, iteT ⟨_, rfl, _, _, rfl, rfl, bad2 H5 (Same.refl _) rfl⟩⟩
                · rw [decide_eq_false hN]
                  exact iteT ⟨_, rfl, _, _, rfl, rfl, bad H5 (s4.trans s6) fun g => hN g.2.2⟩
      · rw [decide_eq_false (show ¬ ((splA 47 [] u).length : Int) ≤ 3 by omega)]
        refine iteF ⟨_, rfl, _, rfl, iteT (iteT ⟨_, rfl, _, _, rfl, rfl, bad H3 (Same.refl _) fun g => ?_⟩)⟩
        have := g.1
        unfold fitsW at this
        rw [decide_eq_false (fun z => h3 z.2), Bool.false_and] at this
        cases this
    · rw [decide_eq_false (show ¬ (p : Int) < (ws.length : Int) by omega)]
      have hz : ws.drop p = [] := List.drop_of_length_le (by omega)
      rw [hz] at hgo
      refine iteF ⟨_, rfl, (by show 0 ≤ sizeLine; omega), fun e0 ne0 => ⟨.list (found.map wishD), .list [], .lst (.of (by rw [upd_ne (ne_of_none hff ne0)]; exact hff)) (dps_same (same_new (Same.refl _) ne0) _ _ hd), .lst (.of upd_same) .nil, sh_list (wishes_sm hsm) (by omega), by decide +kernel, _, rfl, ?_⟩⟩
      have s3 : Same H2 (upd H2 e0 (.lst [])) := same_new (Same.refl _) ne0
      generalize upd H2 e0 (.lst []) = H3 at s3
      rw [eqvs_nil]
      by_cases hf0 : found = []
      · subst hf0
        have e1 : wishesM (names q 2) [] [] p = .error (p + 1) := if_pos rfl
        rw [e1] at hgo
        have r := kr (p + 1) hgo
        rw [show (((p + 1 : Nat)) : Int) = (p : Int) + 1 by omega] at r
        refine iteT ⟨fun _ _ => False, fun _ _ z => z.elim, ?_⟩
        refine ⟨_, rfl, _, rfl, ws.length, hlw H3 (s2.trans s3), _, _, rfl, rfl, _, rfl, ?_⟩
        rw [decide_eq_false (show ¬ (p : Int) < (ws.length : Int) by omega)]
        refine iteF ⟨(by show 0 ≤ sizeLine; omega), fun la nla => ?_⟩
        refine ⟨_, rfl, 0, .inl ⟨[], .of upd_same, rfl⟩, _, _, rfl, rfl, _, rfl, iteF ⟨_, rfl, iteF ⟨_, rfl, _, rfl, iteT (iteT ⟨_, rfl, _, _, rfl, rfl, (by show 2 ≤ 1000; decide), fun b nb => mkLine nb (raiseP_same ((s2.trans s3).trans (same_new (Same.refl _) nla)) r)⟩)⟩⟩⟩
      · rw [decide_eq_false (show ¬ found.map wishD = [] from fun z => hf0 (List.map_eq_nil_iff.mp z))]
        have e1 : wishesM (names q 2) [] found p = .ok found := if_neg hf0
        rw [e1] at hgo
        refine iteF ⟨_, rfl, ff, xs, rfl, .of (s3 _ _ hff), fun l nl => kk found hgo _ _ ((s2.trans s3).trans (same_new (Same.refl _) nl)) ?_⟩
        exact .tup (.of upd_same) (dps_same (s3.trans (same_new (Same.refl _) nl)) _ _ hd)
end
end Kw
set_option Elab.async false
set_option linter.all false
set_option maxRecDepth 100000
set_option maxHeartbeats 800000
/-! The walk, part 19: an order read. -/
namespace Kw
open PySem PySem.Spec PyProof.Rows L2 Km
section
variable {regs items : List W} {n g b o : W} {r : List W}
theorem ro_name (h : ¬ isName n = true) : readOrdW regs items (n :: r) = .error 1 := by
  match r with
  | [] => exact if_neg h
  | [_] => exact if_neg h
  | [_, _] => exact if_neg h
  | _ :: _ :: _ :: _ => exact if_neg h
theorem ro_reg (h : isName n = true) (h2 : g ∉ regs) : readOrdW regs items (n :: g :: r) = .error 2 := by
  match r with
  | [] => exact (if_pos h).trans (if_neg h2)
  | [_] => exact (if_pos h).trans (if_neg h2)
  | _ :: _ :: _ => exact (if_pos h).trans (if_neg h2)
theorem ro_day (h : isName n = true) (h2 : g ∈ regs) (h3 : numIn b 60 < 0) : readOrdW regs items (n :: g :: b :: r) = .error 3 := by
  match r with
  | [] => exact (if_pos h).trans ((if_pos h2).trans (if_pos h3))
  | _ :: _ => exact (if_pos h).trans ((if_pos h2).trans (if_pos h3))
theorem ro_worth (h : isName n = true) (h2 : g ∈ regs) (h3 : ¬ numIn b 60 < 0) (h4 : numIn o 999 < 0) : readOrdW regs items (n :: g :: b :: o :: r) = .error 4 := (if_pos h).trans ((if_pos h2).trans ((if_neg h3).trans (if_pos h4)))
theorem ro_go (h : isName n = true) (h2 : g ∈ regs) (h3 : ¬ numIn b 60 < 0) (h4 : ¬ numIn o 999 < 0) : readOrdW regs items (n :: g :: b :: o :: r) = match wishesM items r [] 4 with
    | .error e => .error e
    | .ok us => .ok ⟨n, g, us, numIn b 60, numIn o 999⟩ := (if_pos h).trans ((if_pos h2).trans ((if_neg h3).trans (if_neg h4)))
end
theorem numIn_neg {u : W} {m : Int} (h : numIn u m < 0) : numIn u m = -1 := by
  unfold numIn at h ⊢
  split
  · rename_i h1
    rw [if_pos h1] at h
    split
    · rename_i h2
      rw [if_pos h2] at h
      omega
    · rfl
  · rfl
/-- what stands when so many of the order's words are read -/
def Gd (regs ws : List W) : Nat → List V → Prop
  | 0, F => F = []
  | 1, F => ∃ n r, ws = n :: r ∧ isName n = true ∧ F = [sv n]
  | 2, F => ∃ n g r, ws = n :: g :: r ∧ isName n = true ∧ g ∈ regs ∧ F = [sv n, sv g]
  | 3, F => ∃ n g b r, ws = n :: g :: b :: r ∧ isName n = true ∧ g ∈ regs ∧ ¬ numIn b 60 < 0 ∧ F = [sv n, sv g, .int (numIn b 60)]
  | _, F => ∃ n g b o r, ws = n :: g :: b :: o :: r ∧ isName n = true ∧ g ∈ regs ∧ ¬ numIn b 60 < 0 ∧ ¬ numIn o 999 < 0 ∧ F = [sv n, sv g, .int (numIn b 60), .int (numIn o 999)]
section
variable {P : Program} {w : World} {K : PySem.W.Frag} {mg : Str → Option Value} {base : Heap} {C R : Addr}
def spReadO (K : PySem.W.Frag) (C : Addr) : Sp := fun vs H Q E => ∃ (v : V) (q : Ps) (t : W), vs = [v, sv t] ∧ Dp K H v (catD q) ∧ Valid q ∧ okW t ∧ t.length ≤ 1000000 ∧
  (∀ o, readOrd (names q 1) (names q 2) t = .ok o → ∀ z H', Same H H' → Dp K H' z (ordD o) → Q z H') ∧ (∀ c, readOrd (names q 1) (names q 2) t = .error c → RaiseP C H E 1 c)
abbrev nmRO : List Str := ["catalog", "text", "words", "found", "place", "most", "word", "wishes"]
theorem scRO : FnScope nmRO ["catalog", "text"] (defScope sReadOrd) := ⟨rfl, rfl, rfl, by decide +kernel, rfl, by decide +kernel, by decide +kernel⟩
theorem ok_readO (T : Txt K mg w) (TE : TxtE K mg C R) : Dn P w K mg base (L2.CX P w) 5 "read_order" ["catalog", "text"] (spReadO K C) := by
  obtain ⟨aM, mM, k9, k99, k60, kC, kW⟩ := T.MOST
  obtain ⟨tD, mD⟩ := T.DAY
  refine T.dReadO.dn (fun f fd F => F.okX scRO (fun vs H Q E h => ?_) (fun cdv A outer s H vs Q E hr h => ?_)) (fun _ _ _ _ _ _ us hl => match us, hl with | [_, _], _ => rfl)
  · obtain ⟨v, q, t, rfl, _⟩ := h
    rfl
  · obtain ⟨v, q, t, rfl, hv, VQ, ht, htl, kk, kr⟩ := h
    have hr1 := hr.mono (show 1 ≤ 4 by decide)
    have hr2 := hr.mono (show 2 ≤ 4 by decide)
    have hr3 := hr.mono (show 3 ≤ 4 by decide)
    refine ⟨_, pss_cons (ps_expr (pe_dn (ok_needC T) hr pass0 (pa_cons (pv 0) pa_nil)))
      (pss_cons (ps_if (pt_not (pt_val (pe_isi T (pv 1) T.str boot_str))) (pss_one ps_never) pss_nil)
      (pss_cons (ps_par (i := 2) (j := 3) rfl scRO.nd rfl rfl (by decide) rfl rfl (pa_cons (pe_lc (own := [("word", 6)]) (g := gName 6) rfl scRO.nd (pi_list (pe_sp (pv 1) pe_str)) (blkOk_by (own := [("word", 6)]) (N := nmRO) (sc := defScope sReadOrd) (by decide +kernel))
            (fun _ _ _ _ _ => pg_name (i := 6) scRO.nd rfl (Or.inl rfl)) (fun _ _ _ _ _ => pts_one (pt_cmpR op_ne (pv 6) pe_str (nomark _))) (fun _ _ _ _ _ => pv 6)) (pa_cons (pe_lst pa_nil) pa_nil)) rfl)
      (pss_cons (ps_for (passes_of rfl) rfl (pi_tup (pe_tup (pa_cons (pe_tup (pa_cons pe_int (pa_cons pe_int pa_nil))) (pa_cons (pe_tup (pa_cons pe_int (pa_cons pe_int pa_nil))) (pa_cons (pe_tup (pa_cons pe_int (pa_cons (pe_gI mD) pa_nil))) (pa_cons (pe_tup (pa_cons pe_int (pa_cons (pe_ix ix_kdict (pe_gR mM) pe_str (fun _ _ => rfl)) pa_nil))) pa_nil))))))
          (pg_tup rfl (pgs_cons (pg_name (i := 4) scRO.nd rfl (Or.inl rfl)) (pgs_cons (pg_name (i := 5) scRO.nd rfl (Or.inl rfl)) pgs_nil)))
        (pss_cons (ps_if (pt_cmpR op_eq (pv 4) (pe_len T (pv 2)) (nomark _)) (pss_one (ps_line rfl TE rfl rfl hr2 (takes_of rfl rfl rfl rfl) pe_int (pe_op op_add (pv 4) pe_int))) pss_nil)
        (pss_cons (ps_set (i := 6) scRO.nd rfl (Or.inl rfl) (pe_ix (ix_lK K) (pv 2) (pv 4) (fun _ _ => rfl)))
        (pss_cons (ps_if (PW.pt (pw_or (PW.pt (pw_and (pt_cmpR op_eq (pv 4) pe_int (nomark _)) (pw_and1 (pt_not (pt_val (pe_dn (ok_name T) hr1 pass0 (pa_cons (pv 6) pa_nil)))))))
            (pw_or1 (PW.pt (pw_and (pt_cmpR op_eq (pv 4) pe_int (nomark _)) (pw_and1 (pt_cmpR (op_ninSK K) (pv 6) (pe_ix (ix_tK K) (pv 0) pe_int (fun _ _ => rfl)) rfl)))))))
          (pss_one (ps_line rfl TE rfl rfl hr2 (takes_of rfl rfl rfl rfl) pe_int (pe_op op_add (pv 4) pe_int))) pss_nil)
        (pss_cons (ps_expr (pe_bm PySem.F.plainAttrs_list PySem.F.slot_list_append PySem.F.type_list_append mt_append (pv 3) (pa_cons (pe_ifExp (pt_cmpR op_lt (pv 4) pe_int (nomark _)) (pv 6) (pe_dn (ok_num T) hr1 pass0 (pa_cons (pv 6) (pa_cons (pv 5) pa_nil)))) pa_nil)))
        (pss_one (ps_if (pt_cmpR op_eq (pe_ix (ix_lK K) (pv 3) (pe_un un_neg pe_int) (fun _ _ => rfl)) (pe_un un_neg pe_int) (nomark _)) (pss_one (ps_line rfl TE rfl rfl hr2 (takes_of rfl rfl rfl rfl) pe_int (pe_op op_add (pv 4) pe_int))) pss_nil)))))))
      (pss_cons (ps_set (i := 7) scRO.nd rfl (Or.inl rfl) (pe_dn (ok_wishesIn T TE) hr3 (passes_call (takes_of rfl rfl rfl rfl) (fun _ _ _ _ h => h)) (pa_cons (pv 0) (pa_cons (pv 2) pa_nil))))
      (pss_one (ps_ret (pe_tup (pa_cons (pe_ix (ix_lK K) (pv 3) pe_int (fun _ _ => rfl)) (pa_cons (pe_ix (ix_lK K) (pv 3) pe_int (fun _ _ => rfl)) (pa_cons (pv 7) (pa_cons (pe_ix (ix_lK K) (pv 3) pe_int (fun _ _ => rfl)) (pa_cons (pe_ix (ix_lK K) (pv 3) pe_int (fun _ _ => rfl)) pa_nil)))))))))))), ?_⟩
    obtain ⟨c, c0, c1, c2, c3, c4, ls, ss, rfl, hc, p0, p1, p2, p3, d3, p4, d4⟩ := cat_parts hv
    refine ⟨_, rfl, .ref c, q, rfl, hv, VQ, fun H1 s1 => ⟨_, rfl, "str", true, .base (.str _), by decide +kernel, _, rfl, iteF ?_⟩⟩
    refine ⟨_, rfl, ⟨_, rfl⟩, t, 32, rfl, (by rw [sp_eq]; rfl), by omega, htl, fun wl nwl => ⟨wl, rfl, ⟨_, .of upd_same⟩, fun wa nwa => ?_⟩⟩
    have s2 : Same H1 (upd H1 wl (.lst ((splA 32 [] t).map sv))) := same_new (Same.refl _) nwl
    obtain ⟨wcl, wok⟩ := spl_ok 32 ht htl
    refine lc_gen (walk_list (xs := (splA 32 [] t).map sv)) (fun m acc _ => acc = (((splA 32 [] t).take m).filter fun p => !decide (p = [])).map sv) nwa (by rw [List.length_map, sizeLine_eq]; omega) (fun H' s' => .of (s' _ _ upd_same)) (fun m acc _ _ e _ => e) rfl ?_ ?_
    · intro m z acc H5 H6 QT QF hm s7 hacc hz kT kF
      obtain ⟨rfl, hz2⟩ := hz
      rw [List.getElem?_map] at hz2
      obtain ⟨p, hp, rfl⟩ := Option.map_eq_some_iff.mp hz2
      refine ⟨rfl, ⟨_, rfl, rfl, _, rfl, ?_⟩⟩
      have e5 := filt_take (f := fun p : W => !decide (p = [])) hp
      rw [sv_emp]
      by_cases hp0 : p = []
      · rw [decide_eq_true hp0]
        refine iteF (kF _ (Same.refl _) ?_)
        rw [hacc, e5, hp0]
        simp
      · rw [decide_eq_false hp0]
        refine iteT ⟨_, rfl, kT _ _ (Same.refl _) ?_⟩
        rw [hacc, e5]
        simp [hp0]
    intro acc H2 s3 hwa0 hacc
    rw [List.length_map, List.take_length] at hacc
    have hacc : acc = (wordsOf t).map sv := hacc
    subst hacc
    have wsub : ∀ p ∈ wordsOf t, p.length ≤ 1000000 ∧ okW p := fun p hp => wok p (List.mem_filter.mp hp).1
    have s4 := s1.trans (s2.trans s3)
    have eqO : ∀ x, readOrdW (names q 1) (names q 2) (wordsOf t) = x → readOrd (names q 1) (names q 2) t = x := fun x e => e
    generalize wordsOf t = ws at hwa0 wsub eqO
    refine ⟨(by show 0 ≤ sizeLine; omega), fun ff nf => ⟨_, _, rfl, ?_⟩⟩
    have nfH : H ff = none := Same.free s4 nf
    have s5 : Same H (upd H2 ff (.lst [])) := same_new s4 nf
    have hwa : (upd H2 ff (.lst [])) wa = some (.lst (ws.map sv)) := by
      rw [upd_ne (ne_of_none hwa0 nf)]
      exact hwa0
    have hff : (upd H2 ff (.lst [])) ff = some (.lst []) := upd_same
    have nwaH : H wa = none := Same.free (s1.trans s2) nwa
    have nef : wa ≠ ff := ne_of_none hwa0 nf
    generalize upd H2 ff (.lst []) = H3 at s5 hwa hff
    refine ⟨(by show 2 ≤ sizeLine; rw [sizeLine_eq]; decide), fun t0 n0 => ⟨(by show 2 ≤ sizeLine; rw [sizeLine_eq]; decide), fun t1 n1 => ⟨(by show 2 ≤ sizeLine; rw [sizeLine_eq]; decide), fun t2 n2 => ⟨aM, "worth", _, rfl, rfl, kW, (by show 2 ≤ sizeLine; rw [sizeLine_eq]; decide), fun t3 n3 => ⟨(by show 4 ≤ sizeLine; rw [sizeLine_eq]; decide), fun tt ntt => ⟨tt, rfl, ⟨_, .of upd_same⟩, ?_⟩⟩⟩⟩⟩⟩
    have u0 : Same H3 (upd H3 t0 (.tup [.int 0, .int 0])) := same_new (Same.refl _) n0
    have h0 : (upd H3 t0 (.tup [.int 0, .int 0])) t0 = some (.tup [.int 0, .int 0]) := upd_same
    generalize upd H3 t0 (.tup [.int 0, .int 0]) = K0 at n1 n2 n3 ntt u0 h0 ⊢
    have u1 : Same K0 (upd K0 t1 (.tup [.int 1, .int 0])) := same_new (Same.refl _) n1
    have h1 : (upd K0 t1 (.tup [.int 1, .int 0])) t1 = some (.tup [.int 1, .int 0]) := upd_same
    generalize upd K0 t1 (.tup [.int 1, .int 0]) = K1 at n2 n3 ntt u1 h1 ⊢
    have u2 : Same K1 (upd K1 t2 (.tup [.int 2, .int 60])) := same_new (Same.refl _) n2
    have h2 : (upd K1 t2 (.tup [.int 2, .int 60])) t2 = some (.tup [.int 2, .int 60]) := upd_same
    generalize upd K1 t2 (.tup [.int 2, .int 60]) = K2 at n3 ntt u2 h2 ⊢
    have u3 : Same K2 (upd K2 t3 (.tup [.int 3, .int 999])) := same_new (Same.refl _) n3
    have h3 : (upd K2 t3 (.tup [.int 3, .int 999])) t3 = some (.tup [.int 3, .int 999]) := upd_same
    generalize upd K2 t3 (.tup [.int 3, .int 999]) = K3 at ntt u3 h3 ⊢
    have u4 : Same K3 (upd K3 tt (.tup [.ref t0, .ref t1, .ref t2, .ref t3])) := same_new (Same.refl _) ntt
    have h4 : (upd K3 tt (.tup [.ref t0, .ref t1, .ref t2, .ref t3])) tt = some (.tup [.ref t0, .ref t1, .ref t2, .ref t3]) := upd_same
    generalize upd K3 tt (.tup [.ref t0, .ref t1, .ref t2, .ref t3]) = K4 at u4 h4 ⊢
    have hff4 := u4 _ _ (u3 _ _ (u2 _ _ (u1 _ _ (u0 _ _ hff))))
    have hwa4 := u4 _ _ (u3 _ _ (u2 _ _ (u1 _ _ (u0 _ _ hwa))))
    have g0 := u4 _ _ (u3 _ _ (u2 _ _ (u1 _ _ h0)))
    have g1 := u4 _ _ (u3 _ _ (u2 _ _ h1))
    have g2 := u4 _ _ (u3 _ _ h2)
    have g3 := u4 _ _ h3
    have sK := s5.trans (u0.trans (u1.trans (u2.trans (u3.trans u4))))
    have lenw : ∀ H', H' wa = some (.lst (ws.map sv)) → LenV K (.ref wa) H' ws.length := fun H' h => .inl ⟨_, .of h, (List.length_map ..).symm⟩
    have raise : ∀ (e : Nat) (z : Int) (H' : Hp), (e : Int) = z → Same H H' → readOrdW (names q 1) (names q 2) ws = .error e → 2 ≤ 1000 ∧ ∀ a : Addr, H' a = none → spLineI C [.ref a, .int 1, .int z] (upd H' a (exo a C none)) (fun v H2 => v = .non ∧ ∃ (d : Addr) (fs : List (Str × V)), H2 a = some (exo a C (some d)) ∧ H2 d = some (exd d fs) ∧ H' d = none ∧ E (.ref C) (some d) (upd (del H2 a) d (.xd fs))) (fun _ _ _ => False) := fun e z H' ez s' er => by
      subst ez
      exact ⟨by decide, fun a na => mkLine na (raiseP_same s' (kr e (eqO _ er)))⟩
    refine for_it (walk_tup (xs := [.ref t0, .ref t1, .ref t2, .ref t3])) (fun i σ H' => ∃ (x4 x5 x6 : Option V) (F : List V), σ = [some (.ref c), some (sv t), some (.ref wa), some (.ref ff), x4, x5, x6, none] ∧ Same H H' ∧ TS K4 H' ∧ H' wa = some (.lst (ws.map sv)) ∧ H' ff = some (.lst F) ∧ Gd (names q 1) ws i F)
      ⟨none, none, none, [], rfl, sK, same_ts (Same.refl _), hwa4, hff4, rfl⟩ (fun i σ H' _ ⟨_, _, _, _, _, _, t', _⟩ => .of (t'.tup _ _ h4)) ?_ ?_
    · rintro i y σ H5 H' hi ⟨x4, x5, x6, F, rfl, s6, t6, hw6, hf6, hG⟩ ⟨rfl, hy⟩
      have lw := lenw _ hw6
      -- what follows a word that fits
      have put : ∀ (H7 : Hp) (v : V), Same H' H7 → Same H (upd H7 ff (.lst (F ++ [v]))) ∧ TS K4 (upd H7 ff (.lst (F ++ [v]))) ∧ (upd H7 ff (.lst (F ++ [v]))) wa = some (.lst (ws.map sv)) ∧ (upd H7 ff (.lst (F ++ [v]))) ff = some (.lst (F ++ [v])) := fun H7 v s7 => by
        refine ⟨same_set (s6.trans s7) nfH, (t6.trans (same_ts s7)).trans (ts_lst (s7 _ _ hf6)), ?_, upd_same⟩
        rw [upd_ne nef]
        exact s7 _ _ hw6
      match i, hi, hy, hG with
      | 0, _, hy, hG =>
        cases hy
        have hG : F = [] := hG
        subst hG
        refine ⟨t0, _, rfl, .of (t6.tup _ _ g0), rfl, _, _, rfl, _, _, rfl, rfl, ?_⟩
        refine ⟨_, rfl, _, rfl, ws.length, lw, rfl, _, rfl, ?_⟩
        cases ws with
        | nil => exact iteT ⟨_, rfl, _, _, rfl, rfl, raise 1 _ _ rfl s6 rfl⟩
        | cons n r =>
          rw [decide_eq_false (show ¬ V.int 0 = V.int (((n :: r).length : Nat) : Int) from fun z => by injection z with z; rw [List.length_cons] at z; omega)]
          have hn := wsub n (List.mem_cons_self ..)
          refine iteF ⟨_, rfl, _, rfl, wa, _, _, _, rfl, rfl, .of hw6, atI_nat (j := 0) rfl, ?_⟩
          refine ⟨_, rfl, rfl, _, rfl, iteT ⟨_, rfl, n, rfl, hn.1, fun H7 s7 => ⟨_, rfl, ?_⟩⟩⟩
          cases hnm : isName n with
          | false => exact iteT (iteT ⟨_, rfl, _, _, rfl, rfl, raise 1 _ _ rfl (s6.trans s7) (ro_name (by rw [hnm]; exact Bool.false_ne_true))⟩)
          | true =>
            obtain ⟨w1, w2, w3, w4⟩ := put H7 (sv n) s7
            refine iteF ⟨_, rfl, rfl, _, rfl, iteF (iteF ⟨_, rfl, .inl ⟨rfl, _, .of (s7 _ _ hf6)⟩, _, rfl, _, _, rfl, rfl, _, rfl, iteT ⟨_, rfl, ff, _, _, rfl, rfl, s7 _ _ hf6, (by show 0 < sizeLine; rw [sizeLine_eq]; decide), ?_⟩⟩)⟩
            refine ⟨_, rfl, 1, rfl, ff, _, _, _, rfl, rfl, .of w4, rfl, 1, rfl, rfl, _, rfl, iteF ?_⟩
            exact ⟨_, _, _, _, rfl, w1, w2, w3, w4, n, r, rfl, hnm, rfl⟩
      | 1, _, hy, hG =>
        cases hy
        obtain ⟨n, r, rfl, hnm, rfl⟩ := hG
        refine ⟨t1, _, rfl, .of (t6.tup _ _ g1), rfl, _, _, rfl, _, _, rfl, rfl, ?_⟩
        refine ⟨_, rfl, _, rfl, (n :: r).length, lw, rfl, _, rfl, ?_⟩
        cases r with
        | nil => exact iteT ⟨_, rfl, _, _, rfl, rfl, raise 2 _ _ rfl s6 (if_pos hnm)⟩
        | cons g r =>
          rw [decide_eq_false (show ¬ V.int 1 = V.int (((n :: g :: r).length : Nat) : Int) from fun z => by injection z with z; rw [List.length_cons, List.length_cons] at z; omega)]
          refine iteF ⟨_, rfl, _, rfl, wa, _, _, _, rfl, rfl, .of hw6, atI_nat (j := 1) rfl, ?_⟩
          refine ⟨_, rfl, rfl, _, rfl, iteF (iteF ⟨_, rfl, rfl, _, rfl, iteT ⟨_, rfl, _, rfl, c, _, _, _, rfl, rfl, same_sqt s6 hc, atI_nat (j := 1) rfl, c1, _, rfl, .inr (same_sqt s6 p1), rfl, flat_strs _, _, rfl, ?_⟩⟩)⟩
          rw [if_pos rfl, inV_strs]
          by_cases hg : g ∈ names q 1
          · rw [decide_eq_true hg]
            obtain ⟨w1, w2, w3, w4⟩ := put H' (sv g) (Same.refl _)
            refine iteF ⟨_, rfl, .inl ⟨rfl, _, .of hf6⟩, _, rfl, _, _, rfl, rfl, _, rfl, iteT ⟨_, rfl, ff, _, _, rfl, rfl, hf6, (by show 1 < sizeLine; rw [sizeLine_eq]; decide), ?_⟩⟩
            refine ⟨_, rfl, 1, rfl, ff, _, _, _, rfl, rfl, .of w4, rfl, 1, rfl, rfl, _, rfl, iteF ?_⟩
            exact ⟨_, _, _, _, rfl, w1, w2, w3, w4, n, g, r, rfl, hnm, hg, rfl⟩
          · rw [decide_eq_false hg]
            exact iteT ⟨_, rfl, _, _, rfl, rfl, raise 2 _ _ rfl s6 (ro_reg hnm hg)⟩
      | 2, _, hy, hG =>
        cases hy
        obtain ⟨n, g, r, rfl, hnm, hg, rfl⟩ := hG
        refine ⟨t2, _, rfl, .of (t6.tup _ _ g2), rfl, _, _, rfl, _, _, rfl, rfl, ?_⟩
        refine ⟨_, rfl, _, rfl, (n :: g :: r).length, lw, rfl, _, rfl, ?_⟩
        cases r with
        | nil => exact iteT ⟨_, rfl, _, _, rfl, rfl, raise 3 _ _ rfl s6 ((if_pos hnm).trans (if_pos hg))⟩
        | cons b r =>
          rw [decide_eq_false (show ¬ V.int 2 = V.int (((n :: g :: b :: r).length : Nat) : Int) from fun z => by injection z with z; rw [List.length_cons, List.length_cons, List.length_cons] at z; omega)]
          have hb := wsub b (by simp)
          refine iteF ⟨_, rfl, _, rfl, wa, _, _, _, rfl, rfl, .of hw6, atI_nat (j := 2) rfl, ?_⟩
          refine ⟨_, rfl, rfl, _, rfl, iteF (iteF ⟨_, rfl, rfl, _, rfl, iteF (iteF ?_)⟩)⟩
          refine ⟨_, rfl, .inl ⟨rfl, _, .of hf6⟩, _, rfl, _, _, rfl, rfl, _, rfl, iteF ⟨_, rfl, _, rfl, b, 60, rfl, hb.1, fun H7 s7 => ⟨ff, _, _, rfl, rfl, s7 _ _ hf6, (by show 2 < sizeLine; rw [sizeLine_eq]; decide), ?_⟩⟩⟩
          obtain ⟨w1, w2, w3, w4⟩ := put H7 (.int (numIn b 60)) s7
          refine ⟨_, rfl, 1, rfl, ff, _, _, _, rfl, rfl, .of w4, rfl, 1, rfl, rfl, _, rfl, ?_⟩
          by_cases hneg : numIn b 60 < 0
          · rw [decide_eq_true (show V.int (numIn b 60) = V.int (-1) by rw [numIn_neg hneg])]
            exact iteT ⟨_, rfl, _, _, rfl, rfl, raise 3 _ _ rfl w1 (ro_day hnm hg hneg)⟩
          · rw [decide_eq_false (show ¬ V.int (numIn b 60) = V.int (-1) from fun z => by injection z with z; omega)]
            exact iteF ⟨_, _, _, _, rfl, w1, w2, w3, w4, n, g, b, r, rfl, hnm, hg, hneg, rfl⟩
      | 3, _, hy, hG =>
        cases hy
        obtain ⟨n, g, b, r, rfl, hnm, hg, hb0, rfl⟩ := hG
        refine ⟨t3, _, rfl, .of (t6.tup _ _ g3), rfl, _, _, rfl, _, _, rfl, rfl, ?_⟩
        refine ⟨_, rfl, _, rfl, (n :: g :: b :: r).length, lw, rfl, _, rfl, ?_⟩
        cases r with
        | nil => exact iteT ⟨_, rfl, _, _, rfl, rfl, raise 4 _ _ rfl s6 ((if_pos hnm).trans ((if_pos hg).trans (if_neg hb0)))⟩
        | cons o r =>
          rw [decide_eq_false (show ¬ V.int 3 = V.int (((n :: g :: b :: o :: r).length : Nat) : Int) from fun z => by injection z with z; rw [List.length_cons, List.length_cons, List.length_cons, List.length_cons] at z; omega)]
          have ho := wsub o (by simp)
          refine iteF ⟨_, rfl, _, rfl, wa, _, _, _, rfl, rfl, .of hw6, atI_nat (j := 3) rfl, ?_⟩
          refine ⟨_, rfl, rfl, _, rfl, iteF (iteF ⟨_, rfl, rfl, _, rfl, iteF (iteF ?_)⟩)⟩
          refine ⟨_, rfl, .inl ⟨rfl, _, .of hf6⟩, _, rfl, _, _, rfl, rfl, _, rfl, iteF ⟨_, rfl, _, rfl, o, 999, rfl, ho.1, fun H7 s7 => ⟨ff, _, _, rfl, rfl, s7 _ _ hf6, (by show 3 < sizeLine; rw [sizeLine_eq]; decide), ?_⟩⟩⟩
          obtain ⟨w1, w2, w3, w4⟩ := put H7 (.int (numIn o 999)) s7
          refine ⟨_, rfl, 1, rfl, ff, _, _, _, rfl, rfl, .of w4, rfl, 1, rfl, rfl, _, rfl, ?_⟩
          by_cases hneg : numIn o 999 < 0
          · rw [decide_eq_true (show V.int (numIn o 999) = V.int (-1) by rw [numIn_neg hneg])]
            exact iteT ⟨_, rfl, _, _, rfl, rfl, raise 4 _ _ rfl w1 (ro_worth hnm hg hb0 hneg)⟩
          · rw [decide_eq_false (show ¬ V.int (numIn o 999) = V.int (-1) from fun z => by injection z with z; omega)]
            exact iteF ⟨_, _, _, _, rfl, w1, w2, w3, w4, n, g, b, o, r, rfl, hnm, hg, hb0, hneg, rfl⟩
    · rintro σ H6 ⟨x4, x5, x6, F, rfl, s6, t6, hw6, hf6, hG⟩
      obtain ⟨n, g, b, o, r, rfl, hnm, hg, hb0, ho0, rfl⟩ := hG
      have e0 := ro_go (r := r) (items := names q 2) hnm hg hb0 ho0
      refine ⟨_, rfl, _, rfl, .ref c, q, wa, _, rfl, dp_same s6 _ _ hv, VQ.toSound, hw6, wsub, fun us hus z H7 s7 hz => ?_, fun e he => ?_⟩
      · have hus : wishesM (names q 2) r [] 4 = .ok us := hus
        rw [hus] at e0
        have hf7 := s7 _ _ hf6
        refine ⟨_, rfl, ff, _, _, _, rfl, rfl, .of hf7, atI_nat (j := 0) rfl, _, rfl, ff, _, _, _, rfl, rfl, .of hf7, atI_nat (j := 1) rfl, _, rfl, _, rfl, ff, _, _, _, rfl, rfl, .of hf7, atI_nat (j := 2) rfl, _, rfl, ff, _, _, _, rfl, rfl, .of hf7, atI_nat (j := 3) rfl, (by show 5 ≤ sizeLine; rw [sizeLine_eq]; decide), fun l nl => ?_⟩
        refine kk _ (eqO _ e0) _ _ ((s6.trans s7).trans (same_new (Same.refl _) nl)) ?_
        exact .tup (.of upd_same) (.cons (.str _) (.cons (.str _) (.cons (dp_same (same_new (Same.refl _) nl) _ _ hz) (.cons (.int _) (.cons (.int _) .nil)))))
      · have he : wishesM (names q 2) r [] 4 = .error e := he
        rw [he] at e0
        exact raiseP_same s6 (kr e (eqO _ e0))
end
end Kw
set_option Elab.async false
set_option linter.all false
set_option maxRecDepth 100000
set_option maxHeartbeats 800000
/-! The walk, part 20: numbers taken from the script; a thing picked. -/
namespace Kw
open PySem PySem.Spec PyProof.Rows L2 Km
/-- the row alone is written -/
def Sib (a : Addr) (H H' : Hp) : Prop := ∀ b o, H b = some o → b ≠ a → H' b = some o
theorem Sib.refl (a : Addr) (H : Hp) : Sib a H H := fun _ _ e _ => e
theorem Sib.trans {a : Addr} {H H1 H2 : Hp} (h : Sib a H H1) (k : Sib a H1 H2) : Sib a H H2 := fun b o e n => k b o (h b o e n) n
theorem sib_same {a : Addr} {H H' : Hp} (s : Same H H') : Sib a H H' := fun b o e _ => s b o e
theorem sib_set {a : Addr} {H : Hp} {o : HO} : Sib a H (upd H a o) := fun b x e n => by
  rw [upd_ne n]
  exact e
/-- a fresh object of ours is written -/
theorem sib_set2 {a p : Addr} {H H' : Hp} {o : HO} (s : Sib a H H') (n : H p = none) : Sib a H (upd H' p o) := fun b x e k => by
  rw [upd_ne (ne_of_none e n)]
  exact s b x e k
/-- .. and tables -/
def SibN (a : Addr) (H H' : Hp) : Prop := ∀ b o, H b = some o → b ≠ a → (∀ ps, o ≠ .tbl ps) → H' b = some o
theorem Sib.n {a : Addr} {H H' : Hp} (s : Sib a H H') : SibN a H H' := fun b o e k _ => s b o e k
theorem SibN.trans {a : Addr} {H H1 H2 : Hp} (h : SibN a H H1) (k : SibN a H1 H2) : SibN a H H2 := fun b o e n t => k b o (h b o e n t) n t
/-- the law's row: the script, the place in it, the seed, the rest -/
def RowL (K : PySem.W.Frag) (sc : Addr) (ns : List Int) (H : Hp) (a : Addr) : Prop := ∃ (i : Nat) (seed rest : Int), H a = some (.lst [.ref sc, .int i, .int seed, .int rest]) ∧ ∀ H', SibN a H H' → SqL K H' sc (ns.map V.int)
/-- no tuple stands at the row -/
theorem sib_ts {K : PySem.W.Frag} {a sc : Addr} {ns : List Int} {H H' : Hp} (r : RowL K sc ns H a) (s : Sib a H H') : TS H H' := by
  obtain ⟨i, seed, rest, h, _⟩ := r
  exact ⟨fun b xs e => s b _ e (ne_of e h (by intro z; cases z)), fun b o u e => s b _ e (ne_of e h (by intro z; cases z))⟩
theorem sib_dp {K : PySem.W.Frag} {a sc : Addr} {ns : List Int} {H H' : Hp} {v : V} {d : PyData} (r : RowL K sc ns H a) (s : Sib a H H') (t : tupOnly d = true) (h : Dp K H v d) : Dp K H' v d := dp_ts (sib_ts r s) d v t h
theorem rowL_sib {K : PySem.W.Frag} {a sc : Addr} {H H' : Hp} {ns : List Int} {j : Nat} {seed rest : Int} (k : ∀ H', SibN a H H' → SqL K H' sc (ns.map V.int)) (s : Sib a H H') (h : H' a = some (.lst [.ref sc, .int j, .int seed, .int rest])) : RowL K sc ns H' a :=
  ⟨j, seed, rest, h, fun H2 s2 => k H2 (s.n.trans s2)⟩
theorem rowL_same {K : PySem.W.Frag} {a sc : Addr} {ns : List Int} {H H' : Hp} (s : Same H H') (r : RowL K sc ns H a) : RowL K sc ns H' a := by
  obtain ⟨i, seed, rest, h, k⟩ := r
  exact rowL_sib k (sib_same s) (s _ _ h)
/-- only tables are written -/
theorem rowL_ext {K : PySem.W.Frag} {a sc : Addr} {ns : List Int} {H H' : Hp} (s : LamX.ExtN H H') (r : RowL K sc ns H a) : RowL K sc ns H' a := by
  obtain ⟨i, seed, rest, h, k⟩ := r
  exact ⟨i, seed, rest, s _ _ h (fun ps z => by cases z), fun H2 s2 => k H2 fun b o e n t => s2 b o (s b o e t) n t⟩
/-- a thing of ours is written, that was not there at first -/
theorem rowL_upd {K : PySem.W.Frag} {a sc p : Addr} {ns : List Int} {H H1 : Hp} {o : HO} (r0 : RowL K sc ns H a) (s : Sib a H H1) (n : H p = none) (r1 : RowL K sc ns H1 a) : RowL K sc ns (upd H1 p o) a := by
  obtain ⟨i0, s0, t0, h0, k0⟩ := r0
  obtain ⟨i, seed, rest, h, k⟩ := r1
  refine rowL_sib k0 (sib_set2 s n) (j := i) (seed := seed) (rest := rest) ?_
  rw [upd_ne (ne_of_none h0 n)]
  exact h
section
variable {P : Program} {w : World} {K : PySem.W.Frag} {mg : Str → Option Value} {base : Heap}
/-! ### _law_taken -/
def spTaken (K : PySem.W.Frag) : Sp := fun vs H Q _ => ∃ (a sc : Addr) (ns : List Int) (m : Int), vs = [.ref a, .int m] ∧ RowL K sc ns H a ∧ 0 < m ∧ m < 1073741824 ∧ ∀ (r : Nat) (H' : Hp), (r : Int) < m → Sib a H H' → RowL K sc ns H' a → Q (.int (r : Nat)) H'
abbrev nmTk : List Str := ["_law_row", "_law_many", "_law_found", "_law_cell"]
theorem scTk : FnScope nmTk ["_law_row", "_law_many"] (defScope sTaken) := ⟨rfl, rfl, rfl, by decide +kernel, rfl, by decide +kernel, by decide +kernel⟩
theorem ok_taken (T : Txt K mg w) : Dn P w K mg base CX0 1 "_law_taken" ["_law_row", "_law_many"] (spTaken K) := by
  refine T.dTaken.dn (fun f fd F => F.ok scTk (fun vs H Q E h => ?_) (fun cdv A outer s H vs Q E hr h => ?_)) (fun _ _ _ _ _ _ us hl => match us, hl with | [_, _], _ => rfl)
  · obtain ⟨a, sc, ns, m, rfl, _⟩ := h
    rfl
  · obtain ⟨a, sc, ns, m, rfl, hR, m0, m1, kk⟩ := h
    refine ⟨_, pss_cons (ps_if (pt_cmpR op_gt (pe_ix (ix_lK K) (pv 0) pe_int (fun _ _ => rfl)) pe_int (nomark _))
        (pss_cons (ps_set (i := 2) scTk.nd rfl (Or.inl rfl) (pe_op op_mod (pe_int1 T (pe_ix (ix_lK K) (pv 0) pe_int (fun _ _ => rfl))) (pv 1)))
        (pss_cons (ps_asg (pe_op op_fdiv (pe_ix (ix_lK K) (pv 0) pe_int (fun _ _ => rfl)) (pv 1)) (pg_sub (pv 0) pe_int set_list))
        (pss_one (ps_ret (pv 2))))) pss_nil)
      (pss_cons (ps_asg (pe_op op_add (pe_ix (ix_lK K) (pv 0) pe_int (fun _ _ => rfl)) pe_int) (pg_sub (pv 0) pe_int set_list))
      (pss_cons (ps_if (pt_cmpR op_gt (pe_ix (ix_lK K) (pv 0) pe_int (fun _ _ => rfl)) (pe_len T (pe_ix (ix_lK K) (pv 0) pe_int (fun _ _ => rfl))) (nomark _))
        (pss_cons (ps_asg (pe_op op_mod (pe_int1 T (pe_op op_add (pe_op op_mul (pe_ix (ix_lK K) (pv 0) pe_int (fun _ _ => rfl)) pe_int) pe_int)) pe_int) (pg_sub (pv 0) pe_int set_list))
        (pss_one (ps_ret (pe_op op_mod (pe_int1 T (pe_op op_fdiv (pe_ix (ix_lK K) (pv 0) pe_int (fun _ _ => rfl)) pe_int)) (pv 1))))) pss_nil)
      (pss_cons (ps_set (i := 3) scTk.nd rfl (Or.inl rfl) (pe_ix (ix_lK K) (pe_ix (ix_lK K) (pv 0) pe_int (fun _ _ => rfl)) (pe_op op_sub (pe_ix (ix_lK K) (pv 0) pe_int (fun _ _ => rfl)) pe_int) (fun _ _ => rfl)))
      (pss_cons (ps_asg (pe_op op_mod (pe_int1 T (pe_op op_add (pe_op op_add (pe_op op_mul (pe_ix (ix_lK K) (pv 0) pe_int (fun _ _ => rfl)) pe_int) (pv 3)) pe_int)) pe_int) (pg_sub (pv 0) pe_int set_list))
      (pss_cons (ps_if (pt_cmpR op_ge (pv 3) (pe_op op_pow pe_int pe_int) (nomark _)) (pss_one (ps_asg (pe_op op_fdiv (pv 3) (pv 1)) (pg_sub (pv 0) pe_int set_list))) pss_nil)
      (pss_one (ps_ret (pe_op op_mod (pe_int1 T (pv 3)) (pv 1)))))))))
      , ?_⟩
    obtain ⟨i, seed, rest, ha, hs⟩ := hR
    -- an answer
    have fin : ∀ (x : Int) (H' : Hp), Sib a H H' → RowL K sc ns H' a → Q (.int (x % m)) H' := fun x H' s' r' => by
      have h1 := Int.emod_nonneg x (show m ≠ 0 by omega)
      have h2 := Int.emod_lt_of_pos x m0
      have e : ((x % m).toNat : Int) = x % m := Int.toNat_of_nonneg h1
      rw [← e]
      exact kk _ H' (by omega) s' r'
    refine ⟨_, rfl, a, _, _, _, rfl, rfl, .of ha, atI_nat (j := 3) rfl, _, _, rfl, rfl, _, rfl, ite2 (fun hp => ?_) (fun hp => ?_)⟩
    · refine ⟨_, rfl, a, _, _, _, rfl, rfl, .of ha, atI_nat (j := 3) rfl, _, rfl, _, _, rfl, rfl, m0, ?_⟩
      refine ⟨_, rfl, a, _, _, _, rfl, rfl, .of ha, atI_nat (j := 3) rfl, _, rfl, _, _, rfl, rfl, ⟨m0, m1⟩, ?_⟩
      refine ⟨_, rfl, a, _, _, 3, rfl, rfl, ha, rfl, ?_⟩
      exact ⟨_, rfl, fin rest _ sib_set (rowL_sib hs sib_set upd_same)⟩
    · refine ⟨_, rfl, a, _, _, _, rfl, rfl, .of ha, atI_nat (j := 1) rfl, _, _, rfl, rfl, ?_⟩
      refine ⟨_, rfl, a, _, _, 1, rfl, rfl, ha, rfl, ?_⟩
      have s1 : Sib a H (upd H a (.lst [.ref sc, .int ((i : Int) + 1), .int seed, .int rest])) := sib_set
      have h1 : (upd H a (.lst [.ref sc, .int ((i : Int) + 1), .int seed, .int rest])) a = some (.lst [.ref sc, .int ((i + 1 : Nat) : Int), .int seed, .int rest]) := upd_same
      have e1 : upd H a (.lst ([V.ref sc, .int i, .int seed, .int rest].set 1 (.int ((i : Int) + 1)))) = upd H a (.lst [.ref sc, .int ((i : Int) + 1), .int seed, .int rest]) := rfl
      rw [e1]
      generalize upd H a (.lst [.ref sc, .int ((i : Int) + 1), .int seed, .int rest]) = H1 at s1 h1
      have hsc := hs H1 s1.n
      refine ⟨_, rfl, a, _, _, _, rfl, rfl, .of h1, atI_nat (j := 1) rfl, _, rfl, a, _, _, _, rfl, rfl, .of h1, atI_nat (j := 0) rfl, ns.length, .inl ⟨_, hsc, (List.length_map ..).symm⟩, _, _, rfl, rfl, _, rfl, ?_⟩
      by_cases hlen : ns.length < i + 1
      · rw [decide_eq_true (show ((ns.length : Nat) : Int) < ((i + 1 : Nat) : Int) by omega)]
        refine iteT ⟨_, rfl, a, _, _, _, rfl, rfl, .of h1, atI_nat (j := 2) rfl, _, _, rfl, rfl, .inr ⟨by omega, by omega⟩, _, _, rfl, rfl, _, _, rfl, rfl, by omega, ?_⟩
        refine ⟨_, rfl, a, _, _, 2, rfl, rfl, h1, rfl, ?_⟩
        have h2 := upd_same (H := H1) (a := a) (o := .lst ([V.ref sc, .int ((i + 1 : Nat) : Int), .int seed, .int rest].set 2 (.int ((seed * 48271 + 11) % 2147483647))))
        refine ⟨_, rfl, a, _, _, _, rfl, rfl, .of h2, atI_nat (j := 2) rfl, _, _, rfl, rfl, ⟨by omega, by omega⟩, _, rfl, _, _, rfl, rfl, m0, ?_⟩
        exact fin _ _ (s1.trans sib_set) (rowL_sib hs (s1.trans sib_set) h2)
      · rw [decide_eq_false (show ¬ ((ns.length : Nat) : Int) < ((i + 1 : Nat) : Int) by omega)]
        have hi : i < ns.length := by omega
        have hc : (ns.map V.int)[i]? = some (.int ns[i]) := by
          rw [List.getElem?_map, List.getElem?_eq_getElem hi]
          rfl
        generalize ns[i] = cell at hc
        refine iteF ⟨_, rfl, a, _, _, _, rfl, rfl, .of h1, atI_nat (j := 0) rfl, _, rfl, a, _, _, _, rfl, rfl, .of h1, atI_nat (j := 1) rfl, _, _, rfl, rfl, sc, _, _, _, rfl, rfl, hsc, at_of (show ((i + 1 : Nat) : Int) - 1 = (i : Int) by omega) hc, ?_⟩
        refine ⟨_, rfl, a, _, _, _, rfl, rfl, .of h1, atI_nat (j := 2) rfl, _, _, rfl, rfl, .inr ⟨by omega, by omega⟩, _, rfl, _, _, rfl, rfl, _, _, rfl, rfl, _, _, rfl, rfl, by omega, ?_⟩
        refine ⟨_, rfl, a, _, _, 2, rfl, rfl, h1, rfl, ?_⟩
        have h2 := upd_same (H := H1) (a := a) (o := .lst ([V.ref sc, .int ((i + 1 : Nat) : Int), .int seed, .int rest].set 2 (.int ((seed * 48271 + cell + 11) % 2147483647))))
        have s2 : Sib a H (upd H1 a (.lst ([V.ref sc, .int ((i + 1 : Nat) : Int), .int seed, .int rest].set 2 (.int ((seed * 48271 + cell + 11) % 2147483647))))) := s1.trans sib_set
        generalize upd H1 a (.lst ([V.ref sc, .int ((i + 1 : Nat) : Int), .int seed, .int rest].set 2 (.int ((seed * 48271 + cell + 11) % 2147483647)))) = H2 at h2 s2 ⊢
        refine ⟨_, rfl, _, _, rfl, rfl, ⟨by omega, by omega, by decide⟩, _, _, rfl, rfl, _, rfl, ite2 (fun hb => ?_) (fun hb => ?_)⟩
        · refine ⟨_, rfl, _, rfl, _, _, rfl, rfl, ⟨m0, m1⟩, ?_⟩
          refine ⟨_, rfl, a, _, _, 3, rfl, rfl, h2, rfl, ?_⟩
          exact ⟨_, rfl, _, rfl, _, _, rfl, rfl, m0, fin _ _ (s2.trans sib_set) (rowL_sib hs (s2.trans sib_set) upd_same)⟩
        · exact ⟨_, rfl, _, rfl, _, _, rfl, rfl, m0, fin _ _ s2 (rowL_sib hs s2 h2)⟩
end
end Kw
set_option Elab.async false
set_option linter.all false
set_option maxRecDepth 100000
set_option maxHeartbeats 800000
/-! The walk, part 21: a thing picked; alike. -/
namespace Kw
open PySem PySem.Spec PyProof.Rows L2 Km
mutual
/-- texts, numbers, tuples of them -/
def pln : PyData → Bool
  | .int _ => true
  | .str _ => true
  | .tuple ds => plns ds && decide (ds.length ≤ 1000)
  | _ => false
def plns : List PyData → Bool
  | [] => true
  | d :: ds => pln d && plns ds
end
theorem plns_get : ∀ {ds : List PyData} {i : Nat} {d : PyData}, plns ds = true → ds[i]? = some d → pln d = true
  | d :: ds, 0, _, h, e => by
    cases e
    exact (Bool.and_eq_true_iff.mp h).1
  | d :: ds, i + 1, _, h, e => plns_get (ds := ds) (i := i) (Bool.and_eq_true_iff.mp h).2 e
theorem depth_get : ∀ {ds : List PyData} {i : Nat} {d : PyData}, ds[i]? = some d → d.depth ≤ PyData.depthAll ds
  | d :: ds, 0, _, e => by
    cases e
    show d.depth ≤ max d.depth (PyData.depthAll ds)
    omega
  | d :: ds, i + 1, e', e => by
    have := depth_get (ds := ds) (i := i) (d := e') e
    show e'.depth ≤ max d.depth (PyData.depthAll ds)
    omega
theorem kit_tl_tuple {K : PySem.W.Frag} : PySem.W.kitAny K (.type "tuple") [.type "tuple", .type "list"] = some true := kitAny_cons (kit_ty (b := "tuple") (r := true) (by decide +kernel)) (fun z => by cases z) (fun _ => rfl)
theorem kit_tl_str {K : PySem.W.Frag} : PySem.W.kitAny K (.type "str") [.type "tuple", .type "list"] = some false := kitAny_cons (kit_ty (b := "tuple") (r := false) (by decide +kernel)) (fun _ => kitAny_cons (kit_ty (b := "list") (r := false) (by decide +kernel)) (fun _ => kitAny_nil) (fun z => by cases z)) (fun z => by cases z)
theorem kit_tl_int {K : PySem.W.Frag} : PySem.W.kitAny K (.type "int") [.type "tuple", .type "list"] = some false := kitAny_cons (kit_ty (b := "tuple") (r := false) (by decide +kernel)) (fun _ => kitAny_cons (kit_ty (b := "list") (r := false) (by decide +kernel)) (fun _ => kitAny_nil) (fun z => by cases z)) (fun z => by cases z)
/-- isinstance(e, (tuple, list)) -/
def kIsi2 (K : PySem.W.Frag) : List V → Hp → VK → Prop := fun xs H Q => match xs with
  | [x, .ref tp] => ∃ (t : Value) (b : Bool), H tp = some (.tup [.ty "tuple", .ty "list"]) ∧ TyX K H x t ∧ PySem.W.kitAny K t [.type "tuple", .type "list"] = some b ∧ Q (.bl b) H
  | _ => False
theorem callR_isi2 {X : Cx} : CallR X (.builtin "isinstance") (kIsi2 X.K) := callR_imp call_isiT fun xs H Q q => match xs, q with
  | [x, .ref tp], ⟨t, b, h, ty, k, q⟩ => ⟨x, tp, _, t, _, b, rfl, h, .cons (.ty "tuple") (.cons (.ty "list") .nil), ty, k, q⟩
section
variable {X : Cx} {K : PySem.W.Frag} {mg : Str → Option Value} {w : World}
theorem pe_isi2 {e : Expr} {te : TE} {p p2 p3 p4 pos : Pos} {k : Nat} (T : Txt K mg w) (he : PE X e te) (eK : X.K = K := by rfl) (em : X.mg = mg := by rfl) (hg : Gl X "isinstance" := by rfl) (hg2 : Gl X "tuple" := by rfl) (hg3 : Gl X "list" := by rfl)
    (hs : starEach [e, .Tuple [.Name "tuple" p2, .Name "list" p3] k p4] X.env = (false, eval e X.env) :: starEach [.Tuple [.Name "tuple" p2, .Name "list" p3] k p4] X.env := by rfl)
    (hs2 : starEach [.Tuple [.Name "tuple" p2, .Name "list" p3] k p4] X.env = (false, eval (.Tuple [.Name "tuple" p2, .Name "list" p3] k p4) X.env) :: starEach [] X.env := by rfl)
    (hs3 : starEach [.Name "tuple" p2, .Name "list" p3] X.env = (false, eval (.Name "tuple" p2) X.env) :: starEach [.Name "list" p3] X.env := by rfl)
    (hs4 : starEach [.Name "list" p3] X.env = (false, eval (.Name "list" p3) X.env) :: starEach [] X.env := by rfl)
    (hpl : (backTo pos (starEach [.Tuple [.Name "tuple" p2, .Name "list" p3] k p4] X.env)).any (·.1) = false := by rfl) :
    PE X (.Call (.Name "isinstance" p) [e, .Tuple [.Name "tuple" p2, .Name "list" p3] k p4] [] pos) (tCB (kIsi2 K) (tCons te (tCons (tTup (tCons (tC (.ty "tuple")) (tCons (tC (.ty "list")) tNil))) tNil))) := by
  subst eK em
  exact pe_callB callR_isi2 hg T.isinst boot_isinstance (pa_cons he (pa_cons (pe_tup (pa_cons (pe_bltn (v := .ty "tuple") hg2 T.tuple boot_tuple rfl) (pa_cons (pe_bltn (v := .ty "list") hg3 T.list boot_list rfl) pa_nil hs4) hs3)) pa_nil hs2) hs) (he := hs) (hpl := hpl)
end
section
variable {P : Program} {w : World} {K : PySem.W.Frag} {mg : Str → Option Value} {base : Heap}
/-! ### _law_pick -/
def spPick (K : PySem.W.Frag) : Sp := fun vs H Q _ => ∃ (a t sc : Addr) (ns : List Int) (xs : List V), vs = [.ref a, .ref t] ∧ RowL K sc ns H a ∧ H t = some (.lst xs) ∧ t ≠ a ∧ xs ≠ [] ∧ xs.length ≤ 1000 ∧ ∀ (j : Nat) (v : V) (H' : Hp), xs[j]? = some v → Sib a H H' → RowL K sc ns H' a → Q v H'
theorem scPk : FnScope ["_law_row", "_law_things"] ["_law_row", "_law_things"] (defScope sPick) := ⟨rfl, rfl, rfl, by decide +kernel, rfl, by decide +kernel, by decide +kernel⟩
theorem ok_pick (T : Txt K mg w) : Dn P w K mg base CX0 2 "_law_pick" ["_law_row", "_law_things"] (spPick K) := by
  refine T.dPick.dn (fun f fd F => F.ok scPk (fun vs H Q E h => ?_) (fun cdv A outer s H vs Q E hr h => ?_)) (fun _ _ _ _ _ _ us hl => match us, hl with | [_, _], _ => rfl)
  · obtain ⟨a, t, sc, ns, xs, rfl, _⟩ := h
    rfl
  · obtain ⟨a, t, sc, ns, xs, rfl, hR, ht, hta, hne, hl, kk⟩ := h
    have hpos := List.length_pos_iff.mpr hne
    refine ⟨_, pss_one (ps_ret (pe_ix (ix_lK K) (pv 1) (pe_dn (ok_taken T) hr pass0 (pa_cons (pv 0) (pa_cons (pe_len T (pv 1)) pa_nil))) (fun _ _ => rfl))), ?_⟩
    refine ⟨_, rfl, _, rfl, _, rfl, xs.length, .inl ⟨_, .of ht, rfl⟩, a, sc, ns, _, rfl, hR, by omega, by omega, fun r H' hr' s' r' => ?_⟩
    have hx : xs[r]? = some xs[r] := List.getElem?_eq_getElem (by omega)
    exact ⟨t, xs, _, _, rfl, rfl, .of (s' _ _ ht hta), at_of rfl hx, kk r _ H' hx s' r'⟩
/-! ### _law_alike -/
def spAlike (K : PySem.W.Frag) (n : Nat) : Sp := fun vs H Q _ => ∃ (x y : V) (d : PyData), vs = [x, y] ∧ Dp K H x d ∧ Dp K H y d ∧ pln d = true ∧ d.depth ≤ n ∧ ∀ H', Same H H' → Q (.bl true) H'
abbrev nmAl : List Str := ["_law_found", "_law_due", "_law_k"]
theorem scAl : FnScope nmAl ["_law_found", "_law_due"] (defScope sAlike) := ⟨rfl, rfl, rfl, by decide +kernel, rfl, by decide +kernel, by decide +kernel⟩
theorem alike_step (T : Txt K mg w) (n : Nat) (ih : ∀ m, n = m + 1 → Dn P w K mg base CX0 (m + 1) "_law_alike" ["_law_found", "_law_due"] (spAlike K m)) : Dn P w K mg base CX0 (n + 1) "_law_alike" ["_law_found", "_law_due"] (spAlike K n) := by
  refine T.dAlike.dn (fun f fd F => F.ok scAl (fun vs H Q E h => ?_) (fun cdv A outer s H vs Q E hr h => ?_)) (fun _ _ _ _ _ _ us hl => match us, hl with | [_, _], _ => rfl)
  · obtain ⟨x, y, d, rfl, _⟩ := h
    rfl
  · obtain ⟨x, y, d, rfl, hx, hy, hp, hd, kk⟩ := h
    have h2z : 2 ≤ sizeLine := by rw [sizeLine_eq]; decide
    cases d with
    | tuple ds =>
      obtain ⟨m, rfl⟩ : ∃ m, n = m + 1 := by
        have hd : PyData.depthAll ds + 1 ≤ n := hd
        exact ⟨n - 1, by omega⟩
      have hu4 := hu64 hr
      refine ⟨_, pss_cons (ps_if (pt_val (pe_isi2 T (pv 1)))
          (pss_cons (ps_if (PW.pt (pw_or (pt_not (pt_val (pe_isi2 T (pv 0)))) (pw_or1 (pt_cmpR op_ne (pe_isi T (pv 0) T.list boot_list) (pe_isi T (pv 1) T.list boot_list) (nomark _))))) (pss_one (ps_ret pe_bl)) pss_nil)
          (pss_cons (ps_if (pt_cmpR op_ne (pe_len T (pv 0)) (pe_len T (pv 1)) (nomark _)) (pss_one (ps_ret pe_bl)) pss_nil)
          (pss_one (ps_ret (pe_cmpR (op_eqDK K hu4) (pe_lc (own := [("_law_k", 2)]) (g := gName 2) rfl scAl.nd (pi_range1 (by rfl) T.range (pa_cons (pe_len T (pv 1)) pa_nil)) (blkOk_by (own := [("_law_k", 2)]) (N := nmAl) (sc := defScope sAlike) (by decide +kernel))
            (fun _ _ _ _ _ => pg_name (i := 2) scAl.nd rfl (Or.inl rfl)) (fun _ _ _ _ _ => pts_one (pt_not (pt_val (pe_dn (ih m rfl) hr pass0 (pa_cons (pe_ix (ix_tK K) (pv 0) (pv 2) (fun _ _ => rfl)) (pa_cons (pe_ix (ix_tK K) (pv 1) (pv 2) (fun _ _ => rfl)) pa_nil)))))) (fun _ _ _ _ _ => pv 2)) (pe_lst pa_nil) rfl))))) pss_nil)
        (pss_cons ps_never (pss_one ps_never)), ?_⟩
      obtain ⟨a, xs, rfl, ha, hxs⟩ := dp_tup hx
      obtain ⟨b, ys, rfl, hb, hys⟩ := dp_tup hy
      have hxl := dpAll_len hxs
      have hyl := dpAll_len hys
      refine ⟨_, rfl, h2z, fun p np => ⟨_, true, upd_same, ty_tup (same_sqt (same_new (Same.refl _) np) hb), kit_tl_tuple, _, rfl, iteT ?_⟩⟩
      have s1 : Same H (upd H p (.tup [.ty "tuple", .ty "list"])) := same_new (Same.refl _) np
      generalize upd H p (.tup [.ty "tuple", .ty "list"]) = H1 at s1
      refine ⟨_, rfl, h2z, fun p2 np2 => ⟨_, true, upd_same, ty_tup (same_sqt (same_new s1 np2) ha), kit_tl_tuple, _, rfl, iteF ?_⟩⟩
      have s2 := same_new (o := .tup [.ty "tuple", .ty "list"]) s1 np2
      generalize upd H1 p2 (.tup [.ty "tuple", .ty "list"]) = H2 at s2
      have ha2 := same_sqt s2 ha
      have hb2 := same_sqt s2 hb
      refine ⟨_, rfl, "tuple", false, ty_tup ha2, by decide +kernel, _, rfl, "tuple", false, ty_tup hb2, by decide +kernel, rfl, _, rfl, iteF ?_⟩
      refine ⟨_, rfl, ds.length, .inr ⟨_, ha2, hxl.symm⟩, _, rfl, ds.length, .inr ⟨_, hb2, hyl.symm⟩, rfl, _, rfl, ?_⟩
      rw [decide_eq_true (show V.int (ds.length : Int) = V.int (ds.length : Int) from rfl)]
      obtain ⟨hps, hdl⟩ := Bool.and_eq_true_iff.mp (show (plns ds && decide (ds.length ≤ 1000)) = true from hp)
      have hdl := of_decide_eq_true hdl
      refine iteF ⟨_, rfl, ds.length, .inr ⟨_, hb2, hyl.symm⟩, _, rfl, by omega, by omega, fun D nD => ?_⟩
      refine lc_gen walk_range (fun i acc _ => acc = []) nD (by rw [Int.toNat_natCast, sizeLine_eq]; omega) (fun _ _ => trivial) (fun i acc _ _ e _ => e) rfl ?_ ?_
      · intro i z acc H4 H5 QT QF hi s4 hacc hz kT kF
        obtain ⟨rfl, rfl⟩ := hz
        rw [Int.toNat_natCast] at hi
        have hxi : xs[i]? = some (xs[i]'(by omega)) := List.getElem?_eq_getElem _
        have hyi : ys[i]? = some (ys[i]'(by omega)) := List.getElem?_eq_getElem _
        obtain ⟨d1, e1, k1⟩ := dpAll_get hxs hxi
        obtain ⟨d2, e2, k2⟩ := dpAll_get hys hyi
        rw [e1] at e2
        cases e2
        have s5 := s2.trans s4
        have hd' : PyData.depthAll ds + 1 ≤ m + 1 := hd
        have hd3 := depth_get e1
        refine ⟨rfl, _, rfl, _, rfl, a, _, _, _, rfl, rfl, same_sqt s5 ha, at_of (zero_add_int i) hxi, _, rfl, _, rfl, b, _, _, _, rfl, rfl, same_sqt s5 hb, at_of (zero_add_int i) hyi, _, _, d1, rfl, dp_same s5 _ _ k1, dp_same s5 _ _ k2, plns_get hps e1, by omega, fun H6 s6 => ⟨_, rfl, iteF (kF _ s6 hacc)⟩⟩
      · intro acc H4 s4 hD hacc
        have hacc : acc = [] := hacc
        subst hacc
        refine ⟨(by show 0 ≤ sizeLine; omega), fun e0 ne0 => ⟨.list [], .list [], .lst (.of (by rw [upd_ne (ne_of_none hD ne0)]; exact hD)) .nil, .lst (.of upd_same) .nil, by decide +kernel, by decide +kernel, kk _ ((s2.trans s4).trans (same_new (Same.refl _) ne0))⟩⟩
    | int i =>
      refine ⟨_, pss_cons (ps_if (pt_val (pe_isi2 T (pv 1))) (pss_cons ps_never (pss_cons ps_never (pss_one ps_never))) pss_nil)
        (pss_cons (ps_if (PW.pt (pw_or (pt_cmpR op_isN (pv 1) pe_non rfl) (pw_or1 (pt_val (pe_isi T (pv 1) T.str boot_str))))) (pss_one ps_never) pss_nil)
        (pss_one (ps_ret (pe_and (pe_isi T (pv 0) T.int boot_int) (pe_and (pe_cmpR op_eq (pe_isi T (pv 0) T.bool boot_bool) (pe_isi T (pv 1) T.bool boot_bool) (nomark _)) (pe_one (pe_cmpR op_eq (pv 0) (pv 1) (nomark _)))))))), ?_⟩
      obtain rfl := dp_int hx
      obtain rfl := dp_int hy
      refine ⟨_, rfl, h2z, fun p np => ⟨_, false, upd_same, .base (.int i), kit_tl_int, _, rfl, iteF ?_⟩⟩
      refine ⟨_, rfl, rfl, _, rfl, iteF ⟨_, rfl, "int", false, .base (.int i), by decide +kernel, _, rfl, iteF ?_⟩⟩
      refine ⟨_, rfl, "int", true, .base (.int i), by decide +kernel, _, rfl, iteT ⟨_, rfl, "int", false, .base (.int i), by decide +kernel, _, rfl, "int", false, .base (.int i), by decide +kernel, rfl, _, rfl, iteT ⟨_, rfl, _, rfl, rfl, ?_⟩⟩⟩
      rw [decide_eq_true rfl]
      exact kk _ (same_new (Same.refl _) np)
    | str z =>
      refine ⟨_, pss_cons (ps_if (pt_val (pe_isi2 T (pv 1))) (pss_cons ps_never (pss_cons ps_never (pss_one ps_never))) pss_nil)
        (pss_cons (ps_if (PW.pt (pw_or (pt_cmpR op_isN (pv 1) pe_non rfl) (pw_or1 (pt_val (pe_isi T (pv 1) T.str boot_str))))) (pss_one (ps_ret (pe_and (pe_cmpR op_eq (pv 0) (pv 1) (nomark _)) (pe_one (pe_cmpR op_eq (pe_isi T (pv 0) T.str boot_str) (pe_isi T (pv 1) T.str boot_str) (nomark _)))))) pss_nil)
        (pss_one ps_never)), ?_⟩
      cases hx
      cases hy
      refine ⟨_, rfl, h2z, fun p np => ⟨_, false, upd_same, .base (.str z), kit_tl_str, _, rfl, iteF ?_⟩⟩
      refine ⟨_, rfl, rfl, _, rfl, iteF ⟨_, rfl, "str", true, .base (.str z), by decide +kernel, _, rfl, iteT ?_⟩⟩
      refine ⟨_, rfl, _, rfl, rfl, _, rfl, ?_⟩
      rw [decide_eq_true rfl]
      exact iteT ⟨_, rfl, "str", true, .base (.str z), by decide +kernel, _, rfl, "str", true, .base (.str z), by decide +kernel, rfl, kk _ (same_new (Same.refl _) np)⟩
    | none => cases hp
    | bool b => cases hp
    | list ds => cases hp
    | dict ds => cases hp
theorem ok_alike (T : Txt K mg w) : ∀ n, Dn P w K mg base CX0 (n + 1) "_law_alike" ["_law_found", "_law_due"] (spAlike K n)
  | 0 => alike_step T 0 fun m e => by omega
  | n + 1 => alike_step T (n + 1) fun m e => by
    have e : m = n := by omega
    subst e
    exact ok_alike T m
end
end Kw
set_option linter.all false
/-! The plain law, part 6: the catalogs that the law makes. -/
namespace Km
theorem nd_at {l : List W} (nd : l.Nodup) {i j : Nat} {x : W} (hi : l[i]? = some x) (hj : l[j]? = some x) : i = j := by
  obtain ⟨i1, e1⟩ := List.getElem?_eq_some_iff.mp hi
  obtain ⟨j1, e2⟩ := List.getElem?_eq_some_iff.mp hj
  have p := List.pairwise_iff_getElem.mp nd
  rcases Nat.lt_trichotomy i j with h | h | h
  · exact absurd (e1.trans e2.symm) (p i j i1 j1 h)
  · exact h
  · exact absurd (e2.trans e1.symm) (p j i j1 i1 h)
def east : W := [101, 97, 115, 116]
def west : W := [119, 101, 115, 116]
def hill : W := [104, 105, 108, 108]
def rows1 (ws : List W) : List Row := ws.map fun u => [.inl u]
def mkQ (hs gs is : List W) (L S : List Row) : Ps
  | 0 => rows1 hs
  | 1 => rows1 gs
  | 2 => rows1 is
  | 3 => L
  | 4 => S
  | _ => []
theorem names_rows1 (ws : List W) : (rows1 ws).map nameOf = ws := by
  unfold rows1
  rw [List.map_map]
  conv => rhs; rw [← List.map_id ws]
  rfl
/-- the lanes so far: house i's, up to region j -/
def Lns (hs gs : List W) (i j : Nat) (L : List Row) : Prop :=
  (∀ r ∈ L, ∃ (i' j' : Nat) (h g : W) (a b p : Int), hs[i']? = some h ∧ gs[j']? = some g ∧ (i' < i ∨ (i' = i ∧ j' < j)) ∧ r = [.inl h, .inl g, .inr a, .inr b, .inr p] ∧ 0 ≤ a ∧ a ≤ b ∧ b ≤ 9 ∧ 0 ≤ p ∧ p ≤ 99) ∧
    (L.map (List.take 2)).Nodup ∧ L.length ≤ i * gs.length + j
theorem lns0 (hs gs : List W) : Lns hs gs 0 0 [] := ⟨fun r hr => by simp at hr, List.nodup_nil, Nat.zero_le _⟩
theorem lns_skip {hs gs : List W} {i j : Nat} {L : List Row} (h : Lns hs gs i j L) : Lns hs gs i (j + 1) L := by
  obtain ⟨h1, h2, h3⟩ := h
  refine ⟨fun r hr => ?_, h2, by omega⟩
  obtain ⟨i', j', u, g, a, b, p, e1, e2, e3, e4⟩ := h1 r hr
  exact ⟨i', j', u, g, a, b, p, e1, e2, by omega, e4⟩
theorem lns_next {hs gs : List W} {i : Nat} {L : List Row} (h : Lns hs gs i gs.length L) : Lns hs gs (i + 1) 0 L := by
  obtain ⟨h1, h2, h3⟩ := h
  refine ⟨fun r hr => ?_, h2, by rw [Nat.succ_mul]; omega⟩
  obtain ⟨i', j', u, g, a, b, p, e1, e2, e3, e4⟩ := h1 r hr
  exact ⟨i', j', u, g, a, b, p, e1, e2, by omega, e4⟩
theorem lns_put {hs gs : List W} (nh : hs.Nodup) (ng : gs.Nodup) {i j : Nat} {h g : W} {a b p : Int} {L : List Row} (hL : Lns hs gs i j L) (eh : hs[i]? = some h) (eg : gs[j]? = some g) (h0 : 0 ≤ a) (h1 : a ≤ b) (h2 : b ≤ 9) (h3 : 0 ≤ p) (h4 : p ≤ 99) :
    Lns hs gs i (j + 1) (L ++ [[.inl h, .inl g, .inr a, .inr b, .inr p]]) := by
  obtain ⟨k1, k2, k3⟩ := lns_skip hL
  refine ⟨fun r hr => ?_, ?_, by rw [List.length_append]; have := hL.2.2; simp; omega⟩
  · rcases List.mem_append.mp hr with hr | hr
    · exact k1 r hr
    · rw [List.mem_singleton] at hr
      exact ⟨i, j, h, g, a, b, p, eh, eg, by omega, hr, h0, h1, h2, h3, h4⟩
  · rw [List.map_append]
    refine nodup_snoc k2 fun hm => ?_
    obtain ⟨r, hr, e⟩ := List.mem_map.mp hm
    obtain ⟨i', j', u, v, a', b', p', e1, e2, e3, rfl, _⟩ := hL.1 r hr
    have e : ([.inl u, .inl v] : Row) = [.inl h, .inl g] := e
    injection e with e5 e6
    injection e6 with e6 _
    injection e5 with e5
    injection e6 with e6
    rw [e5] at e1
    rw [e6] at e2
    have x1 := nd_at nh e1 eh
    have x2 := nd_at ng e2 eg
    omega
def sname (k : Nat) : W := 115 :: dig k
/-- the supplies so far -/
def Sps (hs is : List W) (n : Nat) (S : List Row) : Prop :=
  S.map nameOf = (List.range n).map sname ∧ ∀ r ∈ S, ∃ (s h i : W) (d c : Int), r = [.inl s, .inl h, .inl i, .inr d, .inr c] ∧ isName s = true ∧ h ∈ hs ∧ i ∈ is ∧ 0 ≤ d ∧ d ≤ 60 ∧ 0 ≤ c ∧ c ≤ 99
theorem sname_ok : ∀ k, k < 6 → isName (sname k) = true := by decide
theorem snames_nd : ∀ n, n < 7 → ((List.range n).map sname).Nodup := by decide
theorem sps0 (hs is : List W) : Sps hs is 0 [] := ⟨rfl, fun r hr => by simp at hr⟩
theorem sps_put {hs is : List W} {n : Nat} {S : List Row} {h i : W} {d c : Int} (hS : Sps hs is n S) (hn : n < 6) (hh : h ∈ hs) (hi : i ∈ is) (h0 : 0 ≤ d) (h1 : d ≤ 60) (h2 : 0 ≤ c) (h3 : c ≤ 99) :
    Sps hs is (n + 1) (S ++ [[.inl (sname n), .inl h, .inl i, .inr d, .inr c]]) := by
  refine ⟨?_, fun r hr => ?_⟩
  · rw [List.map_append, hS.1, List.range_succ, List.map_append]
    rfl
  · rcases List.mem_append.mp hr with hr | hr
    · exact hS.2 r hr
    · rw [List.mem_singleton] at hr
      exact ⟨sname n, h, i, d, c, hr, sname_ok n hn, hh, hi, h0, h1, h2, h3⟩
theorem mkQ_valid {hs gs is : List W} {L S : List Row} {n : Nat} (h1 : ∀ u ∈ hs, isName u = true) (h2 : ∀ u ∈ gs, isName u = true) (h3 : ∀ u ∈ is, isName u = true) (d1 : hs.Nodup) (d2 : gs.Nodup) (d3 : is.Nodup) (n1 : hs ≠ []) (n2 : gs ≠ []) (n3 : is ≠ [])
    (l1 : hs.length ≤ 3) (l2 : gs.length ≤ 2) (l3 : is.length ≤ 3) (hL : Lns hs gs hs.length 0 L) (hS : Sps hs is n S) (hn : n < 6) : Valid (mkQ hs gs is L S) where
  nm := fun k hk r hr => by
    have one : ∀ ws : List W, (∀ u ∈ ws, isName u = true) → r ∈ rows1 ws → ∃ u, r = [.inl u] ∧ isName u = true := fun ws hw hr => by
      obtain ⟨u, hu, rfl⟩ := List.mem_map.mp hr
      exact ⟨u, rfl, hw u hu⟩
    match k, hk, hr with
    | 0, _, hr => exact one hs h1 hr
    | 1, _, hr => exact one gs h2 hr
    | 2, _, hr => exact one is h3 hr
  nd := fun k hk => by
    match k, hk with
    | 0, _ =>
      show ((rows1 hs).map nameOf).Nodup
      rw [names_rows1]
      exact d1
    | 1, _ =>
      show ((rows1 gs).map nameOf).Nodup
      rw [names_rows1]
      exact d2
    | 2, _ =>
      show ((rows1 is).map nameOf).Nodup
      rw [names_rows1]
      exact d3
  ln := fun r hr => by
    obtain ⟨i', j', u, v, a, b, p, e1, e2, _, e4, r⟩ := hL.1 r hr
    refine ⟨u, v, a, b, p, e4, ?_, ?_, r⟩
    · show u ∈ (rows1 hs).map nameOf
      rw [names_rows1]
      exact List.mem_of_getElem? e1
    · show v ∈ (rows1 gs).map nameOf
      rw [names_rows1]
      exact List.mem_of_getElem? e2
  lnd := hL.2.1
  sp := fun r hr => by
    obtain ⟨s, h, i, d, c, e, e0, e1, e2, r⟩ := hS.2 r hr
    refine ⟨s, h, i, d, c, e, e0, ?_, ?_, r⟩
    · show h ∈ (rows1 hs).map nameOf
      rw [names_rows1]
      exact e1
    · show i ∈ (rows1 is).map nameOf
      rw [names_rows1]
      exact e2
  snd := by
    show (S.map nameOf).Nodup
    rw [hS.1]
    exact snames_nd n (by omega)
  rm := fun k hk => by
    have hl : ∀ ws : List W, (rows1 ws).length = ws.length := fun ws => List.length_map ..
    match k, hk with
    | 0, _ =>
      show (rows1 hs).length ≤ 5
      rw [hl]
      omega
    | 1, _ =>
      show (rows1 gs).length ≤ 5
      rw [hl]
      omega
    | 2, _ =>
      show (rows1 is).length ≤ 5
      rw [hl]
      omega
    | 3, _ =>
      show L.length ≤ 20
      have := hL.2.2
      have h6 : hs.length * gs.length ≤ 3 * 2 := Nat.mul_le_mul l1 l2
      omega
    | 4, _ =>
      show S.length ≤ 14
      have := congrArg List.length hS.1
      rw [List.length_map, List.length_map, List.length_range] at this
      omega
  ne := fun k hk => by
    have one : ∀ ws : List W, ws ≠ [] → rows1 ws ≠ [] := fun ws hw z => hw (List.map_eq_nil_iff.mp z)
    match k, hk with
    | 0, _ => exact one hs n1
    | 1, _ => exact one gs n2
    | 2, _ => exact one is n3
theorem mkQ_names (hs gs is : List W) (L S : List Row) : names (mkQ hs gs is L S) 0 = hs ∧ names (mkQ hs gs is L S) 1 = gs ∧ names (mkQ hs gs is L S) 2 = is := ⟨names_rows1 hs, names_rows1 gs, names_rows1 is⟩
end Km
set_option Elab.async false
set_option linter.all false
set_option maxRecDepth 100000
set_option maxHeartbeats 800000
/-! The walk, part 22: the law's catalog. -/
namespace Kw
open PySem PySem.Spec PyProof.Rows L2 Km
theorem mk_app (a b : W) : mk a ++ mk b = mk (a ++ b) := by
  refine TL.ext_tl ?_
  rw [TL.tl_append, tl_mk', tl_mk', tl_mk']
theorem s_eq : (Str.ofString "s") = mk [115] := by decide +kernel
theorem east_eq : V.str "east" = sv east := by rw [sv]; decide +kernel
theorem west_eq : V.str "west" = sv west := by rw [sv]; decide +kernel
theorem hill_eq : V.str "hill" = sv hill := by rw [sv]; decide +kernel
theorem ra_eq : V.str "ra" = sv ra := by rw [sv]; decide +kernel
theorem rb_eq : V.str "rb" = sv rb := by rw [sv]; decide +kernel
theorem tea_eq : V.str "tea" = sv tea := by rw [sv]; decide +kernel
theorem pot_eq : V.str "pot" = sv pot := by rw [sv]; decide +kernel
theorem cup_eq : V.str "cup" = sv cup := by rw [sv]; decide +kernel
def hs3 : List W := [east, west, hill]
def gs2 : List W := [ra, rb]
def is3 : List W := [tea, pot, cup]
theorem take_ok {l : List W} (r : Nat) (hn : ∀ u ∈ l, isName u = true) (nd : l.Nodup) (h0 : l ≠ []) : (∀ u ∈ l.take (1 + r), isName u = true) ∧ (l.take (1 + r)).Nodup ∧ l.take (1 + r) ≠ [] ∧ (l.take (1 + r)).length ≤ l.length := by
  refine ⟨fun u hu => hn u (List.mem_of_mem_take hu), List.Sublist.nodup (List.take_sublist ..) nd, fun z => ?_, by rw [List.length_take]; omega⟩
  have h1 := List.length_pos_iff.mpr h0
  have := congrArg List.length z
  rw [List.length_take, List.length_nil] at this
  omega
theorem hs3_ok : (∀ u ∈ hs3, isName u = true) ∧ hs3.Nodup ∧ hs3 ≠ [] := by decide
theorem gs2_ok : (∀ u ∈ gs2, isName u = true) ∧ gs2.Nodup ∧ gs2 ≠ [] := by decide
theorem is3_ok : (∀ u ∈ is3, isName u = true) ∧ is3.Nodup ∧ is3 ≠ [] := by decide
theorem sib_free {K : PySem.W.Frag} {a sc p : Addr} {ns : List Int} {H H1 : Hp} (r : RowL K sc ns H1 a) (s : Sib a H H1) (n : H1 p = none) : H p = none := by
  cases h : H p with
  | none => rfl
  | some o =>
    by_cases e : p = a
    · obtain ⟨i, seed, rest, ha, _⟩ := r
      rw [e, ha] at n
      cases n
    · rw [s p o h e] at n
      cases n
theorem row_ne {K : PySem.W.Frag} {a sc p : Addr} {ns : List Int} {H : Hp} (r : RowL K sc ns H a) (n : H p = none) : p ≠ a := fun z => by
  obtain ⟨i, seed, rest, ha, _⟩ := r
  rw [z, ha] at n
  cases n
/-- the law's catalogs -/
structure LawCat (q : Ps) : Prop where
  ok : Valid q
  gs : ∃ r, r < 2 ∧ names q 1 = gs2.take (1 + r)
  is : ∃ r, r < 3 ∧ names q 2 = is3.take (1 + r)
section
variable {P : Program} {w : World} {K : PySem.W.Frag} {mg : Str → Option Value} {base : Heap}
def spLawC (K : PySem.W.Frag) : Sp := fun vs H Q _ => ∃ (a sc : Addr) (ns : List Int), vs = [.ref a] ∧ RowL K sc ns H a ∧ ∀ (q : Ps) (v : V) (H' : Hp), LawCat q → Sib a H H' → RowL K sc ns H' a → Dp K H' v (catD q) → Q v H'
abbrev nmLC : List Str := ["_law_row", "_law_houses", "_law_regions", "_law_items", "_law_lanes", "_law_supplies", "_law_house", "_law_region", "_law_least", "_law_at", "_law_item"]
theorem scLC : FnScope nmLC ["_law_row"] (defScope sLawCat) := ⟨rfl, rfl, rfl, by decide +kernel, rfl, by decide +kernel, by decide +kernel⟩
theorem ok_lawC (T : Txt K mg w) : Dn P w K mg base CX0 3 "_law_catalog" ["_law_row"] (spLawC K) := by
  refine T.dLawC.dn (fun f fd F => F.ok scLC (fun vs H Q E h => ?_) (fun cdv A outer s H vs Q E hr h => ?_)) (fun _ _ _ _ _ _ us hl => match us, hl with | [_], _ => rfl)
  · obtain ⟨a, sc, ns, rfl, _⟩ := h
    rfl
  · obtain ⟨a, sc, ns, rfl, hR, kk⟩ := h
    have hr1 := hr.mono (show 1 ≤ 2 by decide)
    refine ⟨_, pss_cons (ps_par (i := 1) (j := 2) rfl scLC.nd rfl rfl (by decide) rfl rfl
        (pa_cons (pe_slice (sl_tK K) (pe_tup (pa_cons pe_str (pa_cons pe_str (pa_cons pe_str pa_nil)))) po_none (po_some (pe_op op_add pe_int (pe_dn (ok_taken T) hr1 pass0 (pa_cons (pv 0) (pa_cons pe_int pa_nil))))))
        (pa_cons (pe_slice (sl_tK K) (pe_tup (pa_cons pe_str (pa_cons pe_str pa_nil))) po_none (po_some (pe_op op_add pe_int (pe_dn (ok_taken T) hr1 pass0 (pa_cons (pv 0) (pa_cons pe_int pa_nil)))))) pa_nil)) rfl)
      (pss_cons (L2.ps_par3 (i := 3) (j := 4) (l := 5) rfl scLC.nd rfl rfl rfl (by decide) (by decide) (by decide) rfl rfl rfl
        (pa_cons (pe_slice (sl_tK K) (pe_tup (pa_cons pe_str (pa_cons pe_str (pa_cons pe_str pa_nil)))) po_none (po_some (pe_op op_add pe_int (pe_dn (ok_taken T) hr1 pass0 (pa_cons (pv 0) (pa_cons pe_int pa_nil)))))) (pa_cons (pe_lst pa_nil) (pa_cons (pe_lst pa_nil) pa_nil))) rfl)
      (pss_cons (ps_for PassesOwn.never rfl (pi_tup (pv 1)) (pg_name (i := 6) scLC.nd rfl (Or.inl rfl))
        (pss_one (ps_for PassesOwn.never rfl (pi_tup (pv 2)) (pg_name (i := 7) scLC.nd rfl (Or.inl rfl))
          (pss_one (ps_if (pt_cmpR op_gt (pe_dn (ok_taken T) hr1 pass0 (pa_cons (pv 0) (pa_cons pe_int pa_nil))) pe_int (nomark _))
            (pss_cons (ps_set (i := 8) scLC.nd rfl (Or.inl rfl) (pe_dn (ok_taken T) hr1 pass0 (pa_cons (pv 0) (pa_cons pe_int pa_nil))))
            (pss_one (ps_expr (pe_bm PySem.F.plainAttrs_list PySem.F.slot_list_append PySem.F.type_list_append mt_append (pv 4) (pa_cons (pe_tup (pa_cons (pv 6) (pa_cons (pv 7) (pa_cons (pv 8) (pa_cons (pe_op op_add (pv 8) (pe_dn (ok_taken T) hr1 pass0 (pa_cons (pv 0) (pa_cons pe_int pa_nil)))) (pa_cons (pe_dn (ok_taken T) hr1 pass0 (pa_cons (pv 0) (pa_cons pe_int pa_nil))) pa_nil)))))) pa_nil))))) pss_nil)))))
      (pss_cons (ps_for PassesOwn.never rfl (pi_range1 (by rfl) T.range (pa_cons (pe_dn (ok_taken T) hr1 pass0 (pa_cons (pv 0) (pa_cons pe_int pa_nil))) pa_nil)) (pg_name (i := 9) scLC.nd rfl (Or.inl rfl))
        (pss_cons (ps_par (i := 6) (j := 10) rfl scLC.nd rfl rfl (by decide) rfl rfl (pa_cons (pe_dn (ok_pick T) hr pass0 (pa_cons (pv 0) (pa_cons (pe_list1 T (pv 1)) pa_nil))) (pa_cons (pe_dn (ok_pick T) hr pass0 (pa_cons (pv 0) (pa_cons (pe_list1 T (pv 3)) pa_nil))) pa_nil)) rfl)
        (pss_one (ps_expr (pe_bm PySem.F.plainAttrs_list PySem.F.slot_list_append PySem.F.type_list_append mt_append (pv 5) (pa_cons (pe_tup (pa_cons (pe_op op_add_str pe_str (pe_str1 T (pv 9))) (pa_cons (pv 6) (pa_cons (pv 10) (pa_cons (pe_dn (ok_taken T) hr1 pass0 (pa_cons (pv 0) (pa_cons pe_int pa_nil))) (pa_cons (pe_dn (ok_taken T) hr1 pass0 (pa_cons (pv 0) (pa_cons pe_int pa_nil))) pa_nil)))))) pa_nil))))))
      (pss_one (ps_ret (pe_tup (pa_cons (pv 1) (pa_cons (pv 2) (pa_cons (pv 3) (pa_cons (pe_tuple1 T (pv 4)) (pa_cons (pe_tuple1 T (pv 5)) pa_nil)))))))))))
      , ?_⟩
    have z5 : ∀ n, n ≤ 5 → n ≤ sizeLine := fun n h => by rw [sizeLine_eq]; omega
    obtain ⟨ho1, ho2, ho3⟩ := hs3_ok
    obtain ⟨go1, go2, go3⟩ := gs2_ok
    obtain ⟨io1, io2, io3⟩ := is3_ok
    have eh : ([.str "east", .str "west", .str "hill"] : List V) = hs3.map sv := by rw [east_eq, west_eq, hill_eq]; rfl
    have eg : ([.str "ra", .str "rb"] : List V) = gs2.map sv := by rw [ra_eq, rb_eq]; rfl
    have ei : ([.str "tea", .str "pot", .str "cup"] : List V) = is3.map sv := by rw [tea_eq, pot_eq, cup_eq]; rfl
    refine ⟨z5 3 (by omega), fun p1 np1 => ?_⟩
    rw [eh]
    have v1 : Same H (upd H p1 (.tup (hs3.map sv))) := same_new (Same.refl _) np1
    have g1 : (upd H p1 (.tup (hs3.map sv))) p1 = some (.tup (hs3.map sv)) := upd_same
    generalize upd H p1 (.tup (hs3.map sv)) = G1 at v1 g1 ⊢
    have R1 := rowL_same v1 hR
    refine ⟨_, rfl, a, sc, ns, 3, rfl, R1, by omega, by omega, fun r1 H1 hr1' t1 R1' => ⟨_, _, rfl, rfl, _, rfl, slA_take (i := 1 + r1) (.of ((sib_ts R1 t1).tup _ _ g1)) (by omega) fun hp H2 u2 hhp => ?_⟩⟩
    rw [← List.map_take] at hhp
    obtain ⟨h1, h2, h3, h4⟩ := take_ok r1 ho1 ho2 ho3
    have s2 : Sib a H H2 := ((sib_same v1).trans t1).trans (sib_same u2)
    have R2 := rowL_same u2 R1'
    refine ⟨z5 2 (by omega), fun p2 np2 => ?_⟩
    rw [eg]
    have v3 : Same H2 (upd H2 p2 (.tup (gs2.map sv))) := same_new (Same.refl _) np2
    have g3 : (upd H2 p2 (.tup (gs2.map sv))) p2 = some (.tup (gs2.map sv)) := upd_same
    generalize upd H2 p2 (.tup (gs2.map sv)) = G3 at v3 g3 ⊢
    have R3 := rowL_same v3 R2
    refine ⟨_, rfl, a, sc, ns, 2, rfl, R3, by omega, by omega, fun r2 H4 hr2' t4 R4 => ⟨_, _, rfl, rfl, _, rfl, slA_take (i := 1 + r2) (.of ((sib_ts R3 t4).tup _ _ g3)) (by omega) fun gp H5 u5 hgp => ?_⟩⟩
    rw [← List.map_take] at hgp
    obtain ⟨k1, k2, k3, k4⟩ := take_ok r2 go1 go2 go3
    have s5 : Sib a H2 H5 := ((sib_same v3).trans t4).trans (sib_same u5)
    have hhp5 := sqt_ts (sib_ts R2 s5) hhp
    have R5 := rowL_same u5 R4
    refine ⟨_, _, rfl, z5 3 (by omega), fun p3 np3 => ?_⟩
    rw [ei]
    have v6 : Same H5 (upd H5 p3 (.tup (is3.map sv))) := same_new (Same.refl _) np3
    have g6 : (upd H5 p3 (.tup (is3.map sv))) p3 = some (.tup (is3.map sv)) := upd_same
    generalize upd H5 p3 (.tup (is3.map sv)) = G6 at v6 g6 ⊢
    have R6 := rowL_same v6 R5
    refine ⟨_, rfl, a, sc, ns, 3, rfl, R6, by omega, by omega, fun r3 H6 hr3' t6 R6' => ⟨_, _, rfl, rfl, _, rfl, slA_take (i := 1 + r3) (.of ((sib_ts R6 t6).tup _ _ g6)) (by omega) fun ip H7 u7 hip => ?_⟩⟩
    rw [← List.map_take] at hip
    obtain ⟨i1, i2, i3, i4⟩ := take_ok r3 io1 io2 io3
    have s7 : Sib a H5 H7 := ((sib_same v6).trans t6).trans (sib_same u7)
    have ts7 := sib_ts R5 s7
    have hhp7 := sqt_ts ts7 hhp5
    have hgp7 := sqt_ts ts7 hgp
    have R7 := rowL_same u7 R6'
    have S7 : Sib a H H7 := (s2.trans s5).trans s7
    have lh : (hs3.take (1 + r1)).length ≤ 3 := h4
    have lg : (gs2.take (1 + r2)).length ≤ 2 := k4
    have li : (is3.take (1 + r3)).length ≤ 3 := i4
    have eg2 : ∃ r, r < 2 ∧ gs2.take (1 + r2) = gs2.take (1 + r) := ⟨r2, by omega, rfl⟩
    have ei2 : ∃ r, r < 3 ∧ is3.take (1 + r3) = is3.take (1 + r) := ⟨r3, by omega, rfl⟩
    generalize hs3.take (1 + r1) = hs at hhp7 h1 h2 h3 lh
    generalize gs2.take (1 + r2) = gs at hgp7 k1 k2 k3 lg eg2
    generalize is3.take (1 + r3) = is at hip i1 i2 i3 li ei2
    clear hhp hgp hhp5 h4 k4 i4
    refine ⟨z5 0 (by omega), fun la nla => ⟨z5 0 (by omega), fun sa nsa => ⟨_, _, _, rfl, ?_⟩⟩⟩
    have nlaH := sib_free R7 S7 nla
    have laa := row_ne R7 nla
    have w8 : Same H7 (upd H7 la (.lst [])) := same_new (Same.refl _) nla
    have l8 : (upd H7 la (.lst [])) la = some (.lst []) := upd_same
    have R8 := rowL_same w8 R7
    have S8 := S7.trans (sib_same w8)
    have nsaH := sib_free R8 S8 nsa
    have saa := row_ne R8 nsa
    have lsa : la ≠ sa := ne_of_none l8 nsa
    have w9 : Same (upd H7 la (.lst [])) (upd (upd H7 la (.lst [])) sa (.lst [])) := same_new (Same.refl _) nsa
    have l9 := w9 _ _ l8
    have m9 : (upd (upd H7 la (.lst [])) sa (.lst [])) sa = some (.lst []) := upd_same
    have R9 := rowL_same w9 R8
    have S9 := S8.trans (sib_same w9)
    have w10 := w8.trans w9
    have hhp9 := same_sqt w10 hhp7
    have hgp9 := same_sqt w10 hgp7
    have hip9 := same_sqt w10 hip
    generalize upd (upd H7 la (.lst [])) sa (.lst []) = H9 at l9 m9 R9 S9 hhp9 hgp9 hip9 ⊢
    clear w10 w9 w8 l8 R8 S8 nla nsa hhp7 hgp7 hip R7 S7 s7 ts7
    refine ⟨_, rfl, hp, rfl, ⟨_, hhp9⟩, ?_⟩
    -- the state of the loops
    refine for_it (walk_tup (xs := hs.map sv)) (fun i σ H' => ∃ (x6 x7 x8 : Option V) (L : List Km.Row) (xs : List V), σ = [some (.ref a), some (.ref hp), some (.ref gp), some (.ref ip), some (.ref la), some (.ref sa), x6, x7, x8, none, none] ∧ Sib a H H' ∧ RowL K sc ns H' a ∧ TS H9 H' ∧ H' la = some (.lst xs) ∧ H' sa = some (.lst []) ∧ DpAll K H' xs (L.map rowD) ∧ Lns hs gs i 0 L)
      ⟨none, none, none, [], [], rfl, S9, R9, same_ts (Same.refl _), l9, m9, .nil, lns0 hs gs⟩ (fun i σ H' _ ⟨_, _, _, _, _, _, _, _, t', _⟩ => sqt_ts t' hhp9) ?_ ?_
    · rintro i y σ H10 H10' hi ⟨x6, x7, x8, L, xs, rfl, S10, R10, t10, l10, m10, d10, hL⟩ ⟨rfl, hy⟩
      rw [List.getElem?_map] at hy
      obtain ⟨h, hh, rfl⟩ := Option.map_eq_some_iff.mp hy
      refine ⟨_, rfl, gp, rfl, ⟨_, sqt_ts t10 hgp9⟩, ?_⟩
      refine for_it (walk_tup (xs := gs.map sv)) (fun j σ H' => ∃ (x7 x8 : Option V) (L : List Km.Row) (xs : List V), σ = [some (.ref a), some (.ref hp), some (.ref gp), some (.ref ip), some (.ref la), some (.ref sa), some (sv h), x7, x8, none, none] ∧ Sib a H H' ∧ RowL K sc ns H' a ∧ TS H9 H' ∧ H' la = some (.lst xs) ∧ H' sa = some (.lst []) ∧ DpAll K H' xs (L.map rowD) ∧ Lns hs gs i j L)
        ⟨x7, x8, L, xs, rfl, S10, R10, t10, l10, m10, d10, hL⟩ (fun j σ H' _ ⟨_, _, _, _, _, _, _, t', _⟩ => sqt_ts t' hgp9) ?_ ?_
      · rintro j y σ H11 H11' hj ⟨x7, x8, L, xs, rfl, S11, R11, t11, l11, m11, d11, hL⟩ ⟨rfl, hy⟩
        rw [List.getElem?_map] at hy
        obtain ⟨g, hg, rfl⟩ := Option.map_eq_some_iff.mp hy
        refine ⟨_, rfl, a, sc, ns, 4, rfl, R11, by omega, by omega, fun q1 H12 hq1 s12 R12 => ⟨_, _, rfl, rfl, _, rfl, ?_⟩⟩
        have t12 := sib_ts R11 s12
        have dd12 := dps_ts t12 _ _ (tupOnly_rows L) d11
        by_cases hpos : 0 < q1
        · rw [decide_eq_true (show (0 : Int) < (q1 : Int) by omega)]
          refine iteT ⟨_, rfl, a, sc, ns, 3, rfl, R12, by omega, by omega, fun q2 H13 hq2 s13 R13 => ?_⟩
          have s13' := s12.trans s13
          refine ⟨_, rfl, .inl ⟨rfl, _, .of (s13' _ _ l11 laa)⟩, _, rfl, _, rfl, _, rfl, _, rfl, _, rfl, a, sc, ns, 3, rfl, R13, by omega, by omega, fun q3 H14 hq3 s14 R14 => ⟨_, _, rfl, rfl, _, rfl, a, sc, ns, 6, rfl, R14, by omega, by omega, fun q4 H15 hq4 s15 R15 => ⟨z5 5 (by omega), fun tp ntp => ?_⟩⟩⟩
          have s15' := (s13'.trans s14).trans s15
          have t15 := sib_ts R11 s15'
          have l15 := s15' _ _ l11 laa
          have m15 := s15' _ _ m11 saa
          have d15 := dps_ts t15 _ _ (tupOnly_rows L) d11
          have n16 : Same H15 (upd H15 tp (.tup [sv h, sv g, .int (q2 : Nat), .int ((q2 : Int) + (q3 : Int)), .int (q4 : Nat)])) := same_new (Same.refl _) ntp
          have g16 : (upd H15 tp (.tup [sv h, sv g, .int (q2 : Nat), .int ((q2 : Int) + (q3 : Int)), .int (q4 : Nat)])) tp = some (.tup (([.inl h, .inl g, .inr q2, .inr ((q2 : Int) + (q3 : Int)), .inr q4] : Km.Row).map fV)) := upd_same
          generalize upd H15 tp (.tup [sv h, sv g, .int (q2 : Nat), .int ((q2 : Int) + (q3 : Int)), .int (q4 : Nat)]) = H16 at n16 g16
          have l16 := n16 _ _ l15
          have S16 := (S11.trans s15').trans (sib_same n16)
          have R16 := rowL_same n16 R15
          have t17 : TS H16 (upd H16 la (.lst (xs ++ [.ref tp]))) := ts_lst l16
          have llen : xs.length < sizeLine := by
            have e1 := dpAll_len d15
            rw [List.length_map] at e1
            have e2 := hL.2.2
            have hi3 : i < 3 := by
              rw [List.length_map] at hi
              omega
            have hj2 : j < 2 := by
              rw [List.length_map] at hj
              omega
            have e3 : i * gs.length ≤ 3 * 2 := Nat.mul_le_mul (by omega) lg
            rw [sizeLine_eq]
            omega
          refine ⟨la, xs, .ref tp, rfl, rfl, l16, llen, _, _, L ++ [[.inl h, .inl g, .inr q2, .inr ((q2 : Int) + (q3 : Int)), .inr q4]], xs ++ [.ref tp], rfl, sib_set2 S16 nlaH, rowL_upd hR S16 nlaH R16, ((t11.trans t15).trans (same_ts n16)).trans t17, upd_same, by rw [upd_ne lsa.symm]; exact n16 _ _ m15, ?_, lns_put h2 k2 hL hh hg (by omega) (by omega) (by omega) (by omega) (by omega)⟩
          rw [List.map_append]
          refine dps_ts t17 _ _ ?_ (dpAll_snoc (dps_same n16 _ _ d15) (.tup (.of g16) (flds_dpAll _)))
          have := tupOnly_rows (L ++ [[.inl h, .inl g, .inr q2, .inr ((q2 : Int) + (q3 : Int)), .inr q4]])
          rw [List.map_append] at this
          exact this
        · rw [decide_eq_false (show ¬ (0 : Int) < (q1 : Int) by omega)]
          exact iteF ⟨_, _, L, xs, rfl, S11.trans s12, R12, t11.trans t12, s12 _ _ l11 laa, s12 _ _ m11 saa, dd12, lns_skip hL⟩
      · rintro σ H11 ⟨x7, x8, L, xs, rfl, S11, R11, t11, l11, m11, d11, hL⟩
        rw [List.length_map] at hL
        exact ⟨_, _, _, L, xs, rfl, S11, R11, t11, l11, m11, d11, lns_next hL⟩
    · rintro σ H10 ⟨x6, x7, x8, L, xs, rfl, S10, R10, t10, l10, m10, d10, hL⟩
      rw [List.length_map] at hL
      refine ⟨_, rfl, a, sc, ns, 6, rfl, R10, by omega, by omega, fun q0 H11 hq0 s11 R11 => ⟨_, rfl, by omega, by omega, ?_⟩⟩
      have t11 := sib_ts R10 s11
      refine for_it (walk_range) (fun m σ H' => ∃ (x6 x7 x8 x9 x10 : Option V) (S : List Km.Row) (ys : List V), σ = [some (.ref a), some (.ref hp), some (.ref gp), some (.ref ip), some (.ref la), some (.ref sa), x6, x7, x8, x9, x10] ∧ Sib a H H' ∧ RowL K sc ns H' a ∧ TS H9 H' ∧ H' la = some (.lst xs) ∧ H' sa = some (.lst ys) ∧ DpAll K H' xs (L.map rowD) ∧ DpAll K H' ys (S.map rowD) ∧ Sps hs is m S)
        ⟨_, _, _, _, _, [], [], rfl, S10.trans s11, R11, t10.trans t11, s11 _ _ l10 laa, s11 _ _ m10 saa, dps_ts t11 _ _ (tupOnly_rows L) d10, .nil, sps0 hs is⟩ (fun _ _ _ _ _ => trivial) ?_ ?_
      · rintro m y σ H12' H12 hm ⟨x6, x7, x8, x9, x10, S, ys, rfl, S12, R12, t12, l12, m12, d12, e12, hS⟩ ⟨rfl, rfl⟩
        rw [Int.toNat_natCast] at hm
        have hm6 : m < 6 := by omega
        refine ⟨_, rfl, _, rfl, hp, _, rfl, .inr (sqt_ts t12 hhp9), fun l1 nl1 => ?_⟩
        have n13 : Same H12 (upd H12 l1 (.lst (hs.map sv))) := same_new (Same.refl _) nl1
        refine ⟨a, l1, sc, ns, _, rfl, rowL_same n13 R12, upd_same, row_ne R12 nl1, (fun z => h3 (List.map_eq_nil_iff.mp z)), by rw [List.length_map]; omega, fun j v H14 hj s14 R14 => ?_⟩
        rw [List.getElem?_map] at hj
        obtain ⟨h, hh, rfl⟩ := Option.map_eq_some_iff.mp hj
        have s14' := (sib_same n13).trans s14
        have t14 := sib_ts R12 s14'
        refine ⟨_, rfl, _, rfl, ip, _, rfl, .inr (sqt_ts (t12.trans t14) hip9), fun l2 nl2 => ?_⟩
        have n15 : Same H14 (upd H14 l2 (.lst (is.map sv))) := same_new (Same.refl _) nl2
        refine ⟨a, l2, sc, ns, _, rfl, rowL_same n15 R14, upd_same, row_ne R14 nl2, (fun z => i3 (List.map_eq_nil_iff.mp z)), by rw [List.length_map]; omega, fun j2 v H16 hj2 s16 R16 => ?_⟩
        rw [List.getElem?_map] at hj2
        obtain ⟨it, hit, rfl⟩ := Option.map_eq_some_iff.mp hj2
        have s16' := s14'.trans ((sib_same n15).trans s16)
        refine ⟨_, _, rfl, ?_⟩
        refine ⟨_, rfl, .inl ⟨rfl, _, .of (s16' _ _ m12 saa)⟩, _, rfl, log_small (by omega) (by omega), _, _, rfl, rfl, ?_, _, rfl, _, rfl, _, rfl, a, sc, ns, 6, rfl, R16, by omega, by omega, fun q3 H17 hq3 s17 R17 => ⟨_, rfl, a, sc, ns, 6, rfl, R17, by omega, by omega, fun q4 H18 hq4 s18 R18 => ⟨z5 5 (by omega), fun tp ntp => ?_⟩⟩⟩
        · rw [str_dig (n := 0 + (m : Int)) (by omega) (by omega), s_eq, mk_len, mk_len, sizeLine_eq]
          have := dig_len (0 + (m : Int)).toNat
          show 1 + _ ≤ _
          omega
        · have es : (Str.ofString "s" ++ Str.ofString (toString (0 + (m : Int)))) = mk (sname m) := by
            rw [str_dig (n := 0 + (m : Int)) (by omega) (by omega), s_eq, mk_app, show (0 + (m : Int)).toNat = m by omega]
            rfl
          rw [es]
          have s18' := (s16'.trans s17).trans s18
          have t18 := sib_ts R12 s18'
          have l18 := s18' _ _ l12 laa
          have m18 := s18' _ _ m12 saa
          have d18 := dps_ts t18 _ _ (tupOnly_rows L) d12
          have e18 := dps_ts t18 _ _ (tupOnly_rows S) e12
          have n19 : Same H18 (upd H18 tp (.tup [.str (mk (sname m)), sv h, sv it, .int (q3 : Nat), .int (q4 : Nat)])) := same_new (Same.refl _) ntp
          have g19 : (upd H18 tp (.tup [.str (mk (sname m)), sv h, sv it, .int (q3 : Nat), .int (q4 : Nat)])) tp = some (.tup (([.inl (sname m), .inl h, .inl it, .inr q3, .inr q4] : Km.Row).map fV)) := upd_same
          generalize upd H18 tp (.tup [.str (mk (sname m)), sv h, sv it, .int (q3 : Nat), .int (q4 : Nat)]) = H19 at n19 g19
          have m19 := n19 _ _ m18
          have S19 := (S12.trans s18').trans (sib_same n19)
          have R19 := rowL_same n19 R18
          have t20 : TS H19 (upd H19 sa (.lst (ys ++ [.ref tp]))) := ts_lst m19
          have llen : ys.length < sizeLine := by
            have e1 := dpAll_len e18
            have e2 := congrArg List.length hS.1
            rw [List.length_map] at e1
            rw [List.length_map, List.length_map, List.length_range] at e2
            rw [sizeLine_eq]
            omega
          refine ⟨sa, ys, .ref tp, rfl, rfl, m19, llen, _, _, _, _, _, S ++ [[.inl (sname m), .inl h, .inl it, .inr q3, .inr q4]], ys ++ [.ref tp], rfl, sib_set2 S19 nsaH, rowL_upd hR S19 nsaH R19, ((t12.trans t18).trans (same_ts n19)).trans t20, by rw [upd_ne lsa]; exact n19 _ _ l18, upd_same, dps_ts t20 _ _ (tupOnly_rows L) (dps_same n19 _ _ d18), ?_, sps_put hS hm6 (List.mem_of_getElem? hh) (List.mem_of_getElem? hit) (by omega) (by omega) (by omega) (by omega)⟩
          rw [List.map_append]
          refine dps_ts t20 _ _ ?_ (dpAll_snoc (dps_same n19 _ _ e18) (.tup (.of g19) (flds_dpAll _)))
          have := tupOnly_rows (S ++ [[.inl (sname m), .inl h, .inl it, .inr q3, .inr q4]])
          rw [List.map_append] at this
          exact this
      · rintro σ H12 ⟨x6, x7, x8, x9, x10, S, ys, rfl, S12, R12, t12, l12, m12, d12, e12, hS⟩
        rw [Int.toNat_natCast] at hS
        refine ⟨_, rfl, _, rfl, _, rfl, _, rfl, la, xs, rfl, .of l12, fun t4 n4 => ?_⟩
        have n13 : Same H12 (upd H12 t4 (.tup xs)) := same_new (Same.refl _) n4
        have g13 : (upd H12 t4 (.tup xs)) t4 = some (.tup xs) := upd_same
        generalize upd H12 t4 (.tup xs) = H13 at n13 g13
        refine ⟨_, rfl, sa, ys, rfl, .of (n13 _ _ m12), fun t5 n5 => ?_⟩
        have n14 : Same H13 (upd H13 t5 (.tup ys)) := same_new (Same.refl _) n5
        have g14 : (upd H13 t5 (.tup ys)) t5 = some (.tup ys) := upd_same
        generalize upd H13 t5 (.tup ys) = H14 at n14 g14
        refine ⟨z5 5 (by omega), fun tp ntp => ?_⟩
        have n15 : Same H14 (upd H14 tp (.tup [.ref hp, .ref gp, .ref ip, .ref t4, .ref t5])) := same_new (Same.refl _) ntp
        have nn := (n13.trans n14).trans n15
        have tt := t12.trans (same_ts nn)
        obtain ⟨q1, q2, q3⟩ := mkQ_names hs gs is L S
        have VQ := mkQ_valid h1 k1 i1 h2 k2 i2 h3 k3 i3 lh lg li hL hS (by omega)
        refine kk (mkQ hs gs is L S) _ _ ⟨VQ, by rw [q2]; exact eg2, by rw [q3]; exact ei2⟩ (S12.trans (sib_same nn)) (rowL_same nn R12) ?_
        unfold catD
        rw [q1, q2, q3]
        exact .tup (.of upd_same) (.cons (.tup (sqt_ts tt hhp9) (strs_dpAll _)) (.cons (.tup (sqt_ts tt hgp9) (strs_dpAll _)) (.cons (.tup (sqt_ts tt hip9) (strs_dpAll _)) (.cons (.tup (.of (n15 _ _ (n14 _ _ g13))) (dps_same nn _ _ d12)) (.cons (.tup (.of (n15 _ _ g14)) (dps_same nn _ _ e12)) .nil)))))
end
end Kw
set_option Elab.async false
set_option linter.all false
set_option maxRecDepth 100000
set_option maxHeartbeats 800000
/-! The walk, part 23: the law's order. -/
namespace Kw
open PySem PySem.Spec PyProof.Rows L2 Km
theorem seqIx {r n : Nat} (h : r < n) : seqIndex? (r : Int) n = some r := by
  refine (ixN_seq ?_).1
  unfold ixN
  rw [if_pos (by omega), if_pos (by omega)]
  rfl
theorem erase_map (ws : List W) (k : Nat) : (ws.map sv).eraseIdx k = (ws.eraseIdx k).map sv := by
  rw [List.eraseIdx_eq_take_drop_succ, List.eraseIdx_eq_take_drop_succ, List.map_append, List.map_take, List.map_drop]
theorem erase_mem {ws : List W} (nd : ws.Nodup) {k : Nat} {x y : W} (hk : ws[k]? = some x) (hy : y ∈ ws.eraseIdx k) : y ∈ ws ∧ y ≠ x := by
  rw [List.eraseIdx_eq_take_drop_succ] at hy
  rcases List.mem_append.mp hy with h | h
  · refine ⟨List.mem_of_mem_take h, fun e => ?_⟩
    subst e
    obtain ⟨i, hi⟩ := List.mem_iff_getElem?.mp h
    rw [List.getElem?_take] at hi
    by_cases hik : i < k
    · rw [if_pos hik] at hi
      have := nd_at nd hi hk
      omega
    · rw [if_neg hik] at hi
      cases hi
  · refine ⟨List.mem_of_mem_drop h, fun e => ?_⟩
    subst e
    obtain ⟨i, hi⟩ := List.mem_iff_getElem?.mp h
    rw [List.getElem?_drop] at hi
    have := nd_at nd hi hk
    omega
theorem okWish_one {items : List W} (ni : ∀ u ∈ items, isName u = true) {x : W} {c : Nat} (hx : x ∈ items) (hc : c < 4) : OkWish items ([x], 1 + (c : Int)) where
  n1 := Nat.le_refl _
  n3 := by
    show 1 ≤ 3
    omega
  nm := fun i hi => by
    rw [List.mem_singleton.mp hi]
    exact ni _ hx
  mem := fun i hi => by
    rw [List.mem_singleton.mp hi]
    exact hx
  nd := by simp
  c1 := by
    show (1 : Int) ≤ 1 + (c : Int)
    omega
  c99 := by
    show 1 + (c : Int) ≤ 99
    omega
theorem okWish_two {items : List W} (ni : ∀ u ∈ items, isName u = true) {x y : W} {c : Nat} (hx : x ∈ items) (hy : y ∈ items) (hne : y ≠ x) (hc : c < 4) : OkWish items ([x, y], 1 + (c : Int)) where
  n1 := by
    show 1 ≤ 2
    omega
  n3 := by
    show 2 ≤ 3
    omega
  nm := fun i hi => by
    simp only [List.mem_cons, List.mem_nil_iff, or_false] at hi
    rcases hi with rfl | rfl
    · exact ni _ hx
    · exact ni _ hy
  mem := fun i hi => by
    simp only [List.mem_cons, List.mem_nil_iff, or_false] at hi
    rcases hi with rfl | rfl
    · exact hx
    · exact hy
  nd := by
    simp only [List.nodup_cons, List.mem_singleton, List.not_mem_nil, not_false_eq_true, List.nodup_nil, and_true]
    exact fun e => hne e.symm
  c1 := by
    show (1 : Int) ≤ 1 + (c : Int)
    omega
  c99 := by
    show 1 + (c : Int) ≤ 99
    omega
theorem o_eq : V.str "o" = sv [111] := by rw [sv]; decide +kernel
section
variable {P : Program} {w : World} {K : PySem.W.Frag} {mg : Str → Option Value} {base : Heap}
def spLawO (K : PySem.W.Frag) : Sp := fun vs H Q _ => ∃ (a sc : Addr) (ns : List Int) (v : V) (q : Ps), vs = [.ref a, v, .str "o"] ∧ RowL K sc ns H a ∧ Dp K H v (catD q) ∧ Valid q ∧
  ∀ (o : Ord) (z : V) (H' : Hp), OkOrd (names q 1) (names q 2) o → Sib a H H' → RowL K sc ns H' a → Dp K H' z (ordD o) → Q z H'
abbrev nmLO : List Str := ["_law_row", "_law_catalog_here", "_law_name", "_law_wishes", "_law_turn", "_law_items", "_law_first", "_law_chosen"]
theorem scLO : FnScope nmLO ["_law_row", "_law_catalog_here", "_law_name"] (defScope sLawOrd) := ⟨rfl, rfl, rfl, by decide +kernel, rfl, by decide +kernel, by decide +kernel⟩
theorem ok_lawO (T : Txt K mg w) : Dn P w K mg base CX0 3 "_law_order" ["_law_row", "_law_catalog_here", "_law_name"] (spLawO K) := by
  refine T.dLawO.dn (fun f fd F => F.ok scLO (fun vs H Q E h => ?_) (fun cdv A outer s H vs Q E hr h => ?_)) (fun _ _ _ _ _ _ us hl => match us, hl with | [_, _, _], _ => rfl)
  · obtain ⟨a, sc, ns, v, q, rfl, _⟩ := h
    rfl
  · obtain ⟨a, sc, ns, v, q, rfl, hR, hv, VQ, kk⟩ := h
    have hr1 := hr.mono (show 1 ≤ 2 by decide)
    have hu4 := hu64 hr
    refine ⟨_, pss_cons (ps_set (i := 3) scLO.nd rfl (Or.inl rfl) (pe_lst pa_nil))
      (pss_cons (ps_for PassesOwn.never rfl (pi_range1 (by rfl) T.range (pa_cons (pe_op op_add pe_int (pe_dn (ok_taken T) hr1 pass0 (pa_cons (pv 0) (pa_cons pe_int pa_nil)))) pa_nil)) (pg_name (i := 4) scLO.nd rfl (Or.inl rfl))
        (pss_cons (ps_set (i := 5) scLO.nd rfl (Or.inl rfl) (pe_list1 T (pe_ix (ix_tK K) (pv 1) pe_int (fun _ _ => rfl))))
        (pss_cons (ps_set (i := 6) scLO.nd rfl (Or.inl rfl) (pe_bm PySem.F.plainAttrs_list PySem.F.slot_list_pop PySem.F.type_list_pop mt_popAt (pv 5) (pa_cons (pe_dn (ok_taken T) hr1 pass0 (pa_cons (pv 0) (pa_cons (pe_len T (pv 5)) pa_nil))) pa_nil)))
        (pss_cons (ps_set (i := 7) scLO.nd rfl (Or.inl rfl) (pe_ifExp (PW.pt (pw_or (pt_cmpR (op_eqDK K hu4) (pv 5) (pe_lst pa_nil) rfl) (pw_or1 (pt_cmpR op_gt (pe_dn (ok_taken T) hr1 pass0 (pa_cons (pv 0) (pa_cons pe_int pa_nil))) pe_int (nomark _)))))
          (pe_tup (pa_cons (pv 6) pa_nil)) (pe_tup (pa_cons (pv 6) (pa_cons (pe_dn (ok_pick T) hr pass0 (pa_cons (pv 0) (pa_cons (pv 5) pa_nil))) pa_nil)))))
        (pss_one (ps_expr (pe_bm PySem.F.plainAttrs_list PySem.F.slot_list_append PySem.F.type_list_append mt_append (pv 3) (pa_cons (pe_tup (pa_cons (pv 7) (pa_cons (pe_op op_add pe_int (pe_dn (ok_taken T) hr1 pass0 (pa_cons (pv 0) (pa_cons pe_int pa_nil)))) pa_nil))) pa_nil))))))))
      (pss_one (ps_ret (pe_tup (pa_cons (pv 2) (pa_cons (pe_dn (ok_pick T) hr pass0 (pa_cons (pv 0) (pa_cons (pe_list1 T (pe_ix (ix_tK K) (pv 1) pe_int (fun _ _ => rfl))) pa_nil))) (pa_cons (pe_tuple1 T (pv 3)) (pa_cons (pe_dn (ok_taken T) hr1 pass0 (pa_cons (pv 0) (pa_cons pe_int pa_nil))) (pa_cons (pe_dn (ok_taken T) hr1 pass0 (pa_cons (pv 0) (pa_cons pe_int pa_nil))) pa_nil))))))))), ?_⟩
    have z5 : ∀ n, n ≤ 5 → n ≤ sizeLine := fun n h => by rw [sizeLine_eq]; omega
    obtain ⟨c, c0, c1, c2, c3, c4, ls, ss, rfl, hc, p0, p1, p2, p3, d3, p4, d4⟩ := cat_parts hv
    have ni := VQ.toSound.names_ok (k := 2) (by omega)
    have nd2 := VQ.nd 2 (by omega)
    have ne2 : names q 2 ≠ [] := fun z => VQ.ne 2 (by omega) (List.map_eq_nil_iff.mp z)
    have len2 : (names q 2).length ≤ 5 := by
      rw [names_len]
      exact VQ.rm 2 (by omega)
    have ng := VQ.toSound.names_ok (k := 1) (by omega)
    have ne1 : names q 1 ≠ [] := fun z => VQ.ne 1 (by omega) (List.map_eq_nil_iff.mp z)
    have len1 : (names q 1).length ≤ 5 := by
      rw [names_len]
      exact VQ.rm 1 (by omega)
    refine ⟨z5 0 (by omega), fun fa nfaH => ?_⟩
    have n1 : Same H (upd H fa (.lst [])) := same_new (Same.refl _) nfaH
    have f1 : (upd H fa (.lst [])) fa = some (.lst []) := upd_same
    have faa := row_ne hR nfaH
    have R1 := rowL_same n1 hR
    generalize upd H fa (.lst []) = H1 at n1 f1 R1 ⊢
    have hc1 := same_sqt n1 hc
    have p11 := same_sqt n1 p1
    have p21 := same_sqt n1 p2
    refine ⟨_, rfl, a, sc, ns, 2, rfl, R1, by omega, by omega, fun r H2 hr2 s2 R2 => ⟨_, _, rfl, rfl, _, rfl, by omega, by omega, ?_⟩⟩
    have S2 : Sib a H H2 := (sib_same n1).trans s2
    have t2 := sib_ts R1 s2
    have eN : ((1 : Int) + (r : Int)).toNat = 1 + r := by omega
    refine for_it (walk_range) (fun m σ H' => ∃ (x4 x5 x6 x7 : Option V) (us : List Wish) (xs : List V), σ = [some (.ref a), some (.ref c), some (.str "o"), some (.ref fa), x4, x5, x6, x7] ∧ Sib a H H' ∧ RowL K sc ns H' a ∧ TS H1 H' ∧ H' fa = some (.lst xs) ∧ DpAll K H' xs (us.map wishD) ∧ us.length = m ∧ ∀ u ∈ us, OkWish (names q 2) u)
      ⟨_, _, _, _, [], [], rfl, S2, R2, t2, s2 _ _ f1 faa, .nil, rfl, fun u hu => by simp at hu⟩ (fun _ _ _ _ _ => trivial) ?_ ?_
    · rintro m y σ H3' H3 hm ⟨x4, x5, x6, x7, us, xs, rfl, S3, R3, t3, f3, hd, hlen, hok⟩ ⟨rfl, rfl⟩
      rw [eN] at hm
      have llen : xs.length < sizeLine := by
        have := dpAll_len hd
        rw [List.length_map] at this
        rw [sizeLine_eq]
        omega
      refine ⟨_, rfl, c, _, _, _, rfl, rfl, sqt_ts t3 hc1, atI_nat (j := 2) rfl, c2, _, rfl, .inr (sqt_ts t3 p21), fun il nil => ?_⟩
      have nilH := sib_free R3 S3 nil
      have ila := row_ne R3 nil
      have ilf : fa ≠ il := ne_of_none f3 nil
      have n4 : Same H3 (upd H3 il (.lst ((names q 2).map sv))) := same_new (Same.refl _) nil
      have i4 : (upd H3 il (.lst ((names q 2).map sv))) il = some (.lst ((names q 2).map sv)) := upd_same
      generalize upd H3 il (.lst ((names q 2).map sv)) = H4 at n4 i4
      have R4 := rowL_same n4 R3
      have hpos := List.length_pos_iff.mpr ne2
      refine ⟨_, rfl, .inl ⟨rfl, _, .of i4⟩, _, rfl, _, rfl, (names q 2).length, .inl ⟨_, .of i4, (List.length_map ..).symm⟩, a, sc, ns, _, rfl, R4, by omega, by omega, fun k H5 hk s5 R5 => ?_⟩
      have hk' : k < (names q 2).length := by omega
      have hx0 : (names q 2)[k]? = some (names q 2)[k] := List.getElem?_eq_getElem hk'
      generalize (names q 2)[k] = fst at hx0
      have hx1 : ((names q 2).map sv)[k]? = some (sv fst) := by
        rw [List.getElem?_map, hx0]
        rfl
      have i5 := s5 _ _ i4 ila
      refine ⟨il, _, _, k, _, rfl, rfl, i5, by omega, by omega, (by rw [List.length_map]; exact seqIx hk'), hx1, ?_⟩
      rw [erase_map]
      have S5 : Sib a H H5 := (S3.trans (sib_same n4)).trans s5
      have t5 : TS H3 H5 := (same_ts n4).trans (sib_ts R4 s5)
      have f5 := s5 _ _ (n4 _ _ f3) faa
      have hfm : fst ∈ names q 2 := List.mem_of_getElem? hx0
      have t6 : TS H5 (upd H5 il (.lst (((names q 2).eraseIdx k).map sv))) := ts_lst i5
      have R6 : RowL K sc ns (upd H5 il (.lst (((names q 2).eraseIdx k).map sv))) a := rowL_upd hR S5 nilH R5
      have S6 : Sib a H (upd H5 il (.lst (((names q 2).eraseIdx k).map sv))) := sib_set2 S5 nilH
      have i6 : (upd H5 il (.lst (((names q 2).eraseIdx k).map sv))) il = some (.lst (((names q 2).eraseIdx k).map sv)) := upd_same
      have f6 : (upd H5 il (.lst (((names q 2).eraseIdx k).map sv))) fa = some (.lst xs) := by
        rw [upd_ne ilf]
        exact f5
      have hrest : ∀ y ∈ (names q 2).eraseIdx k, y ∈ names q 2 ∧ y ≠ fst := fun y hy => erase_mem nd2 hx0 hy
      have hrl : ((names q 2).eraseIdx k).length ≤ 5 := Nat.le_trans (List.length_eraseIdx_le ..) len2
      generalize upd H5 il (.lst (((names q 2).eraseIdx k).map sv)) = H6 at t6 R6 S6 i6 f6 ⊢
      generalize (names q 2).eraseIdx k = rest at i6 hrest hrl
      have t36 := t5.trans t6
      refine ⟨_, rfl, z5 0 (by omega), fun e0 ne0 => ⟨.list (rest.map dS), .list [], .lst (.of (by rw [upd_ne (ne_of_none i6 ne0)]; exact i6)) (strs_dpAll _), .lst (.of upd_same) .nil, ?_, by decide +kernel, _, rfl, ?_⟩⟩
      · refine sh_list (k := 60) (fun e he => ?_) (by omega)
        obtain ⟨p, hp, rfl⟩ := List.mem_map.mp he
        have := sm_str (okW_name (ni p (hrest p hp).1))
        exact ⟨this.1, Nat.le_trans this.2 (by omega)⟩
      have n7 : Same H6 (upd H6 e0 (.lst [])) := same_new (Same.refl _) ne0
      generalize upd H6 e0 (.lst []) = H7 at n7
      have S7 := S6.trans (sib_same n7)
      have R7 := rowL_same n7 R6
      have t37 := t36.trans (same_ts n7)
      have f7 := n7 _ _ f6
      have i7 := n7 _ _ i6
      rw [eqvs_nil]
      by_cases hr0 : rest = []
      · rw [decide_eq_true (show rest.map dS = [] by rw [hr0]; rfl)]
        refine iteT (iteT ⟨_, rfl, z5 1 (by omega), fun cp ncp => ?_⟩)
        have n20 : Same H7 (upd H7 cp (.tup [sv fst])) := same_new (Same.refl _) ncp
        have g20 : (upd H7 cp (.tup [sv fst])) cp = some (.tup (([fst] : List W).map sv)) := upd_same
        generalize upd H7 cp (.tup [sv fst]) = H20 at n20 g20
        have f20 := n20 _ _ (f7)
        refine ⟨_, rfl, .inl ⟨rfl, _, .of f20⟩, _, rfl, _, rfl, a, sc, ns, 4, rfl, rowL_same n20 R7, by omega, by omega, fun c4 H21 hc4 s21 R21 => ⟨_, _, rfl, rfl, z5 2 (by omega), fun tp ntp => ?_⟩⟩
        have n22 : Same H21 (upd H21 tp (.tup [.ref cp, .int (1 + (c4 : Int))])) := same_new (Same.refl _) ntp
        have g22 : (upd H21 tp (.tup [.ref cp, .int (1 + (c4 : Int))])) tp = some (.tup [.ref cp, .int (1 + (c4 : Int))]) := upd_same
        generalize upd H21 tp (.tup [.ref cp, .int (1 + (c4 : Int))]) = H22 at n22 g22
        have t21 := sib_ts (rowL_same n20 R7) s21
        have t22 : TS H3 H22 := (((t37).trans (same_ts n20)).trans t21).trans (same_ts n22)
        have c22 : H22 cp = some (.tup (([fst] : List W).map sv)) := n22 _ _ (t21.tup _ _ g20)
        have f22 := n22 _ _ (s21 _ _ f20 faa)
        have S22 : Sib a H H22 := (((S7).trans (sib_same n20)).trans s21).trans (sib_same n22)
        have R22 := rowL_same n22 R21
        have t23 : TS H22 (upd H22 fa (.lst (xs ++ [.ref tp]))) := ts_lst f22
        refine ⟨fa, xs, .ref tp, rfl, rfl, f22, llen, _, _, _, _, us ++ [([fst], 1 + (c4 : Int))], xs ++ [.ref tp], rfl, sib_set2 S22 nfaH, rowL_upd hR S22 nfaH R22, (t3.trans t22).trans t23, upd_same, ?_, by rw [List.length_append, hlen]; rfl, fun u hu => ?_⟩
        · rw [List.map_append]
          refine dps_ts t23 _ _ ?_ (dpAll_snoc (dps_ts t22 _ _ (tupOnly_wishes us) hd) (.tup (.of g22) (.cons (.tup (.of c22) (strs_dpAll _)) (.cons (.int _) .nil))))
          have := tupOnly_wishes (us ++ [([fst], 1 + (c4 : Int))])
          rw [List.map_append] at this
          exact this
        · rcases List.mem_append.mp hu with hu | hu
          · exact hok u hu
          · rw [List.mem_singleton] at hu
            subst hu
            exact okWish_one ni hfm (by omega)
      · rw [decide_eq_false (show ¬ rest.map dS = [] from fun z => hr0 (List.map_eq_nil_iff.mp z))]
        refine iteF ⟨_, rfl, a, sc, ns, 3, rfl, R7, by omega, by omega, fun q9 H8 hq9 s8 R8 => ⟨_, _, rfl, rfl, _, rfl, ?_⟩⟩
        have S8 := S7.trans s8
        have t38 := t37.trans (sib_ts R7 s8)
        have f8 := s8 _ _ f7 faa
        have i8 := s8 _ _ i7 ila
        by_cases hq0 : 0 < q9
        · rw [decide_eq_true (show (0 : Int) < (q9 : Int) by omega)]
          refine iteT ⟨_, rfl, z5 1 (by omega), fun cp ncp => ?_⟩
          have n20 : Same H8 (upd H8 cp (.tup [sv fst])) := same_new (Same.refl _) ncp
          have g20 : (upd H8 cp (.tup [sv fst])) cp = some (.tup (([fst] : List W).map sv)) := upd_same
          generalize upd H8 cp (.tup [sv fst]) = H20 at n20 g20
          have f20 := n20 _ _ (f8)
          refine ⟨_, rfl, .inl ⟨rfl, _, .of f20⟩, _, rfl, _, rfl, a, sc, ns, 4, rfl, rowL_same n20 R8, by omega, by omega, fun c4 H21 hc4 s21 R21 => ⟨_, _, rfl, rfl, z5 2 (by omega), fun tp ntp => ?_⟩⟩
          have n22 : Same H21 (upd H21 tp (.tup [.ref cp, .int (1 + (c4 : Int))])) := same_new (Same.refl _) ntp
          have g22 : (upd H21 tp (.tup [.ref cp, .int (1 + (c4 : Int))])) tp = some (.tup [.ref cp, .int (1 + (c4 : Int))]) := upd_same
          generalize upd H21 tp (.tup [.ref cp, .int (1 + (c4 : Int))]) = H22 at n22 g22
          have t21 := sib_ts (rowL_same n20 R8) s21
          have t22 : TS H3 H22 := (((t38).trans (same_ts n20)).trans t21).trans (same_ts n22)
          have c22 : H22 cp = some (.tup (([fst] : List W).map sv)) := n22 _ _ (t21.tup _ _ g20)
          have f22 := n22 _ _ (s21 _ _ f20 faa)
          have S22 : Sib a H H22 := (((S8).trans (sib_same n20)).trans s21).trans (sib_same n22)
          have R22 := rowL_same n22 R21
          have t23 : TS H22 (upd H22 fa (.lst (xs ++ [.ref tp]))) := ts_lst f22
          refine ⟨fa, xs, .ref tp, rfl, rfl, f22, llen, _, _, _, _, us ++ [([fst], 1 + (c4 : Int))], xs ++ [.ref tp], rfl, sib_set2 S22 nfaH, rowL_upd hR S22 nfaH R22, (t3.trans t22).trans t23, upd_same, ?_, by rw [List.length_append, hlen]; rfl, fun u hu => ?_⟩
          · rw [List.map_append]
            refine dps_ts t23 _ _ ?_ (dpAll_snoc (dps_ts t22 _ _ (tupOnly_wishes us) hd) (.tup (.of g22) (.cons (.tup (.of c22) (strs_dpAll _)) (.cons (.int _) .nil))))
            have := tupOnly_wishes (us ++ [([fst], 1 + (c4 : Int))])
            rw [List.map_append] at this
            exact this
          · rcases List.mem_append.mp hu with hu | hu
            · exact hok u hu
            · rw [List.mem_singleton] at hu
              subst hu
              exact okWish_one ni hfm (by omega)
        · rw [decide_eq_false (show ¬ (0 : Int) < (q9 : Int) by omega)]
          refine iteF ⟨_, rfl, _, rfl, _, rfl, a, il, sc, ns, rest.map sv, rfl, R8, i8, ila, (fun z => hr0 (List.map_eq_nil_iff.mp z)), by rw [List.length_map]; omega, fun j v H9 hj s9 R9 => ?_⟩
          rw [List.getElem?_map] at hj
          obtain ⟨sec, hsec, rfl⟩ := Option.map_eq_some_iff.mp hj
          obtain ⟨hm1, hm2⟩ := hrest sec (List.mem_of_getElem? hsec)
          have S9 := S8.trans s9
          have t39 := t38.trans (sib_ts R8 s9)
          have f9 := s9 _ _ f8 faa
          refine ⟨z5 2 (by omega), fun cp ncp => ?_⟩
          have n20 : Same H9 (upd H9 cp (.tup [sv fst, sv sec])) := same_new (Same.refl _) ncp
          have g20 : (upd H9 cp (.tup [sv fst, sv sec])) cp = some (.tup (([fst, sec] : List W).map sv)) := upd_same
          generalize upd H9 cp (.tup [sv fst, sv sec]) = H20 at n20 g20
          have f20 := n20 _ _ (f9)
          refine ⟨_, rfl, .inl ⟨rfl, _, .of f20⟩, _, rfl, _, rfl, a, sc, ns, 4, rfl, rowL_same n20 R9, by omega, by omega, fun c4 H21 hc4 s21 R21 => ⟨_, _, rfl, rfl, z5 2 (by omega), fun tp ntp => ?_⟩⟩
          have n22 : Same H21 (upd H21 tp (.tup [.ref cp, .int (1 + (c4 : Int))])) := same_new (Same.refl _) ntp
          have g22 : (upd H21 tp (.tup [.ref cp, .int (1 + (c4 : Int))])) tp = some (.tup [.ref cp, .int (1 + (c4 : Int))]) := upd_same
          generalize upd H21 tp (.tup [.ref cp, .int (1 + (c4 : Int))]) = H22 at n22 g22
          have t21 := sib_ts (rowL_same n20 R9) s21
          have t22 : TS H3 H22 := (((t39).trans (same_ts n20)).trans t21).trans (same_ts n22)
          have c22 : H22 cp = some (.tup (([fst, sec] : List W).map sv)) := n22 _ _ (t21.tup _ _ g20)
          have f22 := n22 _ _ (s21 _ _ f20 faa)
          have S22 : Sib a H H22 := (((S9).trans (sib_same n20)).trans s21).trans (sib_same n22)
          have R22 := rowL_same n22 R21
          have t23 : TS H22 (upd H22 fa (.lst (xs ++ [.ref tp]))) := ts_lst f22
          refine ⟨fa, xs, .ref tp, rfl, rfl, f22, llen, _, _, _, _, us ++ [([fst, sec], 1 + (c4 : Int))], xs ++ [.ref tp], rfl, sib_set2 S22 nfaH, rowL_upd hR S22 nfaH R22, (t3.trans t22).trans t23, upd_same, ?_, by rw [List.length_append, hlen]; rfl, fun u hu => ?_⟩
          · rw [List.map_append]
            refine dps_ts t23 _ _ ?_ (dpAll_snoc (dps_ts t22 _ _ (tupOnly_wishes us) hd) (.tup (.of g22) (.cons (.tup (.of c22) (strs_dpAll _)) (.cons (.int _) .nil))))
            have := tupOnly_wishes (us ++ [([fst, sec], 1 + (c4 : Int))])
            rw [List.map_append] at this
            exact this
          · rcases List.mem_append.mp hu with hu | hu
            · exact hok u hu
            · rw [List.mem_singleton] at hu
              subst hu
              exact okWish_two ni hfm hm1 hm2 (by omega)
    · rintro σ H3 ⟨x4, x5, x6, x7, us, xs, rfl, S3, R3, t3, f3, hd, hlen, hok⟩
      rw [eN] at hlen
      refine ⟨_, rfl, _, rfl, _, rfl, c, _, _, _, rfl, rfl, sqt_ts t3 hc1, atI_nat (j := 1) rfl, c1, _, rfl, .inr (sqt_ts t3 p11), fun gl ngl => ?_⟩
      have n4 : Same H3 (upd H3 gl (.lst ((names q 1).map sv))) := same_new (Same.refl _) ngl
      refine ⟨a, gl, sc, ns, _, rfl, rowL_same n4 R3, upd_same, row_ne R3 ngl, (fun z => ne1 (List.map_eq_nil_iff.mp z)), by rw [List.length_map]; omega, fun j v H5 hj s5 R5 => ?_⟩
      rw [List.getElem?_map] at hj
      obtain ⟨g, hg, rfl⟩ := Option.map_eq_some_iff.mp hj
      have hgm := List.mem_of_getElem? hg
      have s5' := (sib_same n4).trans s5
      have t35 := sib_ts R3 s5'
      have f5 := s5' _ _ f3 faa
      refine ⟨_, rfl, fa, xs, rfl, .of f5, fun wp nwp => ?_⟩
      have n6 : Same H5 (upd H5 wp (.tup xs)) := same_new (Same.refl _) nwp
      have g6 : (upd H5 wp (.tup xs)) wp = some (.tup xs) := upd_same
      generalize upd H5 wp (.tup xs) = H6 at n6 g6
      have R6 := rowL_same n6 R5
      refine ⟨_, rfl, a, sc, ns, 10, rfl, R6, by omega, by omega, fun q1 H7 hq1 s7 R7 => ⟨_, rfl, a, sc, ns, 9, rfl, R7, by omega, by omega, fun q2 H8 hq2 s8 R8 => ⟨z5 5 (by omega), fun tp ntp => ?_⟩⟩⟩
      have t68 := (sib_ts R6 s7).trans (sib_ts R7 s8)
      have S8 : Sib a H H8 := (((S3.trans s5').trans (sib_same n6)).trans s7).trans s8
      have n9 : Same H8 (upd H8 tp (.tup [.str "o", sv g, .ref wp, .int (q1 : Nat), .int (q2 : Nat)])) := same_new (Same.refl _) ntp
      have t39 := ((t35.trans (same_ts n6)).trans t68).trans (same_ts n9)
      refine kk ⟨[111], g, us, q1, q2⟩ _ _ ?_ (S8.trans (sib_same n9)) (rowL_same n9 R8) ?_
      · exact { nm := (by decide : isName [111] = true), rnm := ng g hgm, reg := hgm, w1 := by show 1 ≤ us.length; omega, w3 := by show us.length ≤ 3; omega, ws := hok, d0 := by show (0 : Int) ≤ (q1 : Int); omega, d1 := by show (q1 : Int) ≤ 60; omega, v0 := by show (0 : Int) ≤ (q2 : Int); omega, v1 := by show (q2 : Int) ≤ 999; omega }
      · rw [o_eq] at n9 t39 ⊢
        exact .tup (.of upd_same) (.cons (.str _) (.cons (.str _) (.cons (.tup (.of (n9 _ _ (t68.tup _ _ g6))) (dps_ts t39 _ _ (tupOnly_wishes us) hd)) (.cons (.int _) (.cons (.int _) .nil)))))
end
end Kw
set_option Elab.async false
set_option linter.all false
set_option maxRecDepth 100000
set_option maxHeartbeats 800000
/-! The walk, part 24: a lambda with one default, handed to a def. -/
namespace Kw
open PySem PySem.Spec PyProof.Rows L2 Km LamX
/-- the lambda's names: its parameter is no name of the maker -/
structure LamD (N : List Str) (sc scope : Scope) : Prop where
  kind : scope.kind = .function
  co : scope.isCoroutine = false
  gen : scope.isGenerator = false
  own : ∀ y ∈ scope.names, y.2 ≠ .cell ∧ (y.2 = .local → y.1 ∉ N)
  free : ∀ y ∈ scope.names, y.2 = .free → sc.names.lookup y.1 = some .cell ∨ sc.names.lookup y.1 = some .free
def lamDB (N : List Str) (sc scope : Scope) : Bool :=
  decide (scope.kind = .function) && (!scope.isCoroutine && (!scope.isGenerator && scope.names.all fun y => !decide (y.2 = .cell) && ((!decide (y.2 = .local) || !decide (y.1 ∈ N)) && (!decide (y.2 = .free) || (decide (sc.names.lookup y.1 = some .cell) || decide (sc.names.lookup y.1 = some .free))))))
theorem lamD_by {N : List Str} {sc scope : Scope} (h : lamDB N sc scope = true) : LamD N sc scope := by
  unfold lamDB at h
  simp only [Bool.and_eq_true, Bool.or_eq_true, Bool.not_eq_true', decide_eq_true_eq, decide_eq_false_iff_not, List.all_eq_true] at h
  obtain ⟨a1, a2, a3, a4⟩ := h
  refine ⟨a1, a2, a3, fun y hy => ⟨(a4 y hy).1, fun e => ?_⟩, fun y hy e => ?_⟩
  · rcases (a4 y hy).2.1 with q | q
    · exact absurd e q
    · exact q
  · rcases (a4 y hy).2.2 with q | q
    · exact absurd e q
    · exact q
theorem LamD.hasC {X : Cx} {scope : Scope} (L : LamD X.N X.env.scope scope) (ok : X.Ok) : ∀ y ∈ scope.names, y.2 = .free → ∃ c, X.env.cells.lookup y.1 = some c := fun y hy e => ok.has _ (L.free y hy e)
/-- the lambda's object -/
def lamOb (qual : Str) (params : Arguments) (body : Expr) (scope : Scope) (clos : List (Str × Addr)) (dV doc pm : Value) (c' : Addr) (ctv : Value) : Obj :=
  { cls := .type "function", data := .func (PySem.W.kdv_fn "<lambda>" qual params (.expr body) scope clos dV doc pm (.ref c') ctv) }
section
variable {X : Cx} {pins : List (Addr × Obj)} {σ : L2.St} {H HZ : Hp} {s s1 : Shared}
theorem lamD_make {T : List (Addr × Str)} {c P : Addr} {params : Arguments} {body : Expr} {scope : Scope} {pos cp : Pos} {j : Nat} {z : Int} {E : Value → Shared → Prop} {Q : Value → Shared → Prop} (I : Inv X pins σ H s) (TB : TabB X.base X.mg c P) (hcode : X.env.code = .ref c)
    (hm : (P, X.env.qual ++ "<lambda>") ∈ T) (hu : ∀ p ∈ T, p.1 = P → p.2 = X.env.qual ++ "<lambda>") (hT : Tabs T H) (hdef : defaultsOf params X.env = ([eval (.Constant (.int z) j cp) X.env], [])) (hko : params.kwonlyargs = []) (hfree : ∀ y ∈ scope.names, y.2 = .free → ∃ c, X.env.cells.lookup y.1 = some c)
    (h : ∀ (f c' T0 : Addr) (tz : Tok) (doc pm ctv : Value) (H1 : Hp) (s' : Shared), Inv X pins σ H1 s' → ExtN H H1 → Tabs T H1 → s'.heap.get? T0 = some { cls := .type "tuple", data := .seq #[.int z tz] } → H1 T0 = none → T0 ∉ frs X.stack →
      s'.heap.get? f = some (lamOb (X.env.qual ++ "<lambda>") params body scope (cloFrom X.env.cells scope.names []) (.ref T0) doc pm c' ctv) → H1 f = none → f ∉ frs X.stack → H1 c' = some (CodeO c' (X.env.qual ++ "<lambda>")) → Q (.ref f) s') :
    wpAny (model X.prog X.w) X.A (eval (.Lambda params body scope pos) X.env) Q E s := by
  rw [PySem.arm_eval_Lambda, hdef]
  show wpAny _ _ (do let dv ← evalAll [eval (.Constant (.int z) j cp) X.env]; let kdv ← holding dv (evalAllOpt []); makeFunction "<lambda>" (X.env.qual ++ "<lambda>") params (.expr body) scope X.env dv kdv [] pos pos.line) Q E s
  refine wpAny_bind (wpAny_evalAll_cons ?_)
  refine wpAny_Constant_int ?_
  refine wpAny_evalAll_nil (wpAny_bind (wpAny_holding (wpAny_pure ?_)))
  rw [PySem.makeFunction_eq, hko]
  simp only [List.zip_nil_left, List.filterMap_nil, List.isEmpty_nil, List.isEmpty_cons, if_true, Bool.false_eq_true, if_false, pure_bind]
  refine wpAny_bind (wpAny_newTextTuple ?_)
  have I0 : Inv X pins σ H { s with heap := s.heap.push { cls := .type "tuple", data := .seq [Value.int z s.toks].toArray }, toks := s.toks + 1 } := I.kept fun b o e => Heap.get?_push_of_some _ e
  have g0 : (s.heap.push { cls := .type "tuple", data := .seq [Value.int z s.toks].toArray }).get? s.heap.objs.size = some { cls := .type "tuple", data := .seq #[.int z s.toks] } := Heap.get?_push_size _ rfl
  have nT0 : H s.heap.objs.size = none := I.hok.fresh (Nat.le_refl _)
  have off : ∀ f, s.heap.objs.size ≤ f → f ∉ frs X.stack := fun f hf hm => by
    rcases List.mem_cons.mp (I.stkSub _ hm) with e | e
    · have h1 := I.lt
      rw [← e] at h1
      exact Nat.lt_irrefl _ (Nat.lt_of_lt_of_le h1 hf)
    · exact I.nofs hf e
  have fT0 := off _ (Nat.le_refl _)
  generalize hs0 : ({ s with heap := s.heap.push { cls := .type "tuple", data := .seq [Value.int z s.toks].toArray }, toks := s.toks + 1 } : Shared) = s0 at I0
  have g1 : s0.heap.get? s.heap.objs.size = some { cls := .type "tuple", data := .seq #[.int z s.toks] } := by rw [← hs0]; exact g0
  have le0 : s.heap.objs.size ≤ s0.heap.objs.size := by rw [← hs0]; exact Nat.le_of_lt (by rw [Heap.size_push]; omega)
  have hgoal : ∀ (f c' : Addr) (doc pm ctv : Value) (H1 : Hp) (s' : Shared), Inv X pins σ H1 s' → ExtN H H1 → Tabs T H1 → s'.heap.get? s.heap.objs.size = some { cls := .type "tuple", data := .seq #[.int z s.toks] } → H1 s.heap.objs.size = none →
      s'.heap.get? f = some (lamOb (X.env.qual ++ "<lambda>") params body scope (cloFrom X.env.cells scope.names []) (.ref s.heap.objs.size) doc pm c' ctv) → H1 f = none → f ∉ frs X.stack → H1 c' = some (CodeO c' (X.env.qual ++ "<lambda>")) → Q (.ref f) s' :=
    fun f c' doc pm ctv H1 s' a1 a2 a3 a4 a5 a6 a7 a8 a9 => h f c' _ _ doc pm ctv H1 s' a1 a2 a3 a4 a5 fT0 a6 a7 a8 a9
  clear h g0
  obtain ⟨ps, hP, ht, ha⟩ := hT _ hm
  have off0 : ∀ f, s0.heap.objs.size ≤ f → f ∉ frs X.stack := fun f hf => off f (Nat.le_trans le0 hf)
  generalize s.heap.objs.size = T0 at *
  have bP : s0.heap.BuiltinsAt X.mg P := TB.bm.keeps I0.bk
  have hP' : s0.heap.get? P = some { cls := .none, data := .fields ps } := I0.hok P _ hP
  cases hc : codeAmong pos ps.toList with
  | none =>
    refine PySem.W.kdv_makeTail (mg := X.mg) (c := c) (P := P) (ps := ps) (closure_ok hfree) I0.ok.glob (I0.mod.glob.keeps I0.bk) hcode (TB.code.keeps I0.bk) hP' ht hc TB.gP bP fun c' ctv doc h' tk hx hge hlt hrec htb => ?_
    obtain ⟨c2, oc, vs, t, e2, hoc, hd, hv⟩ := hrec
    cases e2
    have le1 : s0.heap.objs.size ≤ h'.objs.size := Nat.le_trans hge (Nat.le_of_lt hlt)
    have nC : H c' = none := I0.hok.fresh hge
    have neT : T0 ≠ P := fun q => by
      rw [q, hP] at nT0
      cases nT0
    have I1 := inv_table (t' := tk) (more := #[rawInt pos.line, rawInt pos.col, .ref c']) (h' := h'.push (lamOb (X.env.qual ++ "<lambda>") params body scope (cloFrom X.env.cells scope.names []) (.ref T0) doc ((X.mg "__name__").getD .none) c' ctv)) I0 hP
      (fun b o q e => Heap.get?_push_of_some _ (hx b o q e)) (Heap.get?_push_of_some _ htb) hge ⟨oc, vs, t, Heap.get?_push_of_some _ hoc, hd, hv⟩
    have sN : ExtN H (upd (upd H P (.tbl (ps ++ #[rawInt pos.line, rawInt pos.col, .ref c']))) c' (CodeO c' (X.env.qual ++ "<lambda>"))) := fun b o e k => by
      rw [upd_ne (ne_of_none e nC), upd_ne fun q => k ps (Option.some.inj (e.symm.trans (by rw [q]; exact hP)))]
      exact e
    have fl : (ps ++ #[rawInt pos.line, rawInt pos.col, .ref c']).toList = ps.toList ++ [rawInt pos.line, rawInt pos.col, .ref c'] := by simp
    have lf : h'.objs.size ≠ c' := Nat.ne_of_gt hlt
    have lP : h'.objs.size ≠ P := Nat.ne_of_gt (Nat.lt_of_lt_of_le (Heap.lt_size hP') le1)
    have tc : T0 ≠ c' := fun q => by
      have := Heap.lt_size g1
      rw [q] at this
      exact Nat.lt_irrefl _ (Nat.lt_of_lt_of_le this hge)
    refine hgoal h'.objs.size c' doc _ ctv _ _ I1 sN (fun p hp => ?_) (Heap.get?_push_of_some _ (hx _ _ neT g1)) (by rw [upd_ne tc, upd_ne neT]; exact nT0) (Heap.get?_push_size _ rfl) (by rw [upd_ne lf, upd_ne lP]; exact I0.hok.fresh le1) (off0 _ le1) upd_same
    by_cases hb : p.1 = P
    · rw [hu p hp hb, hb]
      refine ⟨_, by rw [upd_ne (ne_of_none hP nC), upd_same], by rw [fl]; exact PySem.TriplesOk_snoc _ _ _ _ ht, fun p' cv hcv => ?_⟩
      rw [fl] at hcv
      rcases among_app _ ht hcv with q | q
      · obtain ⟨c0, e1, e2⟩ := ha p' cv q
        exact ⟨c0, e1, sN _ _ e2 codeO_ne⟩
      · exact ⟨c', q, upd_same⟩
    · obtain ⟨ps2, a1, a2, a3⟩ := hT p hp
      refine ⟨ps2, by rw [upd_ne (ne_of_none a1 nC), upd_ne hb]; exact a1, a2, fun p' cv hcv => ?_⟩
      obtain ⟨c0, e1, e2⟩ := a3 p' cv hcv
      exact ⟨c0, e1, sN _ _ e2 codeO_ne⟩
  | some cv =>
    obtain ⟨c', e, hco⟩ := ha pos cv hc
    subst e
    refine PySem.W.kdv_makeTailHit (mg := X.mg) (c := c) (P := P) (ps := ps) (closure_ok hfree) I0.ok.glob (I0.mod.glob.keeps I0.bk) hcode (TB.code.keeps I0.bk) hP' ht hc bP fun ctv doc h' tk hx hsz => ?_
    have I1 : Inv X pins σ H { s0 with heap := h'.push (lamOb (X.env.qual ++ "<lambda>") params body scope (cloFrom X.env.cells scope.names []) (.ref T0) doc ((X.mg "__name__").getD .none) c' ctv), toks := tk } := I0.kept fun b o e => Heap.get?_push_of_some _ (hx b o e)
    exact hgoal h'.objs.size c' doc _ ctv H _ I1 (ExtN.refl H) hT (Heap.get?_push_of_some _ (hx _ _ g1)) nT0 (Heap.get?_push_size _ rfl) (I0.hok.fresh hsz) (off0 _ hsz) hco
end
end Kw
set_option Elab.async false
set_option linter.all false
set_option maxRecDepth 100000
set_option maxHeartbeats 800000
/-! The walk, part 25: a lambda with one default called. -/
namespace Kw
open PySem PySem.Spec PyProof.Rows L2 Km LamX
section
variable {X : Cx} {pins : List (Addr × Obj)} {σ : L2.St} {H HZ : Hp} {s s1 : Shared}
/-- the lambda's body is entered -/
theorem lamD_in {A : Around} {outer : List Env} {E : XK} {scope : Scope} {f c' : Addr} {h₁ : Heap} {tk : Nat} {bs : List (Str × Value)} (I : Inv X pins σ H s) (L : LamD X.N X.env.scope scope) (e0 : Env0 X.prog X.w X.K X.mg X.base A outer s1 HZ) (hd : A.handled = none)
    (un : Un (frs X.stack) [] H HZ s.heap s1.heap) (hns : h₁.Ns s1.heap.objs.size fun y => bs.reverse.lookup y) (kp : ∀ b o, s1.heap.get? b = some o → h₁.get? b = some o) : Inv (lamCx X A outer s1 HZ E scope f c') [] σ HZ { s1 with heap := h₁, toks := tk } := by
  have hfree := L.hasC I.ok
  have up : ∀ {y c}, (cloFrom X.env.cells scope.names []).lookup y = some c → X.env.cells.lookup y = some c := fun {y c} e => by
    rcases cloFrom_mem (PySem.mem_of_lookup e) with m | ⟨a1, a2⟩
    · cases m
    · obtain ⟨c1, e1⟩ := hfree _ a1 rfl
      have e1 : X.env.cells.lookup y = some c1 := e1
      have e2 : c = c1 := by
        rw [a2, e1]
        rfl
      rw [e2]
      exact e1
  have dn : ∀ {y}, scope.names.lookup y = some .free → ∃ c, (cloFrom X.env.cells scope.names []).lookup y = some c := fun {y} e => mem_lookup (cloFrom_has (cells := X.env.cells) (acc := []) (show (y, NameKind.free) ∈ scope.names from PySem.mem_of_lookup e))
  have ck : ∀ {c : Addr} {v : Option Value}, H c = none → s.heap.IsCell c v → h₁.IsCell c v := fun {c v} n ⟨o, a1, a2⟩ => by
    obtain ⟨sl, q⟩ := un.any a1 n (by simp)
    exact ⟨_, kp _ _ q, a2⟩
  have nil : ∀ b : Addr, b ∉ (lamCx X A outer s1 HZ E scope f c').ex := fun b q => absurd (show b ∈ ([] : List Addr) from q) (by simp)
  have cel : ∀ y, scope.names.lookup y = some .cell ∨ scope.names.lookup y = some .free → ∃ c, (cloFrom X.env.cells scope.names []).lookup y = some c := fun y k => by
    rcases k with k | k
    · exact absurd rfl (L.own _ (PySem.mem_of_lookup k)).1
    · exact dn k
  have okX : (lamCx X A outer s1 HZ E scope f c').Ok := ⟨e0.mod, L.kind, rfl, rfl, Nat.le_refl _, fun y v c e1 e2 => I.ok.inj y v c (up e1) (up e2), cel, (fun y c q _ => absurd (show false = true from q) Bool.false_ne_true),
    fun _ => hd, Around.frames_deeper e0.frames, .inr ⟨rfl, rfl⟩, fun b q => absurd q (nil b), e0.bs, e0.bsz, fun b _ _ => nil b, fun b q => absurd q (nil b), e0.funs, e0.frf⟩
  refine ⟨okX, rfl, e0.bare, Un.kept kp, ⟨_, hns, fun i y v e1 e2 e3 => ?_⟩, fun y c e => ?_, e0.hok.fresh (Nat.le_refl _), fun y c e => ?_, fun q hq => absurd (show q ∈ ([] : List (Addr × Obj)) ++ [] from hq) (by simp), e0.hok.kept kp, I.len⟩
  · rcases (show Vis scope y from e3) with k | k | k
    · exact absurd (List.mem_of_getElem? e1) ((L.own _ (PySem.mem_of_lookup k)).2 rfl)
    · exact absurd rfl (L.own _ (PySem.mem_of_lookup k)).1
    · obtain ⟨m, hn, hl⟩ := I.loc
      have fr := L.free _ (PySem.mem_of_lookup k) rfl
      obtain ⟨u, ru, q⟩ := hl i y v e1 e2 (fr.elim (fun k => .inr (.inl k)) (fun k => .inr (.inr k)))
      obtain ⟨c2, h2⟩ := dn k
      refine ⟨u, ru, .inr ⟨.inr k, c2, h2, ?_⟩⟩
      have c1 := up h2
      rcases q with ⟨k', _⟩ | ⟨_, c3, e', w⟩
      · have k' : X.env.scope.names.lookup y = some .local := k'
        rcases fr with k2 | k2
        · rw [show X.env.scope.names.lookup y = _ from k2] at k'
          cases k'
        · rw [show X.env.scope.names.lookup y = _ from k2] at k'
          cases k'
      · rw [c1] at e'
        cases e'
        exact ck (I.freeC y _ c1) w
  · obtain ⟨v, w⟩ := I.cell y c (up e)
    exact ⟨v, ck (I.freeC y c (up e)) w⟩
  · obtain ⟨v, o, a1, a2⟩ := I.cell y c (up e)
    exact un.free c o a1 (I.freeC y c (up e)) (by simp)
/-- x(), x the lambda, in the def that got it; E: what is wanted of an exception, at the names as they stand -/
theorem pe_actS {CXg : CXT} {Eg : XK} {Ng : List Str} {qg : Str} {sg : Scope} {g f c' : Addr} {cdg dV doc pm ctv : Value} {params : Arguments} {body : Expr} {scope : Scope} {k i : Nat} {a : Str} {pn : List (Addr × Obj)} {xe : Value → Shared → Prop} {W : WX} {E : XK} {tb : TE} {p1 p2 : Pos} {bs : List (Str × Value)}
    (I : Inv X pins σ H s) (L : LamD X.N X.env.scope scope) (hf : s.heap.get? f = some (lamOb (X.env.qual ++ "<lambda>") params body scope (cloFrom X.env.cells scope.names []) dV doc pm c' ctv)) (hfn : H f = none) (hfr : f ∉ frs X.stack)
    (hbind : ∀ s' : Shared, (∀ b o, s.heap.get? b = some o → H b = none → b ∉ frs X.stack → s'.heap.get? b = some o) → BindsTo s' (PySem.W.kdv_fn "<lambda>" (X.env.qual ++ "<lambda>") params (.expr body) scope (cloFrom X.env.cells scope.names []) dV doc pm (.ref c') ctv) ⟨[], []⟩ bs) (hpa : ∀ y ∈ bs, scope.names.lookup y.1 = some .local)
    (tk : Takes ((cxOf CXg X.prog X.w X.K X.mg X.base Ng qg sg g cdg X.A X.stack s H Eg).tr pn xe) W) (hr : Room (k + 1) (X.A.deeper (envOfC qg sg s.heap.objs.size g cdg)))
    (hbody : ∀ (A : Around) (outer : List Env) (s : Shared) (H : Hp), Room k (A.deeper (lamEnv X scope s.heap.objs.size f c')) → PE (lamCx X A outer s H E scope f c') body tb)
    (hN : Ng[i]? = some a) (hv : Vis sg a) (hd : (a == ("__debug__" : Str)) = false := by decide) (hcd : (a == ("__classdict__" : Str)) = false := by decide) :
    PE ((cxOf CXg X.prog X.w X.K X.mg X.base Ng qg sg g cdg X.A X.stack s H Eg).tr pn xe) (.Call (.Name a p1) [] [] p2)
      (fun σZ HZ Q => σZ[i]? = some (some (.ref f)) ∧ HZ c' = some (CodeO c' (X.env.qual ++ "<lambda>")) ∧ (∀ cls d H', E cls d H' → W cls d σZ H') ∧ tb σ HZ Q) := by
  refine ⟨fun pinsZ sZ σZ HZ Q IZ ⟨hs, hc, hW, ht⟩ => ?_⟩
  refine wpAny_Call_Name_kw (thn ((pe_var (pos := p1) (i := i) hN hv hd hcd).run pinsZ sZ σZ HZ (fun v H1 => v = .ref f ∧ H1 = HZ) IZ ⟨.ref f, hs, rfl, rfl⟩) fun u s1 ⟨v, H1, I1, r1, q1⟩ => ?_)
  obtain ⟨rfl, eH⟩ := q1
  rw [eH] at I1
  obtain rfl : u = Value.ref f := r1
  have nex : ∀ b : Addr, b ∉ ([] : List Addr) := fun b q => by simp at q
  have f1 := I1.base.keep f _ hf hfn hfr (nex f)
  have kpt : ∀ b o, s.heap.get? b = some o → H b = none → b ∉ frs X.stack → s1.heap.get? b = some o := fun b o e n r => I1.base.keep b o e n r (nex b)
  refine PySem.W.callWith_F0 ⟨_, _, _, _, f1⟩ ?_
  have un : Un (frs X.stack) [] H HZ s.heap s1.heap := I1.base
  obtain ⟨⟨oc, vs, t, hoc, hdc, hvc⟩, _, _⟩ := I1.hok c' _ hc
  have rc : codeAny (model X.prog X.w) (X.A.deeper (envOfC qg sg s.heap.objs.size g cdg)) (.call (.ref f) ⟨[], []⟩) (CR (L2.CX X.prog X.w) (envOfC qg sg s.heap.objs.size g cdg :: X.stack) X.prog X.w HZ s1 Q E) s1 := by
    refine PySem.W.kla_callFunE hr.depth f1 rfl L.co L.gen rfl ⟨c', oc, vs, t, rfl, hoc, hdc, hvc⟩ ?_
    refine hbind s1 kpt _ _ _ _ ?_
    refine wpAny_newFunctionEnv (fun y hy => (L.own y hy).1) hpa (fun h₁ hns hsb => ⟨I1.nolimit.fresh _ hsb, ?_⟩) L.kind
    show codeAny _ _ (.expr body (lamEnv X scope s1.heap.objs.size f c')) _ _
    have kp : ∀ b o, s1.heap.get? b = some o → h₁.get? b = some o := fun b o e => hsb.extBut b o (Nat.ne_of_lt (Heap.lt_size e)) (Heap.get?_push_of_some _ e)
    have J : Inv (lamCx X (X.A.deeper (envOfC qg sg s.heap.objs.size g cdg)) (envOfC qg sg s.heap.objs.size g cdg :: X.stack) s1 HZ E scope f c') [] σ HZ { s1 with heap := h₁, toks := s1.toks + bs.length } := lamD_in I L I1.env0 hr.hd un hns kp
    refine PySem.W.kla_codeExpr (wpAny_mono ((hbody _ _ s1 HZ (hr.deeper _)).run [] _ _ HZ Q J ht) (fun v s' hq => ?_) fun e s' hq => hq)
    obtain ⟨w', H', J', rv, q⟩ := hq
    exact ⟨w', H', J'.os, J'.bare, J'.base, J'.hok, rv, q⟩
  refine wpAny_call (codeAny_mono rc fun r s' hq => ?_)
  match r, hq with
  | .error e, hq => exact tk e s' (XE.of_call I1 (fun cls d H' h => hW cls d H' h) hq)
  | .ok (.ret u), hq => exact I1.after hq
  | .ok .next, hq => exact False.elim hq
  | .ok .brk, hq => exact False.elim hq
  | .ok .cont, hq => exact False.elim hq
end
/-- the def that calls what it got: what it makes of the lambda's reading -/
def GivesS (X : Cx) (Ng : List Str) (x : Str) (sg : Scope) (g : Addr) (cdg : Value) (bg : List Stmt) (a : Str) (q : Str) (TT : (XK → Hp → VK → Prop) → Hp → VK → Prop) : Prop :=
  ∀ (f c' : Addr) (s : Shared) (H : Hp) (Q : VK) (tl : XK → Hp → VK → Prop),
    (∀ (W : WX) (pn : List (Addr × Obj)) (xe : Value → Shared → Prop) (E : XK) (p1 p2 : Pos), Takes ((cxOf C8.CX0 X.prog X.w X.K X.mg X.base Ng x sg g cdg X.A X.stack s H C8.E0).tr pn xe) W →
      PE ((cxOf C8.CX0 X.prog X.w X.K X.mg X.base Ng x sg g cdg X.A X.stack s H C8.E0).tr pn xe) (.Call (.Name a p1) [] [] p2) (fun σZ HZ Q => σZ[0]? = some (some (.ref f)) ∧ HZ c' = some (CodeO c' q) ∧ (∀ cls d H', E cls d H' → W cls d σZ H') ∧ tl E HZ Q)) →
    H c' = some (CodeO c' q) → TT tl H Q → ∃ t, PSs (cxOf C8.CX0 X.prog X.w X.K X.mg X.base Ng x sg g cdg X.A X.stack s H C8.E0).nox bg t ∧ t { nx := fun _ H' => Q .non H', rt := Q } (L2.start Ng [.ref f]) H
section
variable {X : Cx}
theorem lam_run {pins : List (Addr × Obj)} {σ : L2.St} {H1 : Hp} {s' : Shared} {Q : VK} {TT : (XK → Hp → VK → Prop) → Hp → VK → Prop} {x a : Str} {g f c' : Addr} {k : Nat} {pg : Arguments} {bg : List Stmt} {sg : Scope} {dV kV doc pm cdv ct oc dV2 doc2 pm2 ctv2 : Value} {an od : Option Addr} {osl : Array (Option Value)} {Ng : List Str}
    {params : Arguments} {body : Expr} {scope : Scope} {t : XK → TE} {bs : List (Str × Value)}
    (lk : X.K.lookup g = some ⟨oc, od, .func (PySem.W.fnOf x x pg bg sg dV kV doc pm an cdv ct), osl⟩) (hcg : PySem.W.codeIn X.K cdv x = true) (hb : L2.Binds X.K (PySem.W.fnOf x x pg bg sg dV kV doc pm an cdv ct) [a] []) (Sg : FnScope Ng [a] sg) (hNg : Ng[0]? = some a) (hva : Vis sg a)
    (hG : GivesS X Ng x sg g cdv bg a (X.env.qual ++ "<lambda>") TT) (hr : Room (k + 2) X.A) (L : LamD X.N X.env.scope scope)
    (hbody : ∀ (A : Around) (outer : List Env) (s : Shared) (H : Hp) (E : XK) (f c' : Addr), Room k (A.deeper (lamEnv X scope s.heap.objs.size f c')) → PE (lamCx X A outer s H E scope f c') body (t E))
    (hd : (a == ("__debug__" : Str)) = false) (hcd : (a == ("__classdict__" : Str)) = false) (I1 : Inv X pins σ H1 s')
    (hf : s'.heap.get? f = some (lamOb (X.env.qual ++ "<lambda>") params body scope (cloFrom X.env.cells scope.names []) dV2 doc2 pm2 c' ctv2)) (hfn : H1 f = none) (hfr : f ∉ frs X.stack)
    (hbind : ∀ s2 : Shared, (∀ b o, s'.heap.get? b = some o → H1 b = none → b ∉ frs X.stack → s2.heap.get? b = some o) → BindsTo s2 (PySem.W.kdv_fn "<lambda>" (X.env.qual ++ "<lambda>") params (.expr body) scope (cloFrom X.env.cells scope.names []) dV2 doc2 pm2 (.ref c') ctv2) ⟨[], []⟩ bs) (hpa : ∀ y ∈ bs, scope.names.lookup y.1 = some .local)
    (hco : H1 c' = some (CodeO c' (X.env.qual ++ "<lambda>"))) (h : TT (fun E H' Q' => t E σ H' Q') H1 Q) : wpAny (model X.prog X.w) X.A (call (.ref g) [.ref f]) (EP X pins σ Q) X.xe s' := by
  have rc : codeAny (model X.prog X.w) X.A (.call (.ref g) ⟨[.ref f], []⟩) (CR C8.CX0 X.stack X.prog X.w H1 s' Q C8.E0) s' := by
    refine run_ofS (N := Ng) (ps := [a]) (us := [.ref f]) (vs := [.ref f]) lk hcg Sg hr I1.env0 (hb s' [.ref f] I1.kIn rfl) (.cons rfl .nil) rfl fun hr' => ?_
    obtain ⟨t', ht', hq'⟩ := hG f c' s' H1 Q (fun E H' Q' => t E σ H' Q') (fun W pn xe E p1 p2 tk => pe_actS (i := 0) I1 L hf hfn hfr hbind hpa tk hr' (fun A outer s H hr2 => hbody A outer s H E f c' hr2) hNg hva hd hcd) hco h
    exact ⟨t', ht'.nox, hq'⟩
  refine wpAny_call (codeAny_mono rc fun r s2 hq => ?_)
  match r, hq with
  | .error e, hq => exact (show False from hq).elim
  | .ok (.ret u), hq => exact I1.after hq
  | .ok .next, hq => exact False.elim hq
  | .ok .brk, hq => exact False.elim hq
  | .ok .cont, hq => exact False.elim hq
/-- x(lambda: body) -/
theorem pe_lamS {T : List (Addr × Str)} {TT : (XK → Hp → VK → Prop) → Hp → VK → Prop} {x a : Str} {g c P : Addr} {k : Nat} {pg : Arguments} {bg : List Stmt} {sg : Scope} {dV kV doc pm cdv ct oc : Value} {an od : Option Addr} {osl : Array (Option Value)} {Ng : List Str}
    {params : Arguments} {body : Expr} {scope : Scope} {t : XK → TE} {p lpos pos : Pos} (hg : Gl X x) (hm : X.mg x = some (.ref g)) (hk : PySem.W.keepIn X.K (.ref g) = true)
    (lk : X.K.lookup g = some ⟨oc, od, .func (PySem.W.fnOf x x pg bg sg dV kV doc pm an cdv ct), osl⟩) (hcg : PySem.W.codeIn X.K cdv x = true) (hb : L2.Binds X.K (PySem.W.fnOf x x pg bg sg dV kV doc pm an cdv ct) [a] []) (Sg : FnScope Ng [a] sg) (hNg : Ng[0]? = some a) (hva : Vis sg a)
    (hG : GivesS X Ng x sg g cdv bg a (X.env.qual ++ "<lambda>") TT)
    (TB : TabB X.base X.mg c P) (hcode : X.env.code = .ref c) (hmT : (P, X.env.qual ++ "<lambda>") ∈ T) (hu : ∀ p ∈ T, p.1 = P → p.2 = X.env.qual ++ "<lambda>") (hr : Room (k + 2) X.A) (L : LamD X.N X.env.scope scope) (hdef : defaultsOf params X.env = ([], []))
    (hbind : ∀ (q : Str) (cl : List (Str × Addr)) (pm cv ctv : Value), bindArgs (PySem.W.kla_fn "<lambda>" q params body scope cl pm cv ctv) ⟨[], []⟩ = pure [])
    (hbody : ∀ (A : Around) (outer : List Env) (s : Shared) (H : Hp) (E : XK) (f c' : Addr), Room k (A.deeper (lamEnv X scope s.heap.objs.size f c')) → PE (lamCx X A outer s H E scope f c') body (t E))
    (hdb : (x == ("__debug__" : Str)) = false := by decide) (hd : (a == ("__debug__" : Str)) = false := by decide) (hcd : (a == ("__classdict__" : Str)) = false := by decide) :
    PE X (.Call (.Name x p) [.Lambda params body scope lpos] [] pos) (tLam T TT t) := by
  refine ⟨fun pins s σ H Q I ⟨hT, h⟩ => ?_⟩
  refine wpAny_Call_Name_kw (ld_glob I hg hm (PySem.W.callWith_K (h₀ := X.base) I.ok.mod.kin hk ?_ (by rfl) (by rfl)) hdb)
  show wpAny _ _ (spliced ((false, eval (.Lambda params body scope lpos) X.env) :: backTo pos (starEach [] X.env))) _ _ s
  exact Calls.spliced_cons (lam_make2 I TB hcode hmT hu hT hdef (L.hasC I.ok) fun f c' pm' ctv H1 s' I1 eN T1 hf hfn hfr hco => Calls.spliced_nil ⟨I1.kIn, lam_run lk hcg hb Sg hNg hva hG hr L hbody hd hcd I1 (dV2 := .none) (doc2 := .none) hf hfn hfr (fun s2 _ => .of_eq (hbind _ _ _ _ _)) (fun y hy => by simp at hy) hco (h H1 eN T1)⟩)
/-- x(lambda p=z: body) -/
theorem pe_lamD {T : List (Addr × Str)} {TT : (XK → Hp → VK → Prop) → Hp → VK → Prop} {x a pa : Str} {g c P : Addr} {k j : Nat} {z : Int} {cp : Pos} {pg : Arguments} {bg : List Stmt} {sg : Scope} {dV kV doc pm cdv ct oc : Value} {an od : Option Addr} {osl : Array (Option Value)} {Ng : List Str}
    {params : Arguments} {body : Expr} {scope : Scope} {t : XK → TE} {p lpos pos : Pos} (hg : Gl X x) (hm : X.mg x = some (.ref g)) (hk : PySem.W.keepIn X.K (.ref g) = true)
    (lk : X.K.lookup g = some ⟨oc, od, .func (PySem.W.fnOf x x pg bg sg dV kV doc pm an cdv ct), osl⟩) (hcg : PySem.W.codeIn X.K cdv x = true) (hb : L2.Binds X.K (PySem.W.fnOf x x pg bg sg dV kV doc pm an cdv ct) [a] []) (Sg : FnScope Ng [a] sg) (hNg : Ng[0]? = some a) (hva : Vis sg a)
    (hG : GivesS X Ng x sg g cdv bg a (X.env.qual ++ "<lambda>") TT)
    (TB : TabB X.base X.mg c P) (hcode : X.env.code = .ref c) (hmT : (P, X.env.qual ++ "<lambda>") ∈ T) (hu : ∀ p ∈ T, p.1 = P → p.2 = X.env.qual ++ "<lambda>") (hr : Room (k + 2) X.A) (L : LamD X.N X.env.scope scope) (hdef : defaultsOf params X.env = ([eval (.Constant (.int z) j cp) X.env], [])) (hko : params.kwonlyargs = [])
    (hbind : ∀ (s' : Shared) (q : Str) (cl : List (Str × Addr)) (T0 : Addr) (tz : Tok) (doc pm cv ctv : Value), s'.heap.get? T0 = some { cls := .type "tuple", data := .seq #[.int z tz] } → BindsTo s' (PySem.W.kdv_fn "<lambda>" q params (.expr body) scope cl (.ref T0) doc pm cv ctv) ⟨[], []⟩ [(pa, .int z tz)]) (hpa : scope.names.lookup pa = some .local)
    (hbody : ∀ (A : Around) (outer : List Env) (s : Shared) (H : Hp) (E : XK) (f c' : Addr), Room k (A.deeper (lamEnv X scope s.heap.objs.size f c')) → PE (lamCx X A outer s H E scope f c') body (t E))
    (hdb : (x == ("__debug__" : Str)) = false := by decide) (hd : (a == ("__debug__" : Str)) = false := by decide) (hcd : (a == ("__classdict__" : Str)) = false := by decide) :
    PE X (.Call (.Name x p) [.Lambda params body scope lpos] [] pos) (tLam T TT t) := by
  refine ⟨fun pins s σ H Q I ⟨hT, h⟩ => ?_⟩
  refine wpAny_Call_Name_kw (ld_glob I hg hm (PySem.W.callWith_K (h₀ := X.base) I.ok.mod.kin hk ?_ (by rfl) (by rfl)) hdb)
  show wpAny _ _ (spliced ((false, eval (.Lambda params body scope lpos) X.env) :: backTo pos (starEach [] X.env))) _ _ s
  exact Calls.spliced_cons (lamD_make I TB hcode hmT hu hT hdef hko (L.hasC I.ok) fun f c' T0 tz doc' pm' ctv H1 s' I1 eN T1 h0 h0n h0r hf hfn hfr hco => Calls.spliced_nil ⟨I1.kIn, lam_run lk hcg hb Sg hNg hva hG hr L hbody hd hcd I1 hf hfn hfr (fun s2 kp => hbind s2 _ _ _ _ _ _ _ _ (kp _ _ h0 h0n h0r)) (fun y hy => by
    rw [List.mem_singleton] at hy
    subst hy
    exact hpa) hco (h H1 eN T1)⟩)
end
end Kw
set_option Elab.async false
set_option linter.all false
set_option maxRecDepth 100000
set_option maxHeartbeats 800000
/-! The walk, part 26: what is told of an error. -/
namespace Kw
open PySem PySem.Spec PyProof.Rows L2 Km LamX
/-- told: None, or the line and word of the error -/
def TSaid (C : Addr) : (XK → Hp → VK → Prop) → Hp → VK → Prop := fun tl H Q =>
  tl (fun cls d H' => ∃ (l c : Int) (dd : Addr), cls = .ref C ∧ d = some dd ∧ H' dd = some (.xd (lw l c)) ∧ ∀ p, H' p = none → Q (.ref p) (upd H' p (.tup [.int l, .int c]))) H (fun _ H' => Q .non H')
abbrev nmSd : List Str := ["_law_work", "e"]
theorem scSd : FnScope nmSd ["_law_work"] (defScope sSaid) := ⟨rfl, rfl, rfl, by decide +kernel, rfl, by decide +kernel, by decide +kernel⟩
section
variable {X : Cx} {mg : Str → Option Value} {K : PySem.W.Frag} {C R : Addr}
theorem said_gives (TE : TxtE K mg C R) (eK : X.K = K) (em : X.mg = mg) {g : Addr} {cdg : Value} {q : Str} : GivesS X nmSd "_law_said" (defScope sSaid) g cdg (defBody sSaid) "_law_work" q (TSaid C) := by
  intro f c' s H Q tl act hc h
  subst eK em
  refine ⟨_, pss_cons (ps_try_as (X := (cxOf C8.CX0 X.prog X.w X.K X.mg X.base nmSd "_law_said" (defScope sSaid) g cdg X.A X.stack s H C8.E0).nox) (c := .ref C) (i := 1)
      (tb := fun W D σ H => ∃ Ech : XK, σ[0]? = some (some (.ref f)) ∧ H c' = some (CodeO c' q) ∧ (∀ cls d H', Ech cls d H' → W cls d σ H') ∧ tl Ech H fun _ H' => D.nx σ H')
      rfl rfl scSd.nd rfl rfl ⟨by rfl, by decide, .inl TE.gC⟩ LamX.takes0 (fun W pn xe tk _ => ?_) (fun a oe cls d pn hz hf => pss_one (ps_ret (pe_tup (pa_cons (pe_xf TE.xf TE.noL hz hf (pv 1)) (pa_cons (pe_xf TE.xf TE.noW hz hf (pv 1)) pa_nil))))))
    (pss_one (ps_ret pe_non)), ?_⟩
  · refine ⟨fun pins s' σ H' D I ⟨Ech, h1, h2, hW, h3⟩ => ?_⟩
    exact (pss_one (ps_expr (act W pn xe Ech _ _ tk))).run pins s' σ H' D I ⟨h1, h2, hW, h3⟩
  · refine ⟨_, rfl, hc, fun cls d H' ⟨l, c, dd, e1, e2, hdd, k⟩ => ⟨true, by rw [e1]; exact TE.te, fun _ a na => ?_, fun z => by cases z⟩, h⟩
    subst e1 e2
    have w0 : (lw l c).lookup ("line" : Str) = some (V.int l) := by
      have e : (("line" : Str) == ("word" : Str)) = false := by decide +kernel
      simp [lw, List.lookup, e]
    have w1 : (lw l c).lookup ("word" : Str) = some (V.int c) := by simp [lw, List.lookup]
    exact ⟨_, rfl, rfl, rfl, dd, _, _, rfl, hdd, w0, _, rfl, rfl, rfl, dd, _, _, rfl, hdd, w1, (by show 2 ≤ sizeLine; rw [sizeLine_eq]; decide), fun p np => k p np⟩
end
/-! ### text times number -/
def rMulS : R2 := fun x y H Q => ∃ (n m : Nat), x = sv (List.replicate n 32) ∧ y = .int (m : Nat) ∧ ((n = 2 ∧ m < 2) ∨ (n = 1 ∧ m < 3)) ∧ Q (sv (List.replicate (n * m) 32)) H
theorem op_mulS {X : Cx} : OpR X (binaryOp .Mult) rMulS := by
  intro pins s σ H x y v u Q I rx ry h
  obtain ⟨n, m, rfl, rfl, hnm, q⟩ := h
  obtain ⟨t, rfl⟩ := rx
  obtain ⟨t', rfl⟩ := ry
  have small : m ≤ 2 := by omega
  have neg : ¬ (m : Int) < -(2 ^ 63 : Int) := by omega
  have big : ¬ (m : Int) ≥ 2 ^ 63 := by omega
  rcases hnm with ⟨rfl, hm⟩ | ⟨rfl, hm⟩
  · match m, hm, q with
    | 0, _, q => exact PySem.P.mul_str (by decide) (fun a => absurd (by decide) a) (fun a => absurd (by decide) a) ⟨by decide, V.str (mk []), H, I.tok _, ⟨_, by rfl⟩, q⟩
    | 1, _, q => exact PySem.P.mul_str (by decide) (fun _ a => by simp at a) (fun _ a => by simp at a) ⟨.str _, H, I, ⟨t, rfl⟩, q⟩
  · match m, hm, q with
    | 0, _, q => exact PySem.P.mul_str (by decide) (fun a => absurd (by decide) a) (fun a => absurd (by decide) a) ⟨by decide, V.str (mk []), H, I.tok _, ⟨_, by rfl⟩, q⟩
    | 1, _, q => exact PySem.P.mul_str (by decide) (fun _ a => by simp at a) (fun _ a => by simp at a) ⟨.str _, H, I, ⟨t, rfl⟩, q⟩
    | 2, _, q => exact PySem.P.mul_str (by decide) (fun _ _ => by decide +kernel) (fun _ _ => by decide +kernel) ⟨by decide, V.str (mk [32, 32]), H, I.tok _, ⟨_, by rfl⟩, q⟩
end Kw
set_option linter.all false
/-! The plain law, part 7: a line with one word changed. -/
namespace Km
def bends : List W := [east, ra, tea, [122, 122], [48], [48, 48, 55], [49, 48, 48], kw 3, [45, 49], [57]]
theorem bends_ok : ∀ x ∈ bends, (x ≠ [] ∧ 32 ∉ x ∧ 10 ∉ x) ∧ x.length ≤ 8 ∧ ∀ c ∈ x, c < 128 := by decide
theorem bends_kind : ∀ x ∈ bends, kindOf x = none ∨ x = kw 3 := by decide
theorem mem_set {α : Type} {l : List α} {i : Nat} {x y : α} (h : y ∈ l.set i x) : y ∈ l ∨ y = x := List.mem_or_eq_of_mem_set h
theorem lineOk_set {ws : List W} {i : Nat} {x : W} (h : LineOk ws) (hx : x ∈ bends) : LineOk (ws.set i x) := by
  obtain ⟨b1, b2, b3⟩ := bends_ok x hx
  refine ⟨fun p hp => ?_, fun p hp => ?_, by rw [List.length_set]; exact h.fw, fun z => ?_, fun p hp => ?_⟩
  · rcases mem_set hp with q | rfl
    · exact h.pl p q
    · exact b1
  · rcases mem_set hp with q | rfl
    · exact h.sh p q
    · exact b2
  · have := congrArg List.length z
    rw [List.length_set] at this
    exact h.ne (List.length_eq_zero_iff.mp (by simpa using this))
  · rcases mem_set hp with q | rfl
    · exact h.lo p q
    · exact b3
theorem go_ge {q : Ps} {own : Nat} : ∀ {fs : List FK} {ws : List W} {found : Row} {p e : Nat}, go q own fs ws found p = .error e → p + 2 ≤ e
  | [], [], _, _, _, h => by cases h
  | [], _ :: _, _, _, _, h => by
    cases h
    exact Nat.le_refl _
  | _ :: _, [], _, _, _, h => by
    cases h
    exact Nat.le_refl _
  | f :: fs, w :: ws, found, p, e, h => by
    have d : go q own (f :: fs) (w :: ws) found p = match partM q own f w with
      | none => .error (p + 2)
      | some x => if own = 3 ∧ laneBad q (found ++ [x]) = true then .error (p + 2) else go q own fs ws (found ++ [x]) (p + 1) := rfl
    rw [d] at h
    cases hx : partM q own f w with
    | none =>
      rw [hx] at h
      cases h
      exact Nat.le_refl _
    | some x =>
      rw [hx] at h
      dsimp only at h
      by_cases c : own = 3 ∧ laneBad q (found ++ [x]) = true
      · rw [if_pos c] at h
        cases h
        exact Nat.le_refl _
      · rw [if_neg c] at h
        have := go_ge h
        omega
theorem readRow_ge {q : Ps} {ws : List W} {e : Nat} (h : readRow q ws = .error e) : 1 ≤ e := by
  cases ws with
  | nil => cases h
  | cons w as =>
    have d : readRow q (w :: as) = match kindOf w with
      | none => .error 1
      | some k => if (q k).length = room k then .error 1 else match go q k (form k) as [] 0 with
        | .error e => .error e
        | .ok r => .ok (put q k r) := rfl
    rw [d] at h
    cases hk : kindOf w with
    | none =>
      rw [hk] at h
      cases h
      exact Nat.le_refl _
    | some k =>
      rw [hk] at h
      dsimp only at h
      by_cases c : (q k).length = room k
      · rw [if_pos c] at h
        cases h
        exact Nat.le_refl _
      · rw [if_neg c] at h
        cases hg : go q k (form k) as [] 0 with
        | error e' =>
          rw [hg] at h
          cases h
          have := go_ge hg
          omega
        | ok r =>
          rw [hg] at h
          cases h
/-- a word changed behind words that fit: the error is not ahead of it -/
theorem go_set {q : Ps} {own : Nat} {x : W} : ∀ {fs : List FK} {ws : List W} {found r : Row} {p j e : Nat}, j < ws.length → go q own fs ws found p = .ok r → go q own fs (ws.set j x) found p = .error e → p + j + 2 ≤ e
  | fs, w :: ws, found, r, p, 0, e, _, _, h2 => go_ge h2
  | [], w :: ws, found, r, p, j + 1, e, _, h, _ => by cases h
  | f :: fs, w :: ws, found, r, p, j + 1, e, hj, h, h2 => by
    obtain ⟨w', ws', y, e1, h3, h4, h5⟩ := go_back h
    cases e1
    rw [List.set_cons_succ, go_step h3 h4] at h2
    have := go_set (by simpa using hj) h5 h2
    omega
theorem readRow_set {q q' : Ps} {ws : List W} {x : W} {i e : Nat} (hi : i < ws.length) (h : readRow q ws = .ok q') (h2 : readRow q (ws.set i x) = .error e) : i + 1 ≤ e := by
  cases ws with
  | nil => simp at hi
  | cons w as =>
    cases i with
    | zero => exact readRow_ge h2
    | succ j =>
      rw [List.set_cons_succ] at h2
      have d : ∀ bs, readRow q (w :: bs) = match kindOf w with
        | none => .error 1
        | some k => if (q k).length = room k then .error 1 else match go q k (form k) bs [] 0 with
          | .error e => .error e
          | .ok r => .ok (put q k r) := fun _ => rfl
      rw [d] at h h2
      cases hk : kindOf w with
      | none =>
        rw [hk] at h
        cases h
      | some k =>
        rw [hk] at h h2
        dsimp only at h h2
        by_cases c : (q k).length = room k
        · rw [if_pos c] at h
          cases h
        · rw [if_neg c] at h h2
          cases hg : go q k (form k) as [] 0 with
          | error e' =>
            rw [hg] at h
            cases h
          | ok r =>
            cases hg2 : go q k (form k) (as.set j x) [] 0 with
            | error e' =>
              rw [hg2] at h2
              cases h2
              have := go_set (by simpa using hi) hg hg2
              omega
            | ok r2 =>
              rw [hg2] at h2
              cases h2
/-- what is said of a line whose word is changed -/
theorem kd_set {q q1 q2 : Ps} (S : Sound q) {ws : List W} {x : W} {i : Nat} (hw : ws ∈ lines q) (hx : x ∈ bends) (h : readRow q1 (ws.set i x) = .ok q2) : kd (ws.set i x) = kd ws := by
  obtain ⟨k, r, hk, hr, rfl⟩ := mem_lines hw
  cases i with
  | succ j => rfl
  | zero =>
    have e0 : (rowWs k r).set 0 x = x :: r.map fText := rfl
    rw [e0] at h ⊢
    rcases bends_kind x hx with e | rfl
    · have d : readRow q1 (x :: r.map fText) = .error 1 := by simp only [readRow, e]
      rw [d] at h
      cases h
    · -- the word lane ahead of a row of another kind
      have d : readRow q1 (kw 3 :: r.map fText) = if (q1 3).length = room 3 then .error 1 else match go q1 3 (form 3) (r.map fText) [] 0 with
        | .error e => .error e
        | .ok r => .ok (put q1 3 r) := rfl
      rw [d] at h
      by_cases c : (q1 3).length = room 3
      · rw [if_pos c] at h
        cases h
      rw [if_neg c] at h
      cases hg : go q1 3 (form 3) (r.map fText) [] 0 with
      | error e =>
        rw [hg] at h
        cases h
      | ok r2 =>
        obtain ⟨ext, ea⟩ := go_ext_back (by omega) hg
        obtain ⟨u, g, a, b, p, rfl, _, _, a0, a1, a2, a3, a4, _⟩ := ext
        have el := congrArg List.length ea
        simp only [List.length_map] at el
        match k, hk, hr with
        | 0, _, hr =>
          obtain ⟨v, rfl, _⟩ := S.nm 0 (by omega) r hr
          simp at el
        | 1, _, hr =>
          obtain ⟨v, rfl, _⟩ := S.nm 1 (by omega) r hr
          simp at el
        | 2, _, hr =>
          obtain ⟨v, rfl, _⟩ := S.nm 2 (by omega) r hr
          simp at el
        | 3, _, hr => rfl
        | 4, _, hr =>
          obtain ⟨s, h', it, d', c', rfl, n0, n1, n2, _⟩ := S.sp r hr
          have e3 : it = dig a.toNat := by
            injection ea with _ ea
            injection ea with _ ea
            injection ea with ea _
          have h1 := numIn_name (m := 9) (S.names_ok (k := 2) (by omega) it n2)
          rw [e3, numIn_ge a0 (by omega) (by omega)] at h1
          omega
/-- the text with one word changed -/
def bentT (A : List (List W)) (w : List W) (B : List (List W)) : W := jn [10] ((A ++ w :: B).map (jn [32]))
theorem bent_lines {q : Ps} (V : Valid q) {A B : List (List W)} {w : List W} {i : Nat} {x : W} (e : lines q = A ++ w :: B) (hx : x ∈ bends) : ∀ ws ∈ A ++ w.set i x :: B, LineOk ws := fun ws hws => by
  have all := V.toSound.lines_ok
  rw [e] at all
  rcases List.mem_append.mp hws with h | h
  · exact all ws (by simp [h])
  · rcases List.mem_cons.mp h with rfl | h
    · exact lineOk_set (all w (by simp)) hx
    · exact all ws (by simp [h])
theorem bent_rows {q : Ps} (V : Valid q) {A B : List (List W)} {w : List W} {i : Nat} {x : W} (e : lines q = A ++ w :: B) (hx : x ∈ bends) : rowsOf (bentT A (w.set i x) B) = A ++ w.set i x :: B := rowsOf_txt (bent_lines V e hx) (by simp)
theorem bent_error {q : Ps} (V : Valid q) {A B : List (List W)} {w : List W} {i l c : Nat} {x : W} (e : lines q = A ++ w :: B) (hi : i < w.length) (hx : x ∈ bends) (h : readCat (bentT A (w.set i x) B) = .error (l, c)) : A.length + 1 ≤ l ∧ (l = A.length + 1 → i + 1 ≤ c) := by
  have r0 := read_lines V.toSound 0
  rw [e] at r0
  obtain ⟨q1, h1, h2⟩ := readRows_split r0
  rw [Nat.zero_add] at h2
  have h3 := readRows_app (w.set i x :: B) A ps0 q1 0 h1
  rw [Nat.zero_add] at h3
  unfold readCat at h
  rw [bent_rows V e hx, h3, readRows_cons] at h
  rw [readRows_cons] at h2
  cases hw : readRow q1 w with
  | error e' =>
    rw [hw] at h2
    cases h2
  | ok q2 =>
    cases hb : readRow q1 (w.set i x) with
    | error e' =>
      rw [hb] at h
      cases h
      exact ⟨Nat.le_refl _, fun _ => readRow_set hi hw hb⟩
    | ok q3 =>
      rw [hb] at h
      dsimp only at h
      cases hc : readRows q3 B (A.length + 1) with
      | error p =>
        obtain ⟨l', c'⟩ := p
        rw [hc] at h
        cases h
        have := readRows_line hc
        exact ⟨by omega, fun z => by omega⟩
      | ok q4 =>
        rw [hc] at h
        dsimp only at h
        by_cases hl : lacks q4 = true
        · rw [if_pos hl] at h
          cases h
          rw [List.length_append, List.length_cons]
          exact ⟨by omega, fun z => by omega⟩
        · rw [if_neg hl] at h
          cases h
theorem valid_of {q : Ps} (S : Sound q) (h : lacks q = false) : Valid q := by
  refine ⟨S, fun k hk z => ?_⟩
  unfold lacks at h
  simp only [Bool.or_eq_false_iff] at h
  obtain ⟨⟨h0, h1⟩, h2⟩ := h
  match k, hk, z with
  | 0, _, z => rw [z] at h0; cases h0
  | 1, _, z => rw [z] at h1; cases h1
  | 2, _, z => rw [z] at h2; cases h2
theorem bent_ok {q q' : Ps} (V : Valid q) {A B : List (List W)} {w : List W} {i : Nat} {x : W} (e : lines q = A ++ w :: B) (hx : x ∈ bends) (h : readCat (bentT A (w.set i x) B) = .ok q') : Valid q' ∧ writeCat q' = bentT A (w.set i x) B := by
  unfold readCat at h
  rw [bent_rows V e hx] at h
  cases hr : readRows ps0 (A ++ w.set i x :: B) 0 with
  | error p =>
    rw [hr] at h
    cases h
  | ok q4 =>
    rw [hr] at h
    dsimp only at h
    cases hl : lacks q4 with
    | true =>
      rw [hl] at h
      cases h
    | false =>
      rw [hl, if_neg Bool.false_ne_true] at h
      cases h
      obtain ⟨S', s, e1, e2, e3⟩ := readRows_back hr (fun ws hws => (bent_lines V e hx ws hws).ne) sound0
      refine ⟨valid_of S' hl, ?_⟩
      have hk : (s.map (·.1)).Pairwise (· ≤ ·) := by
        rw [← kd_rows e2, ← e1]
        obtain ⟨q1, h1, h2⟩ := readRows_split hr
        rw [readRows_cons] at h2
        cases hb : readRow q1 (w.set i x) with
        | error e' =>
          rw [hb] at h2
          cases h2
        | ok q3 =>
          have k1 := kd_set (q := q) V.toSound (ws := w) (by rw [e]; simp) hx hb
          have k2 := kd_lines q
          rw [e] at k2
          rw [List.map_append, List.map_cons, k1, ← List.map_cons, ← List.map_append]
          exact k2
      unfold writeCat bentT
      rw [e3, lines_putAll hk e2, ← e1]
end Km
set_option Elab.async false
set_option linter.all false
set_option maxRecDepth 100000
set_option maxHeartbeats 800000
/-! The walk, part 27: data displayed; the law's last part. -/
namespace Kw
open PySem PySem.Spec PyProof.Rows L2 Km LamX
/-! ### expressions that give data -/
def tD (K : PySem.W.Frag) (Pre : L2.St → Prop) (d : PyData) : TE := fun σ H Q => Pre σ ∧ ∀ v H', Same H H' → Dp K H' v d → Q v H'
def tDs (K : PySem.W.Frag) (Pre : L2.St → Prop) (ds : List PyData) : TA := fun σ H Q => Pre σ ∧ ∀ vs H', Same H H' → DpAll K H' vs ds → Q vs H'
section
variable {X : Cx} {K : PySem.W.Frag} {Pre : L2.St → Prop}
theorem pd_int {i : Int} {j : Nat} {pos : Pos} : PE X (.Constant (.int i) j pos) (tD K Pre (.int i)) := ⟨fun pins s σ H Q I h => pe_int.run pins s σ H Q I (h.2 _ _ (Same.refl _) (.int i))⟩
theorem pd_str {x : Str} {j : Nat} {pos : Pos} : PE X (.Constant (.str x) j pos) (tD K Pre (.str x)) := ⟨fun pins s σ H Q I h => pe_str.run pins s σ H Q I (h.2 _ _ (Same.refl _) (.str x))⟩
theorem pds_nil : PA X [] (tDs K Pre []) := ⟨fun pos pins s σ H Q I h => pa_nil.run pos pins s σ H Q I (h.2 _ _ (Same.refl _) .nil)⟩
theorem pds_cons {e : Expr} {es : List Expr} {d : PyData} {ds : List PyData} (h : PE X e (tD K Pre d)) (t : PA X es (tDs K Pre ds)) (hs : starEach (e :: es) X.env = (false, eval e X.env) :: starEach es X.env := by rfl) : PA X (e :: es) (tDs K Pre (d :: ds)) :=
  ⟨fun pos pins s σ H Q I q => (pa_cons h t hs).run pos pins s σ H Q I ⟨q.1, fun v H1 s1 d1 => ⟨q.1, fun vs H2 s2 d2 => q.2 _ _ (s1.trans s2) (.cons (dp_same s2 _ _ d1) d2)⟩⟩⟩
theorem pd_tup {es : List Expr} {ds : List PyData} {k : Nat} {pos : Pos} (h : PA X es (tDs K Pre ds)) (hl : ds.length ≤ 1000 := by decide) : PE X (.Tuple es k pos) (tD K Pre (.tuple ds)) :=
  ⟨fun pins s σ H Q I q => (pe_tup h).run pins s σ H Q I ⟨q.1, fun vs H1 s1 d1 => ⟨by rw [dpAll_len d1, sizeLine_eq]; omega, fun p np => q.2 _ _ (s1.trans (same_new (Same.refl _) np)) (.tup (.of upd_same) (dps_same (same_new (Same.refl _) np) _ _ d1))⟩⟩⟩
/-- a local text -/
theorem pd_var {x : Str} {u : W} {i : Nat} {pos : Pos} (h : ∀ σ, Pre σ → σ[i]? = some (some (sv u))) (hN : X.N[i]? = some x) (hv : Vis X.env.scope x) (hd : (x == ("__debug__" : Str)) = false := by decide) (hc : (x == ("__classdict__" : Str)) = false := by decide) : PE X (.Name x pos) (tD K Pre (dS u)) :=
  ⟨fun pins s σ H Q I q => (pe_var (i := i) hN hv hd hc).run pins s σ H Q I ⟨_, h σ q.1, q.2 _ _ (Same.refl _) (.str _)⟩⟩
/-- texts joined -/
theorem pd_cat {e1 e2 : Expr} {a b : W} {pos : Pos} (h1 : PE X e1 (tD K Pre (dS a))) (h2 : PE X e2 (tD K Pre (dS b))) (hl : a.length + b.length ≤ 1000) : PE X (.BinOp e1 .Add e2 pos) (tD K Pre (dS (a ++ b))) :=
  ⟨fun pins s σ H Q I q => (pe_op op_add_str h1 h2).run pins s σ H Q I ⟨q.1, fun v H1 s1 d1 => ⟨q.1, fun u H2 s2 d2 => by
    obtain rfl := dp_str d1
    obtain rfl := dp_str d2
    refine ⟨_, _, rfl, rfl, by rw [mk_len, mk_len, sizeLine_eq]; omega, ?_⟩
    rw [mk_app]
    exact q.2 _ _ (s1.trans s2) (.str _)⟩⟩⟩
theorem pd_lit {e : Expr} {d d' : PyData} (h : PE X e (tD K Pre d)) (e' : d = d') : PE X e (tD K Pre d') := e' ▸ h
end
/-- two numbers as data -/
def pairD (p : Nat × Nat) : PyData := .tuple [.int (p.1 : Nat), .int (p.2 : Nat)]
def caseD (p : W × (Nat × Nat)) : PyData := .tuple [dS p.1, pairD p.2]
def someD (p : W × Nat) : PyData := .tuple [dS p.1, .int (p.2 : Nat)]
theorem eqv_pair (p : Nat × Nat) : PyData.eqv (pairD p) (pairD p) = true := by
  show ((((p.1 : Nat) : Int) == ((p.1 : Nat) : Int)) && ((((p.2 : Nat) : Int) == ((p.2 : Nat) : Int)) && true)) = true
  simp
theorem sh_pair (p : Nat × Nat) : SeqAt.shaped (pairD p) = true := by
  have e : SeqAt.shaped (pairD p) = (((true && (true && true))) && decide (max 0 (max 0 0) + 1 ≤ 64)) := rfl
  rw [e]
  rfl
theorem case_small : ∀ p ∈ caseTexts, (∀ c ∈ p.1, c < 128) ∧ p.1.length ≤ 100 := by decide +kernel
theorem some_small : ∀ p ∈ someTexts, (∀ c ∈ p.1, c < 128) ∧ p.1.length ≤ 100 := by decide +kernel
theorem okW_low {u : W} (h : ∀ c ∈ u, c < 128) : okW u := fun c hc => by
  have := h c hc
  omega
theorem extN_ts {H H' : Hp} (e : ExtN H H') : TS H H' := ⟨(fun b xs h => e b _ h fun ps z => nomatch z), (fun b o u h => e b _ h fun ps z => nomatch z)⟩
theorem tabs_sib {K : PySem.W.Frag} {a sc : Addr} {ns : List Int} {T : List (Addr × Str)} {H H' : Hp} (r : RowL K sc ns H a) (s : Sib a H H') (t : Tabs T H) : Tabs T H' := fun p hp => by
  obtain ⟨i, seed, rest, ha, _⟩ := r
  obtain ⟨ps, h1, h2, h3⟩ := t p hp
  refine ⟨ps, s _ _ h1 (ne_of h1 ha (by intro z; cases z)), h2, fun pos cv hc => ?_⟩
  obtain ⟨c, e1, e2⟩ := h3 pos cv hc
  exact ⟨c, e1, s _ _ e2 (ne_of e2 ha (by intro z; cases z))⟩
theorem err_of {α : Type} {x : Except (Nat × Nat) α} {n : Nat × Nat} (h : errIs2 x n = true) : x = .error n := by
  cases x with
  | error e =>
    have h : (e == n) = true := h
    rw [eq_of_beq h]
  | ok a => cases h
theorem err_of1 {α : Type} {x : Except Nat α} {n : Nat} (h : errIs x n = true) : x = .error n := by
  cases x with
  | error e =>
    have h : (e == n) = true := h
    rw [eq_of_beq h]
  | ok a => cases h
theorem dpAll_append {K : PySem.W.Frag} {H : Hp} : ∀ {vs us : List V} {ds es : List PyData}, DpAll K H vs ds → DpAll K H us es → DpAll K H (vs ++ us) (ds ++ es)
  | _, _, _, _, .nil, h => h
  | _, _, _, _, .cons a t, h => .cons a (dpAll_append t h)
/-- a list and a new one joined -/
theorem grow {K : PySem.W.Frag} {G G2 : Hp} {l0 l1 : Addr} {vs0 vs1 : List V} {ds0 ds1 : List PyData} (h0 : G l0 = some (.lst vs0)) (d0 : DpAll K G vs0 ds0) (s2 : Same G G2) (d1 : DpAll K G2 vs1 ds1) (n1 : G2 l1 = none) :
    (upd G2 l1 (.lst vs1)) l0 = some (.lst vs0) ∧ ∀ l2, upd G2 l1 (.lst vs1) l2 = none → Same G (upd (upd G2 l1 (.lst vs1)) l2 (.lst (vs0 ++ vs1))) ∧ (upd (upd G2 l1 (.lst vs1)) l2 (.lst (vs0 ++ vs1))) l2 = some (.lst (vs0 ++ vs1)) ∧ DpAll K (upd (upd G2 l1 (.lst vs1)) l2 (.lst (vs0 ++ vs1))) (vs0 ++ vs1) (ds0 ++ ds1) := by
  have a1 : Same G2 (upd G2 l1 (.lst vs1)) := same_new (Same.refl _) n1
  refine ⟨a1 _ _ (s2 _ _ h0), fun l2 n2 => ?_⟩
  have a2 : Same (upd G2 l1 (.lst vs1)) (upd (upd G2 l1 (.lst vs1)) l2 (.lst (vs0 ++ vs1))) := same_new (Same.refl _) n2
  exact ⟨s2.trans (a1.trans a2), upd_same, dpAll_append (dps_same (s2.trans (a1.trans a2)) _ _ d0) (dps_same (a1.trans a2) _ _ d1)⟩
theorem line_le {vs : List V} {ds : List PyData} (h : vs.length = ds.length) (k : ds.length ≤ 100) : vs.length ≤ sizeLine := by
  rw [h, sizeLine_eq]
  omega
abbrev nmLaw : List Str := ["_law_script", "_law_row", "_law_catalog_here", "_law_order_here", "_law_text", "_law_rows", "_law_loose", "_law_part", "_law_line", "_law_at", "_law_words", "_law_place", "_law_bent", "_law_told", "_law_same", "_law_cases", "_law_case", "_law_due", "_law_items", "_law_region", "_law_some", "_law_word"]
theorem scLaw : FnScope nmLaw ["_law_script"] (defScope sLaw) := ⟨rfl, rfl, rfl, by decide +kernel, rfl, by decide +kernel, by decide +kernel⟩
/-- the law's context -/
abbrev lawX (P : Program) (w : World) (K : PySem.W.Frag) (mg : Str → Option Value) (base : Heap) (f cL : Addr) (A : Around) (outer : List Env) (s : Shared) (H : Hp) (E : XK) : Cx := cxOf (L2.CX P w) P w K mg base nmLaw "law" (defScope sLaw) f (.ref cL) A outer s H E
/-- _law_said as the written part has it -/
structure SaidAt (K : PySem.W.Frag) (mg : Str → Option Value) : Prop where
  ex : ∃ (g : Addr) (kV doc pm cdv ct oc : Value) (an od : Option Addr) (osl : Array (Option Value)), mg "_law_said" = some (.ref g) ∧ PySem.W.keepIn K (.ref g) = true ∧ K.lookup g = some ⟨oc, od, .func (PySem.W.fnOf "_law_said" "_law_said" (defArgs sSaid) (defBody sSaid) (defScope sSaid) .none kV doc pm an cdv ct), osl⟩ ∧ PySem.W.codeIn K cdv "_law_said" = true
theorem said_at {K : PySem.W.Frag} {mg : Str → Option Value} (D : DefAt K mg "_law_said" sSaid) : SaidAt K mg := by
  obtain ⟨f, fd, F, hm⟩ := D.ex
  obtain ⟨oc, od, kV, doc, pm, an, cdv, ct, osl, rfl, lk, hcd⟩ := F.ex
  exact ⟨f, kV, doc, pm, cdv, ct, oc, an, od, osl, hm, F.kp, lk, hcd⟩
end Kw
set_option Elab.async false
set_option linter.all false
set_option maxRecDepth 100000
set_option maxHeartbeats 800000
/-! The walk, part 27b: texts that are small. -/
namespace Kw
open PySem PySem.Spec PyProof.Rows L2 Km LamX
theorem jn_mem {s : W} : ∀ {ws : List W} {c : Nat}, c ∈ jn s ws → c ∈ s ∨ ∃ p ∈ ws, c ∈ p
  | [], c, h => by cases h
  | [x], c, h => .inr ⟨x, by simp, h⟩
  | x :: y :: r, c, h => by
    have h : c ∈ x ++ s ++ jn s (y :: r) := h
    rcases List.mem_append.mp h with h | h
    · rcases List.mem_append.mp h with h | h
      · exact .inr ⟨x, by simp, h⟩
      · exact .inl h
    · rcases jn_mem h with h | ⟨p, hp, h⟩
      · exact .inl h
      · exact .inr ⟨p, by simp [hp], h⟩
theorem txt_small {L : List (List W)} (h : ∀ ws ∈ L, LineOk ws) (hl : L.length ≤ 49) : okW (jn [10] (L.map (jn [32]))) ∧ (jn [10] (L.map (jn [32]))).length ≤ 10000 := by
  refine ⟨fun c hc => ?_, ?_⟩
  · rcases jn_mem hc with k | ⟨p, hp, k⟩
    · rw [List.mem_singleton] at k
      omega
    · obtain ⟨ws, hws, rfl⟩ := List.mem_map.mp hp
      rcases jn_mem k with k | ⟨u, hu, k⟩
      · rw [List.mem_singleton] at k
        omega
      · have := (h ws hws).lo u hu c k
        omega
  · have h1 := jn_len [10] (L.map (jn [32]))
    have h2 := sum_le (k := 66) (ws := L.map (jn [32])) fun p hp => by
      obtain ⟨ws, hws, rfl⟩ := List.mem_map.mp hp
      exact ((h ws hws).len (s := [32]) (by simp)).1
    rw [List.length_map] at h1 h2
    have h3 : L.length * 66 ≤ 49 * 66 := Nat.mul_le_mul_right 66 hl
    have e : ([10] : W).length = 1 := rfl
    rw [e] at h1
    omega
theorem line_spl {ws : List W} (h : LineOk ws) : splA 32 [] (jn [32] ws) = ws := splA_jn 32 h.ne fun p hp => (h.pl p hp).2.1
end Kw
set_option Elab.async false
set_option linter.all false
set_option maxRecDepth 100000
set_option maxHeartbeats 20000000
/-! The walk, part 28: the law's last part: small texts. -/
namespace Kw
open PySem PySem.Spec PyProof.Rows L2 Km LamX
theorem pd_strW {X : Cx} {K : PySem.W.Frag} {Pre : L2.St → Prop} {x : Str} {j : Nat} {pos : Pos} (a : W) (h : x = mk a) : PE X (.Constant (.str x) j pos) (tD K Pre (dS a)) := by
  subst h
  exact pd_str
theorem is3_hd {r : Nat} (h : r < 3) : (is3.take (1 + r))[0]? = some tea := by
  match r, h with
  | 0, _ => rfl
  | 1, _ => rfl
  | 2, _ => rfl
theorem gs2_hd {r : Nat} (h : r < 2) : (gs2.take (1 + r))[0]? = some ra := by
  match r, h with
  | 0, _ => rfl
  | 1, _ => rfl
theorem is3_mem {r : Nat} (h : r < 3) : is3.take (1 + r) ∈ [[tea], [tea, pot], [tea, pot, cup]] := by
  match r, h with
  | 0, _ => decide
  | 1, _ => decide
  | 2, _ => decide
theorem gs2_mem {r : Nat} (h : r < 2) : gs2.take (1 + r) ∈ [[ra], [ra, rb]] := by
  match r, h with
  | 0, _ => decide
  | 1, _ => decide
section
variable {P : Program} {w : World} {K : PySem.W.Frag} {mg : Str → Option Value} {base : Heap} {C R : Addr}
theorem law_D (T : Txt K mg w) (TE : TxtE K mg C R) (SA : SaidAt K mg) {cL Pt f : Addr} (TB : TabB base mg cL Pt) {A : Around} {outer : List Env} {s : Shared} {H : Hp} {E : XK} (hr : Room 7 (lawX P w K mg base f cL A outer s H E).A) :
    ∃ t, PSs (lawX P w K mg base f cL A outer s H E) ((defBody sLaw).drop 18) t ∧ ∀ (D : Ends) (H1 : Hp) (x0 x3 x4 x5 x6 x7 x8 x9 x10 x11 x12 x13 x14 x15 x16 x17 x18 x19 x20 x21 : Option V) (a sc : Addr) (ns : List Int) (v : V) (q : Ps), RowL K sc ns H1 a → LawCat q → Dp K H1 v (catD q) →
      Tabs [(Pt, (lawX P w K mg base f cL A outer s H E).env.qual ++ "<lambda>")] H1 → (∀ H', D.rt (.bl true) H') → t D [x0, some (.ref a), some v, x3, x4, x5, x6, x7, x8, x9, x10, x11, x12, x13, x14, x15, x16, x17, x18, x19, x20, x21] H1 := by
  obtain ⟨gS, kV, doc, pm, cdv, ct, oc, an, od, osl, mS, kS, lS, hcS⟩ := SA.ex
  have hr2 := hr.mono (show 2 ≤ 7 by decide)
  have hu4 := hu64 hr
  refine ⟨_, (pss_cons (ps_set (i := 15) scLaw.nd rfl (Or.inl rfl) (pe_lst (pds_cons (K := K) (Pre := (fun _ => True)) (pd_tup (pds_cons pd_str (pds_cons (pd_tup (pds_cons pd_int (pds_cons pd_int pds_nil))) pds_nil))) (pds_cons (K := K) (Pre := (fun _ => True)) (pd_tup (pds_cons pd_str (pds_cons (pd_tup (pds_cons pd_int (pds_cons pd_int pds_nil))) pds_nil))) (pds_cons (K := K) (Pre := (fun _ => True)) (pd_tup (pds_cons pd_str (pds_cons (pd_tup (pds_cons pd_int (pds_cons pd_int pds_nil))) pds_nil))) (pds_cons (K := K) (Pre := (fun _ => True)) (pd_tup (pds_cons pd_str (pds_cons (pd_tup (pds_cons pd_int (pds_cons pd_int pds_nil))) pds_nil))) (pds_cons (K := K) (Pre := (fun _ => True)) (pd_tup (pds_cons pd_str (pds_cons (pd_tup (pds_cons pd_int (pds_cons pd_int pds_nil))) pds_nil))) pds_nil)))))))
      (pss_cons (ps_set (i := 15) scLaw.nd rfl (Or.inl rfl) (pe_op op_cat (pv 15) (pe_lst (pds_cons (K := K) (Pre := (fun _ => True)) (pd_tup (pds_cons pd_str (pds_cons (pd_tup (pds_cons pd_int (pds_cons pd_int pds_nil))) pds_nil))) (pds_cons (K := K) (Pre := (fun _ => True)) (pd_tup (pds_cons pd_str (pds_cons (pd_tup (pds_cons pd_int (pds_cons pd_int pds_nil))) pds_nil))) pds_nil)))))
      (pss_cons (ps_set (i := 15) scLaw.nd rfl (Or.inl rfl) (pe_op op_cat (pv 15) (pe_lst (pds_cons (K := K) (Pre := (fun _ => True)) (pd_tup (pds_cons pd_str (pds_cons (pd_tup (pds_cons pd_int (pds_cons pd_int pds_nil))) pds_nil))) (pds_cons (K := K) (Pre := (fun _ => True)) (pd_tup (pds_cons pd_str (pds_cons (pd_tup (pds_cons pd_int (pds_cons pd_int pds_nil))) pds_nil))) pds_nil)))))
      (pss_cons (ps_set (i := 15) scLaw.nd rfl (Or.inl rfl) (pe_op op_cat (pv 15) (pe_lst (pds_cons (K := K) (Pre := (fun _ => True)) (pd_tup (pds_cons pd_str (pds_cons (pd_tup (pds_cons pd_int (pds_cons pd_int pds_nil))) pds_nil))) pds_nil))))
      (pss_cons (ps_asg (pe_dn (ok_pick T) hr2 pass0 (pa_cons (pv 1) (pa_cons (pv 15) pa_nil))) (pg_tup rfl (pgs_cons (pg_name (i := 16) scLaw.nd rfl (Or.inr rfl)) (pgs_cons (pg_name (i := 17) scLaw.nd rfl (Or.inl rfl)) pgs_nil))))
      (pss_cons (ps_if (pt_cmpR (op_neDK K hu4) (pe_lamD (T := [(Pt, (lawX P w K mg base f cL A outer s H E).env.qual ++ "<lambda>")]) (k := 5) (by rfl) mS kS lS hcS (Binds.all fun us hl => match us, hl with | [_], _ => rfl) scSd rfl (Or.inl rfl) (said_gives TE rfl rfl) TB rfl (List.mem_singleton.mpr rfl) (fun p hp _ => by rw [List.mem_singleton.mp hp]) hr (lamD_by (show lamDB nmLaw (defScope sLaw) _ = true by decide +kernel)) rfl rfl (fun _ _ _ _ _ _ _ _ _ h => BindsTo.of_defaults rfl h rfl rfl rfl) rfl
        (fun A outer s H E f c' hr => pe_dn (ok_readC T TE) hr (passes_call (takes_of rfl rfl rfl rfl) (fun _ _ _ _ h => h)) (pa_cons (pv 16) pa_nil))) (pv 17) rfl) (pss_one (ps_ret pe_bl)) pss_nil)
      (pss_cons (ps_par (i := 18) (j := 19) rfl scLaw.nd rfl rfl (by decide) rfl rfl (pa_cons (pe_ix (ix_tK K) (pe_ix (ix_tK K) (pv 2) pe_int (fun _ _ => rfl)) pe_int (fun _ _ => rfl)) (pa_cons (pe_ix (ix_tK K) (pe_ix (ix_tK K) (pv 2) pe_int (fun _ _ => rfl)) pe_int (fun _ _ => rfl)) pa_nil)) rfl)
      (pss_cons (ps_set (i := 20) scLaw.nd rfl (Or.inl rfl) (pe_lst (pds_cons (K := K) (Pre := (fun σ => σ[19]? = some (some (sv ra)) ∧ σ[18]? = some (some (sv tea)))) (pd_tup (pds_cons pd_str (pds_cons pd_int pds_nil))) (pds_cons (K := K) (Pre := (fun σ => σ[19]? = some (some (sv ra)) ∧ σ[18]? = some (some (sv tea)))) (pd_tup (pds_cons pd_str (pds_cons pd_int pds_nil))) (pds_cons (K := K) (Pre := (fun σ => σ[19]? = some (some (sv ra)) ∧ σ[18]? = some (some (sv tea)))) (pd_tup (pds_cons pd_str (pds_cons pd_int pds_nil))) (pds_cons (K := K) (Pre := (fun σ => σ[19]? = some (some (sv ra)) ∧ σ[18]? = some (some (sv tea)))) (pd_tup (pds_cons (pd_cat (pd_strW [111, 32] (by decide +kernel)) (pd_var (u := ra) (i := 19) (fun _ h => h.1) rfl (Or.inl rfl)) (by decide)) (pds_cons pd_int pds_nil))) (pds_cons (K := K) (Pre := (fun σ => σ[19]? = some (some (sv ra)) ∧ σ[18]? = some (some (sv tea)))) (pd_tup (pds_cons (pd_cat (pd_cat (pd_strW [111, 32] (by decide +kernel)) (pd_var (u := ra) (i := 19) (fun _ h => h.1) rfl (Or.inl rfl)) (by decide)) (pd_strW [32, 54, 49] (by decide +kernel)) (by decide)) (pds_cons pd_int pds_nil))) pds_nil)))))))
      (pss_cons (ps_set (i := 20) scLaw.nd rfl (Or.inl rfl) (pe_op op_cat (pv 20) (pe_lst (pds_cons (K := K) (Pre := (fun σ => σ[19]? = some (some (sv ra)) ∧ σ[18]? = some (some (sv tea)))) (pd_tup (pds_cons (pd_cat (pd_cat (pd_strW [111, 32] (by decide +kernel)) (pd_var (u := ra) (i := 19) (fun _ h => h.1) rfl (Or.inl rfl)) (by decide)) (pd_strW [32, 49, 32, 49] (by decide +kernel)) (by decide)) (pds_cons pd_int pds_nil))) pds_nil))))
      (pss_cons (ps_set (i := 20) scLaw.nd rfl (Or.inl rfl) (pe_op op_cat (pv 20) (pe_lst (pds_cons (K := K) (Pre := (fun σ => σ[19]? = some (some (sv ra)) ∧ σ[18]? = some (some (sv tea)))) (pd_tup (pds_cons (pd_cat (pd_cat (pd_cat (pd_strW [111, 32] (by decide +kernel)) (pd_var (u := ra) (i := 19) (fun _ h => h.1) rfl (Or.inl rfl)) (by decide)) (pd_strW [32, 49, 32, 49, 32] (by decide +kernel)) (by decide)) (pd_var (u := tea) (i := 18) (fun _ h => h.2) rfl (Or.inl rfl)) (by decide)) (pds_cons pd_int pds_nil))) (pds_cons (K := K) (Pre := (fun σ => σ[19]? = some (some (sv ra)) ∧ σ[18]? = some (some (sv tea)))) (pd_tup (pds_cons (pd_cat (pd_cat (pd_cat (pd_cat (pd_strW [111, 32] (by decide +kernel)) (pd_var (u := ra) (i := 19) (fun _ h => h.1) rfl (Or.inl rfl)) (by decide)) (pd_strW [32, 49, 32, 49, 32] (by decide +kernel)) (by decide)) (pd_var (u := tea) (i := 18) (fun _ h => h.2) rfl (Or.inl rfl)) (by decide)) (pd_strW [32, 48] (by decide +kernel)) (by decide)) (pds_cons pd_int pds_nil))) pds_nil)))))
      (pss_cons (ps_set (i := 20) scLaw.nd rfl (Or.inl rfl) (pe_op op_cat (pv 20) (pe_lst (pds_cons (K := K) (Pre := (fun σ => σ[19]? = some (some (sv ra)) ∧ σ[18]? = some (some (sv tea)))) (pd_tup (pds_cons (pd_cat (pd_cat (pd_cat (pd_cat (pd_cat (pd_cat (pd_strW [111, 32] (by decide +kernel)) (pd_var (u := ra) (i := 19) (fun _ h => h.1) rfl (Or.inl rfl)) (by decide)) (pd_strW [32, 49, 32, 49, 32] (by decide +kernel)) (by decide)) (pd_var (u := tea) (i := 18) (fun _ h => h.2) rfl (Or.inl rfl)) (by decide)) (pd_strW [47] (by decide +kernel)) (by decide)) (pd_var (u := tea) (i := 18) (fun _ h => h.2) rfl (Or.inl rfl)) (by decide)) (pd_strW [32, 49] (by decide +kernel)) (by decide)) (pds_cons pd_int pds_nil))) pds_nil))))
      (pss_cons (ps_set (i := 20) scLaw.nd rfl (Or.inl rfl) (pe_op op_cat (pv 20) (pe_lst (pds_cons (K := K) (Pre := (fun σ => σ[19]? = some (some (sv ra)) ∧ σ[18]? = some (some (sv tea)))) (pd_tup (pds_cons (pd_cat (pd_cat (pd_cat (pd_cat (pd_strW [111, 32] (by decide +kernel)) (pd_var (u := ra) (i := 19) (fun _ h => h.1) rfl (Or.inl rfl)) (by decide)) (pd_strW [32, 49, 32, 49, 32] (by decide +kernel)) (by decide)) (pd_var (u := tea) (i := 18) (fun _ h => h.2) rfl (Or.inl rfl)) (by decide)) (pd_strW [32, 49, 32, 110, 111, 32, 49] (by decide +kernel)) (by decide)) (pds_cons pd_int pds_nil))) pds_nil))))
      (pss_cons (ps_asg (pe_dn (ok_pick T) hr2 pass0 (pa_cons (pv 1) (pa_cons (pv 20) pa_nil))) (pg_tup rfl (pgs_cons (pg_name (i := 8) scLaw.nd rfl (Or.inr rfl)) (pgs_cons (pg_name (i := 21) scLaw.nd rfl (Or.inl rfl)) pgs_nil))))
      (pss_one (ps_ret (pe_cmpR (op_eqDK K hu4) (pe_lamD (T := [(Pt, (lawX P w K mg base f cL A outer s H E).env.qual ++ "<lambda>")]) (k := 5) (by rfl) mS kS lS hcS (Binds.all fun us hl => match us, hl with | [_], _ => rfl) scSd rfl (Or.inl rfl) (said_gives TE rfl rfl) TB rfl (List.mem_singleton.mpr rfl) (fun p hp _ => by rw [List.mem_singleton.mp hp]) hr (lamD_by (show lamDB nmLaw (defScope sLaw) _ = true by decide +kernel)) rfl rfl (fun _ _ _ _ _ _ _ _ _ h => BindsTo.of_defaults rfl h rfl rfl rfl) rfl
        (fun A outer s H E f c' hr => pe_dn (ok_readO T TE) hr (passes_call (takes_of rfl rfl rfl rfl) (fun _ _ _ _ h => h)) (pa_cons (pv 2) (pa_cons (pv 8) pa_nil)))) (pe_tup (pa_cons pe_int (pa_cons (pv 21) pa_nil))) rfl)))))))))))))))),
    ?_⟩
  intro D H1 x0 x3 x4 x5 x6 x7 x8 x9 x10 x11 x12 x13 x14 x15 x16 x17 x18 x19 x20 x21 a sc ns v q hR LC hv hT fin
  obtain ⟨c, g0, g1, g2, g3, g4, ls, ss, rfl, hc, p0, p1, p2, p3, f3, p4, f4⟩ := cat_parts hv
  refine ⟨trivial, fun vs0 J0 r0 e0 => ⟨line_le (dpAll_len e0) (by decide), fun l0 n0 => ?_⟩⟩
  have t0 : Same H1 (upd J0 l0 (.lst vs0)) := r0.trans (same_new (Same.refl _) n0)
  have h0 : (upd J0 l0 (.lst vs0)) l0 = some (.lst vs0) := upd_same
  have d0 := dps_same (same_new (Same.refl _) n0 : Same J0 (upd J0 l0 (.lst vs0))) _ _ e0
  generalize upd J0 l0 (.lst vs0) = G0 at t0 h0 d0 ⊢
  refine ⟨_, rfl, trivial, fun us1 J1 r1 e1 => ⟨line_le (dpAll_len e1) (by decide), fun k1 m1 => ?_⟩⟩
  obtain ⟨a1, b1⟩ := grow h0 d0 r1 e1 m1
  refine ⟨l0, k1, vs0, us1, rfl, rfl, a1, upd_same, by rw [dpAll_len d0, dpAll_len e1, sizeLine_eq]; decide, fun l1 o1 => ?_⟩
  obtain ⟨c1, h1, d1⟩ := b1 l1 o1
  have t1 := t0.trans c1
  generalize upd (upd J1 k1 (.lst us1)) l1 (.lst (vs0 ++ us1)) = G1 at c1 h1 d1 t1 ⊢
  generalize vs0 ++ us1 = vs1 at h1 d1 ⊢
  clear a1 b1 c1 r1 e1 m1 o1 h0 d0 t0
  refine ⟨_, rfl, trivial, fun us2 J2 r2 e2 => ⟨line_le (dpAll_len e2) (by decide), fun k2 m2 => ?_⟩⟩
  obtain ⟨a2, b2⟩ := grow h1 d1 r2 e2 m2
  refine ⟨l1, k2, vs1, us2, rfl, rfl, a2, upd_same, by rw [dpAll_len d1, dpAll_len e2, sizeLine_eq]; decide, fun l2 o2 => ?_⟩
  obtain ⟨c2, h2, d2⟩ := b2 l2 o2
  have t2 := t1.trans c2
  generalize upd (upd J2 k2 (.lst us2)) l2 (.lst (vs1 ++ us2)) = G2 at c2 h2 d2 t2 ⊢
  generalize vs1 ++ us2 = vs2 at h2 d2 ⊢
  clear a2 b2 c2 r2 e2 m2 o2 h1 d1 t1
  refine ⟨_, rfl, trivial, fun us3 J3 r3 e3 => ⟨line_le (dpAll_len e3) (by decide), fun k3 m3 => ?_⟩⟩
  obtain ⟨a3, b3⟩ := grow h2 d2 r3 e3 m3
  refine ⟨l2, k3, vs2, us3, rfl, rfl, a3, upd_same, by rw [dpAll_len d2, dpAll_len e3, sizeLine_eq]; decide, fun l3 o3 => ?_⟩
  obtain ⟨c3, h3, d3⟩ := b3 l3 o3
  have t3 := t2.trans c3
  generalize upd (upd J3 k3 (.lst us3)) l3 (.lst (vs2 ++ us3)) = G3 at c3 h3 d3 t3 ⊢
  generalize vs2 ++ us3 = vs3 at h3 d3 ⊢
  clear a3 b3 c3 r3 e3 m3 o3 h2 d2 t2
  have dc : DpAll K G3 vs3 (caseTexts.map caseD) := by
    refine cast ?_ d3
    kernel_rfl
  clear d3
  have R3 := rowL_same t3 hR
  have len3 : vs3.length = 10 := (dpAll_len dc).trans rfl
  have la3 : l3 ≠ a := fun z => by
    obtain ⟨i, seed, rest, ha, _⟩ := R3
    rw [z, ha] at h3
    have e := Option.some.inj h3
    have e2 : [V.ref sc, .int i, .int seed, .int rest] = vs3 := by injection e
    rw [← e2] at len3
    simp at len3
  refine ⟨_, rfl, _, rfl, a, l3, sc, ns, vs3, rfl, R3, h3, la3, (fun z => by rw [z] at len3; simp at len3), by rw [len3]; omega, fun j v H4 hj s4 R4 => ?_⟩
  obtain ⟨dj, hdj, kj⟩ := dpAll_get dc hj
  rw [List.getElem?_map] at hdj
  obtain ⟨p, hp, rfl⟩ := Option.map_eq_some_iff.mp hdj
  have pm := List.mem_of_getElem? hp
  have t34 := sib_ts R3 s4
  have kj4 := dp_ts t34 _ _ (show tupOnly (caseD p) = true from rfl) kj
  obtain ⟨b, ys, rfl, hb, hys⟩ := dp_tup kj4
  have hv4 := dp_ts ((same_ts t3).trans t34) _ _ (tupOnly_cat q) hv
  have hT4 := hT.ext (fun b o e => t3 b o e)
  obtain ⟨y1, y2, rfl, ky1, ky2⟩ : ∃ y1 y2, ys = [y1, y2] ∧ Dp K H4 y1 (dS p.1) ∧ Dp K H4 y2 (pairD p.2) := by
    cases hys with
    | cons k1 hys =>
      cases hys with
      | cons k2 hys =>
        cases hys
        exact ⟨_, _, rfl, k1, k2⟩
  obtain rfl := dp_str ky1
  refine ⟨b, _, rfl, hb, rfl, _, _, rfl, _, _, rfl, rfl, ?_⟩
  have hce := err_of (case_ok p pm)
  obtain ⟨sm1, sm2⟩ := case_small p pm
  have T4 := tabs_sib R3 s4 hT4
  refine ⟨T4, fun H5 eN T5 => ⟨_, rfl, p.1, rfl, okW_low sm1, by omega, (fun q' hq' => by rw [hce] at hq'; cases hq'), fun l c' hlc d' H6 s6 n6 e6 => ⟨(l : Nat), (c' : Nat), d', rfl, rfl, e6, fun tp ntp => ?_⟩⟩⟩
  have elc : p.2 = (l, c') := by
    rw [hce] at hlc
    injection hlc
  have n7 : Same H6 (upd H6 tp (.tup [.int (l : Nat), .int (c' : Nat)])) := same_new (Same.refl _) ntp
  have g7 : (upd H6 tp (.tup [.int (l : Nat), .int (c' : Nat)])) tp = some (.tup [.int (l : Nat), .int (c' : Nat)]) := upd_same
  generalize upd H6 tp (.tup [.int (l : Nat), .int (c' : Nat)]) = H7 at n7 g7 ⊢
  have s57 := s6.trans n7
  have t47 := (extN_ts eN).trans (same_ts s57)
  have R7 := rowL_same s57 (rowL_ext eN R4)
  have hv7 := dp_ts t47 _ _ (tupOnly_cat q) hv4
  have T7 := T5.ext (fun b o e => s57 b o e)
  have hc7 := sqt_ts (((same_ts t3).trans t34).trans t47) hc
  have p17 := sqt_ts (((same_ts t3).trans t34).trans t47) p1
  have p27 := sqt_ts (((same_ts t3).trans t34).trans t47) p2
  refine ⟨_, rfl, pairD p.2, pairD p.2, ?_, dp_ts t47 _ _ (show tupOnly (pairD p.2) = true from rfl) ky2, sh_pair _, sh_pair _, _, rfl, ?_⟩
  · rw [elc]
    exact .tup (.of g7) (.cons (.int _) (.cons (.int _) .nil))
  rw [eqv_pair]
  obtain ⟨ri, hri, ei⟩ := LC.is
  obtain ⟨rg, hrg, eg⟩ := LC.gs
  have hx2 : ((names q 2).map sv)[0]? = some (sv tea) := by
    rw [ei, List.getElem?_map, is3_hd hri]
    rfl
  have hx1 : ((names q 1).map sv)[0]? = some (sv ra) := by
    rw [eg, List.getElem?_map, gs2_hd hrg]
    rfl
  refine iteF ⟨_, rfl, c, _, _, _, rfl, rfl, hc7, atI_nat (j := 2) rfl, g2, _, _, _, rfl, rfl, p27, at_of (j := 0) rfl hx2, _, rfl, c, _, _, _, rfl, rfl, hc7, atI_nat (j := 1) rfl, g1, _, _, _, rfl, rfl, p17, at_of (j := 0) rfl hx1, _, _, rfl, ?_⟩
  clear R3 R4 T4 T5 hT4 hv4 kj kj4 ky2 hb t34 dc h3 s4 n6 e6 g7 hc p1 p2 hT hv hR t3 f3 f4 p0 p3 p4 s6 eN
  refine ⟨⟨rfl, rfl⟩, fun vs10 J10 r10 e10 => ⟨line_le (dpAll_len e10) (by decide), fun l10 n10 => ?_⟩⟩
  have t10 : Same H7 (upd J10 l10 (.lst vs10)) := r10.trans (same_new (Same.refl _) n10)
  have h10 : (upd J10 l10 (.lst vs10)) l10 = some (.lst vs10) := upd_same
  have d10 := dps_same (same_new (Same.refl _) n10 : Same J10 (upd J10 l10 (.lst vs10))) _ _ e10
  generalize upd J10 l10 (.lst vs10) = G10 at t10 h10 d10 ⊢
  refine ⟨_, rfl, ⟨rfl, rfl⟩, fun us11 J11 r11 e11 => ⟨line_le (dpAll_len e11) (by decide), fun k11 m11 => ?_⟩⟩
  obtain ⟨a11, b11⟩ := grow h10 d10 r11 e11 m11
  refine ⟨l10, k11, vs10, us11, rfl, rfl, a11, upd_same, by rw [dpAll_len d10, dpAll_len e11, sizeLine_eq]; decide, fun l11 o11 => ?_⟩
  obtain ⟨c11, h11, d11⟩ := b11 l11 o11
  have t11 := t10.trans c11
  generalize upd (upd J11 k11 (.lst us11)) l11 (.lst (vs10 ++ us11)) = G11 at c11 h11 d11 t11 ⊢
  generalize vs10 ++ us11 = vs11 at h11 d11 ⊢
  clear a11 b11 c11 r11 e11 m11 o11 h10 d10 t10
  refine ⟨_, rfl, ⟨rfl, rfl⟩, fun us12 J12 r12 e12 => ⟨line_le (dpAll_len e12) (by decide), fun k12 m12 => ?_⟩⟩
  obtain ⟨a12, b12⟩ := grow h11 d11 r12 e12 m12
  refine ⟨l11, k12, vs11, us12, rfl, rfl, a12, upd_same, by rw [dpAll_len d11, dpAll_len e12, sizeLine_eq]; decide, fun l12 o12 => ?_⟩
  obtain ⟨c12, h12, d12⟩ := b12 l12 o12
  have t12 := t11.trans c12
  generalize upd (upd J12 k12 (.lst us12)) l12 (.lst (vs11 ++ us12)) = G12 at c12 h12 d12 t12 ⊢
  generalize vs11 ++ us12 = vs12 at h12 d12 ⊢
  clear a12 b12 c12 r12 e12 m12 o12 h11 d11 t11
  refine ⟨_, rfl, ⟨rfl, rfl⟩, fun us13 J13 r13 e13 => ⟨line_le (dpAll_len e13) (by decide), fun k13 m13 => ?_⟩⟩
  obtain ⟨a13, b13⟩ := grow h12 d12 r13 e13 m13
  refine ⟨l12, k13, vs12, us13, rfl, rfl, a13, upd_same, by rw [dpAll_len d12, dpAll_len e13, sizeLine_eq]; decide, fun l13 o13 => ?_⟩
  obtain ⟨c13, h13, d13⟩ := b13 l13 o13
  have t13 := t12.trans c13
  generalize upd (upd J13 k13 (.lst us13)) l13 (.lst (vs12 ++ us13)) = G13 at c13 h13 d13 t13 ⊢
  generalize vs12 ++ us13 = vs13 at h13 d13 ⊢
  clear a13 b13 c13 r13 e13 m13 o13 h12 d12 t12
  refine ⟨_, rfl, ⟨rfl, rfl⟩, fun us14 J14 r14 e14 => ⟨line_le (dpAll_len e14) (by decide), fun k14 m14 => ?_⟩⟩
  obtain ⟨a14, b14⟩ := grow h13 d13 r14 e14 m14
  refine ⟨l13, k14, vs13, us14, rfl, rfl, a14, upd_same, by rw [dpAll_len d13, dpAll_len e14, sizeLine_eq]; decide, fun l14 o14 => ?_⟩
  obtain ⟨c14, h14, d14⟩ := b14 l14 o14
  have t14 := t13.trans c14
  generalize upd (upd J14 k14 (.lst us14)) l14 (.lst (vs13 ++ us14)) = G14 at c14 h14 d14 t14 ⊢
  generalize vs13 ++ us14 = vs14 at h14 d14 ⊢
  clear a14 b14 c14 r14 e14 m14 o14 h13 d13 t13
  have ds14 : DpAll K G14 vs14 (someTexts.map someD) := by
    refine cast ?_ d14
    kernel_rfl
  clear d14
  have R14 := rowL_same t14 R7
  have T14 := T7.ext (fun b o e => t14 b o e)
  have len14 : vs14.length = 10 := (dpAll_len ds14).trans rfl
  have la14 : l14 ≠ a := fun z => by
    obtain ⟨i, seed, rest, ha, _⟩ := R14
    rw [z, ha] at h14
    have e := Option.some.inj h14
    have e2 : [V.ref sc, .int i, .int seed, .int rest] = vs14 := by injection e
    rw [← e2] at len14
    simp at len14
  refine ⟨_, rfl, _, rfl, a, l14, sc, ns, vs14, rfl, R14, h14, la14, (fun z => by rw [z] at len14; simp at len14), by rw [len14]; omega, fun j v H15 hj s15 R15 => ?_⟩
  obtain ⟨dj, hdj, kj⟩ := dpAll_get ds14 hj
  rw [List.getElem?_map] at hdj
  obtain ⟨p, hp, rfl⟩ := Option.map_eq_some_iff.mp hdj
  have pm := List.mem_of_getElem? hp
  have t15 := sib_ts R14 s15
  have kj4 := dp_ts t15 _ _ (show tupOnly (someD p) = true from rfl) kj
  obtain ⟨b, ys, rfl, hb, hys⟩ := dp_tup kj4
  obtain ⟨y1, y2, rfl, ky1, ky2⟩ : ∃ y1 y2, ys = [y1, y2] ∧ Dp K H15 y1 (dS p.1) ∧ Dp K H15 y2 (.int (p.2 : Nat)) := by
    cases hys with
    | cons k1 hys =>
      cases hys with
      | cons k2 hys =>
        cases hys
        exact ⟨_, _, rfl, k1, k2⟩
  obtain rfl := dp_str ky1
  obtain rfl := dp_int ky2
  refine ⟨b, _, rfl, hb, rfl, _, _, rfl, _, _, rfl, rfl, ?_⟩
  have hso := err_of1 (some_ok _ (gs2_mem hrg) _ (is3_mem hri) p pm)
  rw [← eg, ← ei] at hso
  obtain ⟨sm1, sm2⟩ := some_small p pm
  have hv15 := dp_ts ((same_ts t14).trans t15) _ _ (tupOnly_cat q) hv7
  refine ⟨tabs_sib R14 s15 T14, fun H16 eN T16 => ⟨_, rfl, _, rfl, .ref c, q, p.1, rfl, dp_ts (extN_ts eN) _ _ (tupOnly_cat q) hv15, LC.ok, okW_low sm1, by omega, (fun o ho => by rw [hso] at ho; cases ho), fun c' hc' d' H17 s17 n17 e17 => ⟨1, (c' : Nat), d', rfl, rfl, e17, fun tp ntp => ?_⟩⟩⟩
  have ec : p.2 = c' := by
    rw [hso] at hc'
    injection hc'
  have g18 : (upd H17 tp (.tup [.int 1, .int (c' : Nat)])) tp = some (.tup [.int 1, .int (c' : Nat)]) := upd_same
  generalize upd H17 tp (.tup [.int 1, .int (c' : Nat)]) = H18 at g18 ⊢
  refine ⟨_, rfl, (by show 2 ≤ sizeLine; rw [sizeLine_eq]; decide), fun tp2 ntp2 => ⟨pairD (1, c'), pairD (1, c'), ?_, ?_, sh_pair _, sh_pair _, ?_⟩⟩
  · exact dp_same (same_new (Same.refl _) ntp2) _ _ (.tup (.of g18) (.cons (.int _) (.cons (.int _) .nil)))
  · rw [ec]
    exact .tup (.of upd_same) (.cons (.int _) (.cons (.int _) .nil))
  · rw [eqv_pair]
    exact fin _
end
end Kw
set_option Elab.async false
set_option linter.all false
set_option maxRecDepth 100000
set_option maxHeartbeats 4000000
/-! The walk, part 29: the law's third part: the bent text told. -/
namespace Kw
open PySem PySem.Spec PyProof.Rows L2 Km LamX
section
variable {P : Program} {w : World} {K : PySem.W.Frag} {mg : Str → Option Value} {base : Heap} {C R : Addr}
theorem law_C (T : Txt K mg w) (TE : TxtE K mg C R) (SA : SaidAt K mg) {cL Pt f : Addr} (TB : TabB base mg cL Pt) {A : Around} {outer : List Env} {s : Shared} {H : Hp} {E : XK} (hr : Room 7 (lawX P w K mg base f cL A outer s H E).A)
    {tD : L2.TS} (hD : PSs (lawX P w K mg base f cL A outer s H E) ((defBody sLaw).drop 18) tD)
    (kD : ∀ (D : Ends) (H1 : Hp) (x0 x3 x4 x5 x6 x7 x8 x9 x10 x11 x12 x13 x14 x15 x16 x17 x18 x19 x20 x21 : Option V) (a sc : Addr) (ns : List Int) (v : V) (q : Ps), RowL K sc ns H1 a → LawCat q → Dp K H1 v (catD q) →
      Tabs [(Pt, (lawX P w K mg base f cL A outer s H E).env.qual ++ "<lambda>")] H1 → (∀ H', D.rt (.bl true) H') → tD D [x0, some (.ref a), some v, x3, x4, x5, x6, x7, x8, x9, x10, x11, x12, x13, x14, x15, x16, x17, x18, x19, x20, x21] H1) :
    ∃ t, PSs (lawX P w K mg base f cL A outer s H E) ((defBody sLaw).drop 14) t ∧ ∀ (D : Ends) (H1 : Hp) (x0 x3 x4 x6 x7 x8 x13 x14 x15 x16 x17 x18 x19 x20 x21 : Option V) (a sc rl wl : Addr) (ns : List Int) (v : V) (q : Ps) (L1 L2 : List (List W)) (l : List W) (i : Nat) (x : W), RowL K sc ns H1 a → LawCat q → Dp K H1 v (catD q) →
      Tabs [(Pt, (lawX P w K mg base f cL A outer s H E).env.qual ++ "<lambda>")] H1 → lines q = L1 ++ l :: L2 → i < l.length → x ∈ bends → H1 rl = some (.lst (((lines q).map (jn [32])).map sv)) → H1 wl = some (.lst ((l.set i x).map sv)) → (∀ H', D.rt (.bl true) H') →
      t D [x0, some (.ref a), some v, x3, x4, some (.ref rl), x6, x7, x8, some (.int (L1.length : Nat)), some (.ref wl), some (.int (i : Nat)), some (sv (bentT L1 (l.set i x) L2)), x13, x14, x15, x16, x17, x18, x19, x20, x21] H1 := by
  obtain ⟨gS, kV, doc, pm, cdv, ct, oc, an, od, osl, mS, kS, lS, hcS⟩ := SA.ex
  have hr2 := hr.mono (show 2 ≤ 7 by decide)
  have hr5 := hr.mono (show 5 ≤ 7 by decide)
  have hu4 := hu64 hr
  refine ⟨_, (pss_cons (ps_set (i := 13) scLaw.nd rfl (Or.inl rfl) (pe_lamS (T := [(Pt, (lawX P w K mg base f cL A outer s H E).env.qual ++ "<lambda>")]) (k := 5) (by rfl) mS kS lS hcS (Binds.all fun us hl => match us, hl with | [_], _ => rfl) scSd rfl (Or.inl rfl) (said_gives TE rfl rfl) TB rfl (List.mem_singleton.mpr rfl) (fun p hp _ => by rw [List.mem_singleton.mp hp]) hr (lamD_by (show lamDB nmLaw (defScope sLaw) _ = true by decide +kernel)) rfl (fun _ _ _ _ _ => rfl)
        (fun A outer s H E f c' hr => pe_dn (ok_readC T TE) hr (passes_call (takes_of rfl rfl rfl rfl) (fun _ _ _ _ h => h)) (pa_cons (pv 12) pa_nil))))
      (pss_cons (ps_if (PW.pt (pw_and (pt_cmpR op_isN (pv 13) pe_non rfl) (pw_and1 (pt_cmpR op_ne (pe_dn (ok_writeC T) hr5 pass0 (pa_cons (pe_dn (ok_readC T TE) hr5 (passes_call (takes_of rfl rfl rfl rfl) (fun _ _ _ _ h => h)) (pa_cons (pv 12) pa_nil)) pa_nil)) (pv 12) (nomark _))))) (pss_one (ps_ret pe_bl)) pss_nil)
      (pss_cons (ps_set (i := 14) scLaw.nd rfl (Or.inl rfl) (pe_cmpR op_eq (pe_ix (ix_lK K) (pv 10) pe_int (fun _ _ => rfl)) (pe_ix (ix_lK K) (pe_sp (pe_ix (ix_lK K) (pv 5) (pv 9) (fun _ _ => rfl)) pe_str) pe_int (fun _ _ => rfl)) (nomark _)))
      (pss_cons (ps_if (PW.pt (pw_and (pt_cmpR op_notN (pv 13) pe_non rfl) (pw_and1 (PW.pt (pw_or (pt_cmpR op_lt (pe_ix (ix_tK K) (pv 13) pe_int (fun _ _ => rfl)) (pe_op op_add (pv 9) pe_int) (nomark _)) (pw_or1 (PW.pt (pw_and (pt_cmpR op_eq (pe_ix (ix_tK K) (pv 13) pe_int (fun _ _ => rfl)) (pe_op op_add (pv 9) pe_int) (nomark _)) (pw_and (pt_cmpR op_lt (pe_ix (ix_tK K) (pv 13) pe_int (fun _ _ => rfl)) (pe_op op_add (pv 11) pe_int) (nomark _)) (pw_and1 (pt_val (pv 14))))))))))) ) (pss_one (ps_ret pe_bl)) pss_nil)
      hD)))),
    ?_⟩
  intro D H1 x0 x3 x4 x6 x7 x8 x13 x14 x15 x16 x17 x18 x19 x20 x21 a sc rl wl ns v q L1 L2 l i x hR LC hv hT eL hi hx hrl hwl fin
  have hll : (L1 ++ l.set i x :: L2).length ≤ 49 := by
    have := LC.ok.toSound.lines_few
    rw [eL, List.length_append, List.length_cons] at this
    rw [List.length_append, List.length_cons]
    exact this
  obtain ⟨b1, b2⟩ := txt_small (bent_lines LC.ok eL hx (i := i)) hll
  have b1 : okW (bentT L1 (l.set i x) L2) := b1
  have b2 : (bentT L1 (l.set i x) L2).length ≤ 10000 := b2
  have hbe' : ∀ lE cE, readCat (bentT L1 (l.set i x) L2) = .error (lE, cE) → L1.length + 1 ≤ lE ∧ (lE = L1.length + 1 → i + 1 ≤ cE) := fun lE cE h => bent_error LC.ok eL hi hx h
  have hok : ∀ q', readCat (bentT L1 (l.set i x) L2) = .ok q' → Valid q' ∧ writeCat q' = bentT L1 (l.set i x) L2 := fun q' h => bent_ok LC.ok eL hx h
  have lok := LC.ok.toSound.lines_ok l (by rw [eL]; simp)
  have lsp := line_spl lok
  have lle := (lok.len (s := [32]) (by simp)).1
  have hrow : (((lines q).map (jn [32])).map sv)[L1.length]? = some (sv (jn [32] l)) := by
    rw [List.getElem?_map, List.getElem?_map, eL, List.getElem?_append_right (Nat.le_refl _), Nat.sub_self]
    rfl
  obtain ⟨w0, as, e0⟩ : ∃ w0 as, l = w0 :: as := by
    cases l with
    | nil => simp at hi
    | cons w0 as => exact ⟨w0, as, rfl⟩
  obtain ⟨y0, bs, e1⟩ : ∃ y0 bs, l.set i x = y0 :: bs := by
    cases h : l.set i x with
    | nil =>
      have := congrArg List.length h
      rw [List.length_set] at this
      simp at this
      rw [this] at hi
      simp at hi
    | cons w0 as => exact ⟨w0, as, rfl⟩
  have hw0 : ((splA 32 [] (jn [32] l)).map sv)[0]? = some (sv w0) := by
    rw [lsp, e0]
    rfl
  have hy0 : ((l.set i x).map sv)[0]? = some (sv y0) := by
    rw [e1]
    rfl
  refine ⟨hT, fun H2 eN T2 => ?_⟩
  have R2 := rowL_ext eN hR
  have hv2 := dp_ts (extN_ts eN) _ _ (tupOnly_cat q) hv
  have hrl2 := eN _ _ hrl (fun ps z => by cases z)
  have hwl2 := eN _ _ hwl (fun ps z => by cases z)
  clear hR hv hT hrl hwl eN
  generalize bentT L1 (l.set i x) L2 = bt at *
  refine ⟨_, rfl, bt, rfl, b1, by omega, fun q' hq' v3 H3 s3 d3 => ?_, fun lE cE hE d' H3 s3 n3 e3 => ⟨(lE : Nat), (cE : Nat), d', rfl, rfl, e3, fun tp ntp => ?_⟩⟩
  · obtain ⟨V', eW⟩ := hok q' hq'
    refine ⟨_, rfl, rfl, _, rfl, ?_⟩
    rw [decide_eq_true (show V.non = V.non from rfl)]
    refine iteT ⟨_, rfl, bt, rfl, b1, by omega, fun q2 hq2 v4 H4 s4 d4 => ?_, fun lE cE hE => by rw [hq'] at hE; cases hE⟩
    rw [hq'] at hq2
    cases hq2
    refine ⟨v4, q', rfl, d4, V', fun H5 s5 => ⟨_, rfl, rfl, _, rfl, ?_⟩⟩
    rw [eW, decide_eq_true (show sv bt = sv bt from rfl)]
    have s25 := (s3.trans s4).trans s5
    have hwl5 := s25 _ _ hwl2
    have hrl5 := s25 _ _ hrl2
    refine iteF ?_
    refine ⟨_, rfl, wl, _, _, _, rfl, rfl, .of hwl5, at_of (j := 0) rfl hy0, _, rfl, _, rfl, rl, _, _, _, rfl, rfl, .of hrl5, at_of rfl hrow, ⟨_, rfl⟩, jn [32] l, 32, rfl, (by rw [sp_eq]; rfl), by omega, by omega, fun sl nsl => ⟨sl, _, _, _, rfl, rfl, .of upd_same, at_of (j := 0) rfl hw0, rfl, ?_⟩⟩
    have s6 : Same H5 (upd H5 sl (.lst ((splA 32 [] (jn [32] l)).map sv))) := same_new (Same.refl _) nsl
    have s26 := s25.trans s6
    refine ⟨_, rfl, rfl, _, rfl, ?_⟩
    rw [decide_eq_true (show V.non = V.non from rfl)]
    refine iteF (iteF ?_)
    exact kD D _ _ _ _ _ _ _ _ _ _ _ _ _ _ _ _ _ _ _ _ _ a sc ns v q (rowL_same s26 R2) LC (dp_same s26 _ _ hv2) (T2.ext (fun b o e => s26 b o e)) fin
  · obtain ⟨be1, be2⟩ := hbe' lE cE hE
    have s4 : Same H3 (upd H3 tp (.tup [.int (lE : Nat), .int (cE : Nat)])) := same_new (Same.refl _) ntp
    have g4 : (upd H3 tp (.tup [.int (lE : Nat), .int (cE : Nat)])) tp = some (.tup [.int (lE : Nat), .int (cE : Nat)]) := upd_same
    have s25 := s3.trans s4
    generalize upd H3 tp (.tup [.int (lE : Nat), .int (cE : Nat)]) = H5 at s4 g4 s25 ⊢
    have hwl5 := s25 _ _ hwl2
    have hrl5 := s25 _ _ hrl2
    refine ⟨_, rfl, rfl, _, rfl, ?_⟩
    rw [decide_eq_false (show ¬ V.ref tp = V.non from fun z => nomatch z)]
    refine iteF (iteF ?_)
    refine ⟨_, rfl, wl, _, _, _, rfl, rfl, .of hwl5, at_of (j := 0) rfl hy0, _, rfl, _, rfl, rl, _, _, _, rfl, rfl, .of hrl5, at_of rfl hrow, ⟨_, rfl⟩, jn [32] l, 32, rfl, (by rw [sp_eq]; rfl), by omega, by omega, fun sl nsl => ⟨sl, _, _, _, rfl, rfl, .of upd_same, at_of (j := 0) rfl hw0, rfl, ?_⟩⟩
    have s6 : Same H5 (upd H5 sl (.lst ((splA 32 [] (jn [32] l)).map sv))) := same_new (Same.refl _) nsl
    have g6 := s6 _ _ g4
    have s26 := s25.trans s6
    generalize upd H5 sl (.lst ((splA 32 [] (jn [32] l)).map sv)) = H6 at s6 g6 s26 ⊢
    have go : tD D _ H6 := kD D H6 x0 x3 x4 (some (.ref rl)) x6 x7 x8 (some (.int (L1.length : Nat))) (some (.ref wl)) (some (.int (i : Nat))) (some (sv bt)) (some (.ref tp)) (some (.bl (decide (sv y0 = sv w0)))) x15 x16 x17 x18 x19 x20 x21 a sc ns v q (rowL_same s26 R2) LC (dp_same s26 _ _ hv2) (T2.ext (fun b o e => s26 b o e)) fin
    refine ⟨_, rfl, rfl, _, rfl, ?_⟩
    rw [decide_eq_false (show ¬ V.ref tp = V.non from fun z => nomatch z)]
    refine iteT ⟨_, rfl, tp, _, _, _, rfl, rfl, .of g6, atI_nat (j := 0) rfl, _, rfl, _, _, rfl, rfl, _, _, rfl, rfl, _, rfl, ?_⟩
    rw [decide_eq_false (show ¬ (lE : Int) < (L1.length : Int) + 1 by omega)]
    refine iteF ⟨_, rfl, tp, _, _, _, rfl, rfl, .of g6, atI_nat (j := 0) rfl, _, rfl, _, _, rfl, rfl, rfl, _, rfl, ?_⟩
    by_cases hl : lE = L1.length + 1
    · rw [decide_eq_true (show V.int (lE : Int) = V.int ((L1.length : Int) + 1) by rw [hl]; rfl)]
      refine iteT ⟨_, rfl, tp, _, _, _, rfl, rfl, .of g6, atI_nat (j := 1) rfl, _, rfl, _, _, rfl, rfl, _, _, rfl, rfl, _, rfl, ?_⟩
      have := be2 hl
      rw [decide_eq_false (show ¬ (cE : Int) < (i : Int) + 1 by omega)]
      exact iteF (iteF go)
    · rw [decide_eq_false (show ¬ V.int (lE : Int) = V.int ((L1.length : Int) + 1) from fun z => hl (by injection z with z; omega))]
      exact iteF (iteF go)
end
end Kw
set_option Elab.async false
set_option linter.all false
set_option maxRecDepth 100000
set_option maxHeartbeats 4000000
/-! The walk, part 30: the law's second part: loosened rows, a word bent. -/
namespace Kw
open PySem PySem.Spec PyProof.Rows L2 Km LamX
theorem depths_le {k : Nat} : ∀ {ds : List PyData}, (∀ d ∈ ds, d.depth ≤ k) → PyData.depthAll ds ≤ k
  | [], _ => Nat.zero_le _
  | d :: ds, h => by
    have h1 := h d (by simp)
    have h2 := depths_le (ds := ds) fun e he => h e (by simp [he])
    show max d.depth (PyData.depthAll ds) ≤ k
    omega
theorem plns_all : ∀ {ds : List PyData}, (∀ d ∈ ds, pln d = true) → plns ds = true
  | [], _ => rfl
  | d :: ds, h => by
    show (pln d && plns ds) = true
    rw [h d (by simp), plns_all fun e he => h e (by simp [he])]
    rfl
theorem pln_tup {ds : List PyData} (h : ∀ d ∈ ds, pln d = true) (l : ds.length ≤ 1000) : pln (.tuple ds) = true := by
  show (plns ds && decide (ds.length ≤ 1000)) = true
  rw [plns_all h, decide_eq_true l]
  rfl
theorem dep_tup {ds : List PyData} {k : Nat} (h : ∀ d ∈ ds, d.depth ≤ k) : (PyData.tuple ds).depth ≤ k + 1 := Nat.succ_le_succ (depths_le h)
theorem fld_pln (x : Fld) : pln (dF x) = true ∧ (dF x).depth ≤ 0 := by
  cases x with
  | inl u => exact ⟨rfl, Nat.le_refl _⟩
  | inr n => exact ⟨rfl, Nat.le_refl _⟩
theorem strs_pln {ws : List W} (l : ws.length ≤ 1000) : pln (strsD ws) = true ∧ (strsD ws).depth ≤ 1 := by
  refine ⟨pln_tup (fun d hd => ?_) (by rw [List.length_map]; exact l), dep_tup fun d hd => ?_⟩
  · obtain ⟨u, _, rfl⟩ := List.mem_map.mp hd
    rfl
  · obtain ⟨u, _, rfl⟩ := List.mem_map.mp hd
    exact Nat.le_refl _
theorem rows_pln {rs : List Km.Row} (l : rs.length ≤ 1000) (h : ∀ r ∈ rs, r.length ≤ 1000) : pln (rowsD rs) = true ∧ (rowsD rs).depth ≤ 2 := by
  have one : ∀ r ∈ rs, pln (rowD r) = true ∧ (rowD r).depth ≤ 1 := fun r hr => by
    refine ⟨pln_tup (fun d hd => ?_) (by rw [List.length_map]; exact h r hr), dep_tup fun d hd => ?_⟩
    · obtain ⟨x, _, rfl⟩ := List.mem_map.mp hd
      exact (fld_pln x).1
    · obtain ⟨x, _, rfl⟩ := List.mem_map.mp hd
      exact (fld_pln x).2
  refine ⟨pln_tup (fun d hd => ?_) (by rw [List.length_map]; exact l), dep_tup fun d hd => ?_⟩
  · obtain ⟨r, hr, rfl⟩ := List.mem_map.mp hd
    exact (one r hr).1
  · obtain ⟨r, hr, rfl⟩ := List.mem_map.mp hd
    exact (one r hr).2
theorem cat_pln {q : Ps} (S : Sound q) : pln (catD q) = true ∧ (catD q).depth ≤ 5 := by
  have nm : ∀ k, k < 5 → (names q k).length ≤ 1000 := fun k hk => by
    have h1 := S.rm k hk
    have h2 := room_20 hk
    rw [names_len]
    omega
  have rl : ∀ k, k < 5 → (q k).length ≤ 1000 ∧ ∀ r ∈ q k, r.length ≤ 1000 := fun k hk => by
    have h1 := S.rm k hk
    have h2 := room_20 hk
    exact ⟨by omega, fun r hr => by have := (S.rows_ok hk r hr).2.1; omega⟩
  have s0 := strs_pln (nm 0 (by omega))
  have s1 := strs_pln (nm 1 (by omega))
  have s2 := strs_pln (nm 2 (by omega))
  have s3 := rows_pln (rl 3 (by omega)).1 (rl 3 (by omega)).2
  have s4 := rows_pln (rl 4 (by omega)).1 (rl 4 (by omega)).2
  refine ⟨pln_tup (fun d hd => ?_) (by show 5 ≤ 1000; omega), Nat.le_trans (dep_tup (k := 2) fun d hd => ?_) (by omega)⟩
  · simp only [List.mem_cons, List.mem_nil_iff, or_false] at hd
    rcases hd with rfl | rfl | rfl | rfl | rfl
    · exact s0.1
    · exact s1.1
    · exact s2.1
    · exact s3.1
    · exact s4.1
  · simp only [List.mem_cons, List.mem_nil_iff, or_false] at hd
    rcases hd with rfl | rfl | rfl | rfl | rfl
    · exact Nat.le_trans s0.2 (by omega)
    · exact Nat.le_trans s1.2 (by omega)
    · exact Nat.le_trans s2.2 (by omega)
    · exact s3.2
    · exact s4.2
theorem loose_small : ∀ {ls : List ((Nat × Nat) × List W)}, (∀ p ∈ ls, LineOk p.2 ∧ p.1.1 < 2 ∧ p.1.2 < 3) → (looseAll ls).length = 2 * ls.length ∧ ∀ u ∈ looseAll ls, u.length ≤ 70 ∧ ∀ c ∈ u, c < 128
  | [], _ => ⟨rfl, fun u hu => by simp [looseAll] at hu⟩
  | p :: ls, h => by
    obtain ⟨i1, i2⟩ := loose_small (ls := ls) fun x hx => h x (by simp [hx])
    obtain ⟨h1, h2, h3⟩ := h p (by simp)
    have rep : ∀ n, ∀ c ∈ List.replicate n 32, c < 128 := fun n c hc => by
      have := (List.mem_replicate.mp hc).2
      omega
    refine ⟨?_, fun u hu => ?_⟩
    · show (looseOf p.1.1 p.1.2 p.2 ++ looseAll ls).length = _
      rw [List.length_append, i1, List.length_cons]
      show 2 + _ = _
      omega
    · rcases List.mem_append.mp (show u ∈ looseOf p.1.1 p.1.2 p.2 ++ looseAll ls from hu) with hu | hu
      · simp only [looseOf, List.mem_cons, List.mem_nil_iff, or_false] at hu
        rcases hu with rfl | rfl
        · exact ⟨by rw [List.length_replicate]; omega, rep _⟩
        · have := (h1.len (s := [32, 32, 32]) (by simp)).1
          refine ⟨by rw [List.length_append, List.length_append, List.length_replicate]; simp; omega, fun c hc => ?_⟩
          rcases List.mem_append.mp hc with hc | hc
          · rcases List.mem_append.mp hc with hc | hc
            · exact rep _ c hc
            · rcases jn_mem hc with k | ⟨u, hu, k⟩
              · simp at k
                omega
              · exact h1.lo u hu c k
          · rw [List.mem_singleton] at hc
            omega
      · exact i2 u hu
theorem bend_eq : ([.str "east", .str "ra", .str "tea", .str "zz", .str "0", .str "007", .str "100", .str "lane", .str "-1", .str "9"] : List V) = bends.map sv := by kernel_rfl
theorem sp2_eq : V.str "  " = sv (List.replicate 2 32) := by kernel_rfl
theorem sp1_eq : V.str " " = sv (List.replicate 1 32) := by kernel_rfl
theorem sp3_eq : V.str "   " = sv [32, 32, 32] := by kernel_rfl
section
variable {P : Program} {w : World} {K : PySem.W.Frag} {mg : Str → Option Value} {base : Heap} {C R : Addr}
theorem law_B (T : Txt K mg w) (TE : TxtE K mg C R) {cL Pt f : Addr} {A : Around} {outer : List Env} {s : Shared} {H : Hp} {E : XK} (hr : Room 7 (lawX P w K mg base f cL A outer s H E).A)
    {tC : L2.TS} (hC : PSs (lawX P w K mg base f cL A outer s H E) ((defBody sLaw).drop 14) tC)
    (kC : ∀ (D : Ends) (H1 : Hp) (x0 x3 x4 x6 x7 x8 x13 x14 x15 x16 x17 x18 x19 x20 x21 : Option V) (a sc rl wl : Addr) (ns : List Int) (v : V) (q : Ps) (L1 L2 : List (List W)) (l : List W) (i : Nat) (x : W), RowL K sc ns H1 a → LawCat q → Dp K H1 v (catD q) →
      Tabs [(Pt, (lawX P w K mg base f cL A outer s H E).env.qual ++ "<lambda>")] H1 → lines q = L1 ++ l :: L2 → i < l.length → x ∈ bends → H1 rl = some (.lst (((lines q).map (jn [32])).map sv)) → H1 wl = some (.lst ((l.set i x).map sv)) → (∀ H', D.rt (.bl true) H') →
      tC D [x0, some (.ref a), some v, x3, x4, some (.ref rl), x6, x7, x8, some (.int (L1.length : Nat)), some (.ref wl), some (.int (i : Nat)), some (sv (bentT L1 (l.set i x) L2)), x13, x14, x15, x16, x17, x18, x19, x20, x21] H1) :
    ∃ t, PSs (lawX P w K mg base f cL A outer s H E) ((defBody sLaw).drop 5) t ∧ ∀ (D : Ends) (H1 : Hp) (x0 x3 x5 x6 x7 x8 x9 x10 x11 x12 x13 x14 x15 x16 x17 x18 x19 x20 x21 : Option V) (a sc : Addr) (ns : List Int) (v : V) (q : Ps), RowL K sc ns H1 a → LawCat q → Dp K H1 v (catD q) →
      Tabs [(Pt, (lawX P w K mg base f cL A outer s H E).env.qual ++ "<lambda>")] H1 → (∀ H', D.rt (.bl true) H') →
      t D [x0, some (.ref a), some v, x3, some (sv (writeCat q)), x5, x6, x7, x8, x9, x10, x11, x12, x13, x14, x15, x16, x17, x18, x19, x20, x21] H1 := by
  have hr1 := hr.mono (show 1 ≤ 7 by decide)
  have hr2 := hr.mono (show 2 ≤ 7 by decide)
  have hr5 := hr.mono (show 5 ≤ 7 by decide)
  have hr6 := hr.mono (show 6 ≤ 7 by decide)
  have hu4 := hu64 hr
  refine ⟨_, (pss_cons (ps_par (i := 5) (j := 6) rfl scLaw.nd rfl rfl (by decide) rfl rfl (pa_cons (pe_sp (pv 4) pe_str) (pa_cons (pe_lst pa_nil) pa_nil)) rfl)
      (pss_cons (ps_if (pt_cmpR op_ne (pe_len T (pv 5)) (pe_sum T rfl (pe_lc (own := [("_law_part", 7)]) (g := gName 7) rfl scLaw.nd (pi_tup (pv 2)) (blkOk_by (own := [("_law_part", 7)]) (N := nmLaw) (sc := defScope sLaw) (by decide +kernel)) (fun _ _ _ _ _ => pg_name (i := 7) scLaw.nd rfl (Or.inl rfl)) (fun _ _ _ _ _ => pts_nil) (fun _ _ _ _ _ => pe_len T (pv 7)))) (nomark _)) (pss_one (ps_ret pe_bl)) pss_nil)
      (pss_cons (ps_for (passes_of rfl) rfl (pi_list (pv 5)) (pg_name (i := 8) scLaw.nd rfl (Or.inr rfl)) (pss_one (ps_set (i := 6) scLaw.nd rfl (Or.inl rfl) (pe_op op_cat (pv 6) (pe_lst (pa_cons (pe_op op_mulS pe_str (pe_dn (ok_taken T) hr1 pass0 (pa_cons (pv 1) (pa_cons pe_int pa_nil)))) (pa_cons (pe_op op_add_str (pe_op op_add_str (pe_op op_mulS pe_str (pe_dn (ok_taken T) hr1 pass0 (pa_cons (pv 1) (pa_cons pe_int pa_nil)))) (pe_jn K pe_str (pe_sp (pv 8) pe_str))) pe_str) pa_nil)))))))
      (pss_cons (ps_if (pt_not (pt_val (pe_dn (ok_alike T 5) hr6 pass0 (pa_cons (pe_dn (ok_readC T TE) hr5 (passes_call (takes_of rfl rfl rfl rfl) (fun _ _ _ _ h => h)) (pa_cons (pe_jn K pe_str (pv 6)) pa_nil)) (pa_cons (pv 2) pa_nil))))) (pss_one (ps_ret pe_bl)) pss_nil)
      (pss_cons (ps_set (i := 9) scLaw.nd rfl (Or.inl rfl) (pe_dn (ok_taken T) hr1 pass0 (pa_cons (pv 1) (pa_cons (pe_len T (pv 5)) pa_nil))))
      (pss_cons (ps_set (i := 10) scLaw.nd rfl (Or.inl rfl) (pe_sp (pe_ix (ix_lK K) (pv 5) (pv 9) (fun _ _ => rfl)) pe_str))
      (pss_cons (ps_set (i := 11) scLaw.nd rfl (Or.inl rfl) (pe_dn (ok_taken T) hr1 pass0 (pa_cons (pv 1) (pa_cons (pe_len T (pv 10)) pa_nil))))
      (pss_cons (ps_asg (pe_dn (ok_pick T) hr2 pass0 (pa_cons (pv 1) (pa_cons (pe_lst (pa_cons pe_str (pa_cons pe_str (pa_cons pe_str (pa_cons pe_str (pa_cons pe_str (pa_cons pe_str (pa_cons pe_str (pa_cons pe_str (pa_cons pe_str (pa_cons pe_str pa_nil))))))))))) pa_nil))) (pg_sub (pv 10) (pv 11) set_list))
      (pss_cons (ps_set (i := 12) scLaw.nd rfl (Or.inr rfl) (pe_jn K pe_str (pe_op op_cat (pe_op op_cat (pe_slice (sl_lK K) (pv 5) po_none (po_some (pv 9))) (pe_lst (pa_cons (pe_jn K pe_str (pv 10)) pa_nil))) (pe_slice (sl_lK K) (pv 5) (po_some (pe_op op_add (pv 9) pe_int)) po_none))))
      hC))))))))),
    ?_⟩
  intro D H1 x0 x3 x5 x6 x7 x8 x9 x10 x11 x12 x13 x14 x15 x16 x17 x18 x19 x20 x21 a sc ns v q hR LC hv hT fin
  obtain ⟨c, g0, g1, g2, g3, g4, ls3, ls4, rfl, hc, p0, p1, p2, p3, f3, p4, f4⟩ := cat_parts hv
  have few := LC.ok.toSound.lines_few
  have lok := LC.ok.toSound.lines_ok
  have lne := lines_ne LC.ok
  have lpos := List.length_pos_iff.mpr lne
  obtain ⟨b1, b2⟩ := txt_small lok few
  have b2 : (writeCat q).length ≤ 10000 := b2
  have z10 : ∀ n, n ≤ 1000 → n ≤ sizeLine := fun n h => by rw [sizeLine_eq]; omega
  refine ⟨_, rfl, ⟨_, rfl⟩, writeCat q, 10, rfl, (by rw [nl_eq]; rfl), by omega, by omega, fun rl nrl => ⟨z10 0 (by omega), fun la0 nla => ⟨_, _, rfl, ?_⟩⟩⟩
  rw [show splA 10 [] (writeCat q) = (lines q).map (jn [32]) from rows_txt lok lne] at nla ⊢
  have rla := row_ne hR nrl
  have s2 : Same H1 (upd H1 rl (.lst (((lines q).map (jn [32])).map sv))) := same_new (Same.refl _) nrl
  have r2 : (upd H1 rl (.lst (((lines q).map (jn [32])).map sv))) rl = some (.lst (((lines q).map (jn [32])).map sv)) := upd_same
  generalize upd H1 rl (.lst (((lines q).map (jn [32])).map sv)) = H2 at s2 r2 nla ⊢
  have s3 : Same H2 (upd H2 la0 (.lst [])) := same_new (Same.refl _) nla
  have l3 : (upd H2 la0 (.lst [])) la0 = some (.lst []) := upd_same
  have r3 := s3 _ _ r2
  have s13 := s2.trans s3
  generalize upd H2 la0 (.lst []) = H3 at s3 l3 r3 s13 ⊢
  have lrl : (((lines q).map (jn [32])).map sv).length = (lines q).length := by rw [List.length_map, List.length_map]
  have lenk : ∀ k, k < 5 → ∃ g, ([V.ref g0, .ref g1, .ref g2, .ref g3, .ref g4] : List V)[k]? = some (.ref g) ∧ ∀ H', Same H3 H' → LenV K (.ref g) H' (q k).length := fun k hk => by
    match k, hk with
    | 0, _ => exact ⟨g0, rfl, fun H' s' => .inr ⟨_, same_sqt (s13.trans s') p0, by rw [List.length_map, names_len]⟩⟩
    | 1, _ => exact ⟨g1, rfl, fun H' s' => .inr ⟨_, same_sqt (s13.trans s') p1, by rw [List.length_map, names_len]⟩⟩
    | 2, _ => exact ⟨g2, rfl, fun H' s' => .inr ⟨_, same_sqt (s13.trans s') p2, by rw [List.length_map, names_len]⟩⟩
    | 3, _ => exact ⟨g3, rfl, fun H' s' => .inr ⟨_, same_sqt (s13.trans s') p3, by rw [dpAll_len f3, List.length_map]⟩⟩
    | 4, _ => exact ⟨g4, rfl, fun H' s' => .inr ⟨_, same_sqt (s13.trans s') p4, by rw [dpAll_len f4, List.length_map]⟩⟩
  refine ⟨_, rfl, (lines q).length, .inl ⟨_, .of r3, lrl.symm⟩, _, rfl, c, rfl, ⟨_, same_sqt s13 hc⟩, fun Dl nD => ?_⟩
  refine lc_gen (walk_tup (xs := [.ref g0, .ref g1, .ref g2, .ref g3, .ref g4])) (fun i acc _ => acc = ((List.range i).map fun k => (((q k).length : Nat) : Int)).map V.int) nD (by show 5 < sizeLine; rw [sizeLine_eq]; decide) (fun H' s' => same_sqt (s13.trans s') hc) (fun i acc _ _ e _ => e) rfl ?_ ?_
  · intro i y acc H4 H5 QT QF hi s4 hacc hy kT kF
    obtain ⟨rfl, hy2⟩ := hy
    have hi5 : i < 5 := hi
    obtain ⟨g, hg, hl⟩ := lenk i hi5
    rw [hg] at hy2
    cases hy2
    refine ⟨rfl, tyes (iteT ⟨_, rfl, (q i).length, hl _ s4, kT _ _ (Same.refl _) ?_⟩)⟩
    rw [hacc, List.range_succ, List.map_append, List.map_append]
    rfl
  intro acc H4 s4 hD hacc
  have hacc : acc = ((List.range 5).map fun k => (((q k).length : Nat) : Int)).map V.int := hacc
  refine ⟨Dl, (List.range 5).map fun k => (((q k).length : Nat) : Int), rfl, .of (by rw [hD, hacc]), rfl, _, rfl, ?_⟩
  have hsum : (((List.range 5).map fun k => (((q k).length : Nat) : Int))).sum = ((lines q).length : Int) := by
    rw [lines_len]
    show (((q 0).length : Nat) : Int) + ((((q 1).length : Nat) : Int) + ((((q 2).length : Nat) : Int) + ((((q 3).length : Nat) : Int) + ((((q 4).length : Nat) : Int) + 0)))) = _
    omega
  rw [decide_eq_true (show V.int ((lines q).length : Int) = V.int (((List.range 5).map fun k => (((q k).length : Nat) : Int))).sum by rw [hsum])]
  have s14 := s13.trans s4
  have r4 := s4 _ _ r3
  have l4 := s4 _ _ l3
  have R4 := rowL_same s14 hR
  refine iteF ⟨_, rfl, rl, rfl, ⟨_, .of r4⟩, ?_⟩
  refine for_it (walk_list (xs := ((lines q).map (jn [32])).map sv)) (fun i σ H' => ∃ (la : Addr) (x8' : Option V) (ls : List ((Nat × Nat) × List W)), σ = [x0, some (.ref a), some (.ref c), x3, some (sv (writeCat q)), some (.ref rl), some (.ref la), x7, x8', x9, x10, x11, x12, x13, x14, x15, x16, x17, x18, x19, x20, x21] ∧ Sib a H1 H' ∧ RowL K sc ns H' a ∧ H' rl = some (.lst (((lines q).map (jn [32])).map sv)) ∧ H' la = some (.lst ((looseAll ls).map sv)) ∧ ls.map (·.2) = (lines q).take i ∧ ∀ p ∈ ls, p.1.1 < 2 ∧ p.1.2 < 3)
    ⟨la0, x8, [], rfl, sib_same s14, R4, r4, l4, rfl, fun p hp => by simp at hp⟩ (fun i σ H' _ ⟨_, _, _, _, _, _, e, _⟩ => .of e) ?_ ?_
  · rintro i y σ H5 H5' hi ⟨la, x8', ls, rfl, S5, R5, r5, l5, hls, hab⟩ ⟨rfl, hy⟩
    rw [List.getElem?_map, List.getElem?_map] at hy
    obtain ⟨u, hu, rfl⟩ := Option.map_eq_some_iff.mp hy
    obtain ⟨ws, hws, rfl⟩ := Option.map_eq_some_iff.mp hu
    have wok := lok ws (List.mem_of_getElem? hws)
    have wsp := line_spl wok
    have w32 := (wok.len (s := [32]) (by simp)).1
    obtain ⟨w33, w34⟩ := wok.len (s := [32, 32, 32]) (by simp)
    have hil : i < (lines q).length := (List.getElem?_eq_some_iff.mp hws).1
    have hlsl : ls.length = i := by
      have := congrArg List.length hls
      rw [List.length_map, List.length_take] at this
      omega
    have lok2 : ∀ p ∈ ls, LineOk p.2 ∧ p.1.1 < 2 ∧ p.1.2 < 3 := fun p hp => ⟨lok p.2 (List.mem_of_mem_take (i := i) (by rw [← hls]; exact List.mem_map.mpr ⟨p, hp, rfl⟩)), hab p hp⟩
    have lall := (loose_small lok2).1
    refine ⟨_, rfl, _, rfl, a, sc, ns, 2, rfl, R5, by omega, by omega, fun e1 H6 he1 s6 R6 => ⟨2, e1, sp2_eq, rfl, .inl ⟨rfl, by omega⟩, _, rfl, a, sc, ns, 3, rfl, R6, by omega, by omega, fun e2 H7 he2 s7 R7 => ⟨1, e2, sp1_eq, rfl, .inr ⟨rfl, by omega⟩, ?_⟩⟩⟩
    have laa : la ≠ a := fun z => by
      obtain ⟨i', seed, rest, ha, _⟩ := R5
      rw [z, ha] at l5
      have e := Option.some.inj l5
      have e3 : [V.ref sc, .int i', .int seed, .int rest] = (looseAll ls).map sv := by injection e
      cases hq : looseAll ls with
      | nil => rw [hq] at e3; simp at e3
      | cons p0 ps =>
        rw [hq] at e3
        injection e3 with e3 _
        cases e3
    have s57 := s6.trans s7
    have l7 := s57 _ _ l5 laa
    have r7 := s57 _ _ r5 rla
    refine ⟨⟨_, rfl⟩, _, rfl, ⟨_, rfl⟩, jn [32] ws, 32, rfl, (by rw [sp_eq]; rfl), by omega, by omega, fun sl nsl => ⟨[32, 32, 32], sl, ws, sp3_eq, rfl, .inl (.of (by rw [upd_same, wsp])), by show (ws.map List.length).sum + ws.length * 3 ≤ _; have : ([32, 32, 32] : W).length = 3 := rfl; rw [this] at w34; omega, ?_⟩⟩
    have s8 : Same H7 (upd H7 sl (.lst ((splA 32 [] (jn [32] ws)).map sv))) := same_new (Same.refl _) nsl
    generalize upd H7 sl (.lst ((splA 32 [] (jn [32] ws)).map sv)) = H8 at s8 ⊢
    refine ⟨_, _, rfl, rfl, by rw [mk_len, mk_len, List.length_replicate, sizeLine_eq]; omega, ?_⟩
    refine ⟨_, _, rfl, rfl, by rw [mk_app, sp_eq, mk_len, mk_len, List.length_append, List.length_replicate, sizeLine_eq]; show _ + 1 ≤ _; omega, z10 2 (by omega), fun nl nnl => ?_⟩
    have eS : (mk (List.replicate (1 * e2) 32) ++ mk (jn [32, 32, 32] ws)) ++ (Str.ofString " ") = mk (List.replicate e2 32 ++ jn [32, 32, 32] ws ++ [32]) := by rw [mk_app, sp_eq, mk_app, Nat.one_mul]
    rw [eS]
    have s9 : Same H8 (upd H8 nl (.lst [sv (List.replicate (2 * e1) 32), .str (mk (List.replicate e2 32 ++ jn [32, 32, 32] ws ++ [32]))])) := same_new (Same.refl _) nnl
    have g9 : (upd H8 nl (.lst [sv (List.replicate (2 * e1) 32), .str (mk (List.replicate e2 32 ++ jn [32, 32, 32] ws ++ [32]))])) nl = some (.lst ((looseOf e1 e2 ws).map sv)) := upd_same
    generalize upd H8 nl (.lst [sv (List.replicate (2 * e1) 32), .str (mk (List.replicate e2 32 ++ jn [32, 32, 32] ws ++ [32]))]) = H9 at s9 g9 ⊢
    have s79 := s8.trans s9
    refine ⟨la, nl, _, _, rfl, rfl, s79 _ _ l7, g9, by rw [List.length_map, List.length_map, lall, sizeLine_eq]; show _ + 2 ≤ _; omega, fun pl npl => ?_⟩
    have s10 : Same H9 (upd H9 pl (.lst ((looseAll ls).map sv ++ (looseOf e1 e2 ws).map sv))) := same_new (Same.refl _) npl
    have s710 := s79.trans s10
    refine ⟨pl, _, ls ++ [((e1, e2), ws)], rfl, (S5.trans s57).trans (sib_same s710), rowL_same s710 R7, s710 _ _ r7, ?_, ?_, fun p hp => ?_⟩
    · rw [upd_same, looseAll_app, List.map_append]
    · rw [List.map_append, hls, List.take_succ, hws]
      rfl
    · rcases List.mem_append.mp hp with hp | hp
      · exact hab p hp
      · rw [List.mem_singleton] at hp
        subst hp
        exact ⟨by show e1 < 2; omega, by show e2 < 3; omega⟩
  rintro σ H5 ⟨la, x8', ls, rfl, S5, R5, r5, l5, hls, hab⟩
  rw [lrl, List.take_length] at hls
  have lok2 : ∀ p ∈ ls, LineOk p.2 ∧ p.1.1 < 2 ∧ p.1.2 < 3 := fun p hp => ⟨lok p.2 (by rw [← hls]; exact List.mem_map.mpr ⟨p, hp, rfl⟩), hab p hp⟩
  obtain ⟨m1, m2⟩ := loose_small lok2
  have hlsl : ls.length = (lines q).length := by
    have := congrArg List.length hls
    rw [List.length_map] at this
    exact this
  have q1 := sum_le (k := 70) (ws := looseAll ls) fun p hp => (m2 p hp).1
  have q2 := jn_len [10] (looseAll ls)
  have q3 : ([10] : W).length = 1 := rfl
  rw [q3] at q2
  rw [m1] at q1 q2
  have q4 : okW (jn [10] (looseAll ls)) := fun x hx => by
    rcases jn_mem hx with k | ⟨p, hp, k⟩
    · rw [List.mem_singleton] at k
      omega
    · have := (m2 p hp).2 x k
      omega
  have rdl := read_loose LC.ok hls
  obtain ⟨cp, cd⟩ := cat_pln LC.ok.toSound
  have hv5 := sib_dp hR S5 (tupOnly_cat q) hv
  have hT5 := tabs_sib hR S5 hT
  refine ⟨⟨_, rfl⟩, _, rfl, [10], la, looseAll ls, by rw [nl_eq]; rfl, rfl, .inl (.of l5), by rw [q3, m1]; omega, jn [10] (looseAll ls), rfl, q4, by omega, (fun q' hq' v3 H6 s6 d6 => ?_), (fun l c h => by rw [rdl] at h; cases h)⟩
  rw [rdl] at hq'
  cases hq'
  refine ⟨_, rfl, v3, .ref c, catD q, rfl, d6, dp_same s6 _ _ hv5, cp, cd, fun H7 s7 => ⟨_, rfl, iteF ?_⟩⟩
  have s57 := s6.trans s7
  have R7 := rowL_same s57 R5
  have r7 := s57 _ _ r5
  have S7 := S5.trans (sib_same s57)
  refine ⟨_, rfl, _, rfl, (lines q).length, .inl ⟨_, .of r7, lrl.symm⟩, a, sc, ns, _, rfl, R7, by omega, by omega, fun at' H8 hat s8 R8 => ?_⟩
  have hat' : at' < (lines q).length := by omega
  have S8 := S7.trans s8
  have r8 := s8 _ _ r7 rla
  have hl0 : (lines q)[at']? = some (lines q)[at'] := List.getElem?_eq_getElem hat'
  have eL : lines q = (lines q).take at' ++ (lines q)[at'] :: (lines q).drop (at' + 1) := by
    rw [← List.drop_eq_getElem_cons hat', List.take_append_drop]
  have lL1 : ((lines q).take at').length = at' := by
    rw [List.length_take]
    omega
  have l1ok := lok _ (List.getElem_mem hat')
  generalize (lines q)[at'] = l at hl0 eL l1ok
  have lsp := line_spl l1ok
  have l32 := (l1ok.len (s := [32]) (by simp)).1
  have lp := List.length_pos_iff.mpr l1ok.ne
  have l6 := l1ok.fw
  have hrow : (((lines q).map (jn [32])).map sv)[at']? = some (sv (jn [32] l)) := by
    rw [List.getElem?_map, List.getElem?_map, hl0]
    rfl
  refine ⟨_, rfl, _, rfl, rl, _, _, _, rfl, rfl, .of r8, at_of rfl hrow, ⟨_, rfl⟩, jn [32] l, 32, rfl, (by rw [sp_eq]; rfl), by omega, by omega, fun wl nwl => ?_⟩
  rw [lsp]
  have nwl1 := sib_free R8 S8 nwl
  have wla := row_ne R8 nwl
  have rwl : rl ≠ wl := ne_of_none r8 nwl
  have s9 : Same H8 (upd H8 wl (.lst (l.map sv))) := same_new (Same.refl _) nwl
  have w9 : (upd H8 wl (.lst (l.map sv))) wl = some (.lst (l.map sv)) := upd_same
  generalize upd H8 wl (.lst (l.map sv)) = H9 at s9 w9 ⊢
  have R9 := rowL_same s9 R8
  have S9 := S8.trans (sib_same s9)
  have r9 := s9 _ _ r8
  refine ⟨_, rfl, _, rfl, l.length, .inl ⟨_, .of w9, (List.length_map ..).symm⟩, a, sc, ns, _, rfl, R9, by omega, by omega, fun i H10 hi s10 R10 => ?_⟩
  have hi' : i < l.length := by omega
  have S10 := S9.trans s10
  have r10 := s10 _ _ r9 rla
  have w10 := s10 _ _ w9 wla
  refine ⟨_, rfl, z10 10 (by omega), fun bl nbl => ?_⟩
  rw [bend_eq]
  have s11 : Same H10 (upd H10 bl (.lst (bends.map sv))) := same_new (Same.refl _) nbl
  refine ⟨a, bl, sc, ns, _, rfl, rowL_same s11 R10, upd_same, row_ne R10 nbl, (fun z => by cases z), by decide, fun j v H12 hj s12 R12 => ?_⟩
  rw [List.getElem?_map] at hj
  obtain ⟨x, hx, rfl⟩ := Option.map_eq_some_iff.mp hj
  have xb := List.mem_of_getElem? hx
  have s1012 := (sib_same s11).trans s12
  have S12 := S10.trans s1012
  have r12 := s1012 _ _ r10 rla
  have w12 := s1012 _ _ w10 wla
  have hix : ixN (l.map sv).length (i : Int) = some i := by
    unfold ixN
    rw [List.length_map, if_pos (by omega), if_pos (by omega)]
    rfl
  refine ⟨_, rfl, _, rfl, wl, _, _, i, rfl, rfl, w12, hix, ?_⟩
  rw [← List.map_set]
  have S13 : Sib a H1 (upd H12 wl (.lst ((l.set i x).map sv))) := sib_set2 S12 nwl1
  have R13 : RowL K sc ns (upd H12 wl (.lst ((l.set i x).map sv))) a := rowL_upd hR S12 nwl1 R12
  have w13 : (upd H12 wl (.lst ((l.set i x).map sv))) wl = some (.lst ((l.set i x).map sv)) := upd_same
  have r13 : (upd H12 wl (.lst ((l.set i x).map sv))) rl = some (.lst (((lines q).map (jn [32])).map sv)) := by
    rw [upd_ne rwl]
    exact r12
  generalize upd H12 wl (.lst ((l.set i x).map sv)) = H13 at S13 R13 w13 r13 ⊢
  have bok := bent_lines LC.ok eL xb (i := i)
  have lset := lineOk_set l1ok xb (i := i)
  obtain ⟨k32, k33⟩ := lset.len (s := [32]) (by simp)
  refine ⟨⟨_, rfl⟩, _, rfl, _, rfl, _, rfl, rl, _, rfl, .of r13, fun s1 ns1 => ?_⟩
  rw [cut_to rfl]
  have t1 : Same H13 (upd H13 s1 (.lst ((((lines q).map (jn [32])).map sv).take at'))) := same_new (Same.refl _) ns1
  have y1 : (upd H13 s1 (.lst ((((lines q).map (jn [32])).map sv).take at'))) s1 = some (.lst ((((lines q).map (jn [32])).map sv).take at')) := upd_same
  generalize upd H13 s1 (.lst ((((lines q).map (jn [32])).map sv).take at')) = K1 at t1 y1 ⊢
  refine ⟨⟨_, rfl⟩, _, rfl, [32], wl, l.set i x, by rw [sp_eq]; rfl, rfl, .inl (.of (t1 _ _ w13)), by show ((l.set i x).map List.length).sum + (l.set i x).length * 1 ≤ _; have : ([32] : W).length = 1 := rfl; rw [this] at k33; omega, z10 1 (by omega), fun l1 nl1 => ?_⟩
  have t2 : Same K1 (upd K1 l1 (.lst [sv (jn [32] (l.set i x))])) := same_new (Same.refl _) nl1
  have y2 : (upd K1 l1 (.lst [sv (jn [32] (l.set i x))])) l1 = some (.lst [sv (jn [32] (l.set i x))]) := upd_same
  generalize upd K1 l1 (.lst [sv (jn [32] (l.set i x))]) = K2 at t2 y2 ⊢
  refine ⟨s1, l1, _, _, rfl, rfl, t2 _ _ y1, y2, by rw [List.length_take, lrl, sizeLine_eq]; show _ + 1 ≤ _; omega, fun p1 np1 => ?_⟩
  have t3 : Same K2 (upd K2 p1 (.lst ((((lines q).map (jn [32])).map sv).take at' ++ [sv (jn [32] (l.set i x))]))) := same_new (Same.refl _) np1
  have y3 : (upd K2 p1 (.lst ((((lines q).map (jn [32])).map sv).take at' ++ [sv (jn [32] (l.set i x))]))) p1 = some (.lst ((((lines q).map (jn [32])).map sv).take at' ++ [sv (jn [32] (l.set i x))])) := upd_same
  generalize upd K2 p1 (.lst ((((lines q).map (jn [32])).map sv).take at' ++ [sv (jn [32] (l.set i x))])) = K3 at t3 y3 ⊢
  have t13 := t1.trans (t2.trans t3)
  refine ⟨_, rfl, _, rfl, _, _, rfl, rfl, _, rfl, rl, _, rfl, .of (t13 _ _ r13), fun s2 ns2 => ?_⟩
  rw [cut_from (show (at' : Int) + 1 = ((at' + 1 : Nat) : Int) by omega)]
  have t4 : Same K3 (upd K3 s2 (.lst ((((lines q).map (jn [32])).map sv).drop (at' + 1)))) := same_new (Same.refl _) ns2
  have y4 : (upd K3 s2 (.lst ((((lines q).map (jn [32])).map sv).drop (at' + 1)))) s2 = some (.lst ((((lines q).map (jn [32])).map sv).drop (at' + 1))) := upd_same
  generalize upd K3 s2 (.lst ((((lines q).map (jn [32])).map sv).drop (at' + 1))) = K4 at t4 y4 ⊢
  refine ⟨p1, s2, _, _, rfl, rfl, t4 _ _ y3, y4, by rw [List.length_append, List.length_take, List.length_drop, lrl, sizeLine_eq]; show _ + 1 + _ ≤ _; omega, fun p2 np2 => ?_⟩
  have eB : ((((lines q).map (jn [32])).map sv).take at' ++ [sv (jn [32] (l.set i x))]) ++ (((lines q).map (jn [32])).map sv).drop (at' + 1) = (((lines q).take at' ++ l.set i x :: (lines q).drop (at' + 1)).map (jn [32])).map sv := by
    rw [← List.map_take, ← List.map_take, ← List.map_drop, ← List.map_drop, List.map_append, List.map_append, List.map_cons, List.map_cons, List.append_assoc]
    rfl
  rw [eB]
  have t5 : Same K4 (upd K4 p2 (.lst ((((lines q).take at' ++ l.set i x :: (lines q).drop (at' + 1)).map (jn [32])).map sv))) := same_new (Same.refl _) np2
  have y5 : (upd K4 p2 (.lst ((((lines q).take at' ++ l.set i x :: (lines q).drop (at' + 1)).map (jn [32])).map sv))) p2 = some (.lst ((((lines q).take at' ++ l.set i x :: (lines q).drop (at' + 1)).map (jn [32])).map sv)) := upd_same
  generalize upd K4 p2 (.lst ((((lines q).take at' ++ l.set i x :: (lines q).drop (at' + 1)).map (jn [32])).map sv)) = K5 at t5 y5 ⊢
  have t15 := t13.trans (t4.trans t5)
  have bsum := sum_le (k := 66) (ws := ((lines q).take at' ++ l.set i x :: (lines q).drop (at' + 1)).map (jn [32])) fun p hp => by
    obtain ⟨ws, hws, rfl⟩ := List.mem_map.mp hp
    exact ((bok ws hws).len (s := [32]) (by simp)).1
  have blen : (((lines q).take at' ++ l.set i x :: (lines q).drop (at' + 1)).map (jn [32])).length ≤ 50 := by
    rw [List.length_map, List.length_append, List.length_cons, List.length_take, List.length_drop]
    omega
  refine ⟨[10], p2, ((lines q).take at' ++ l.set i x :: (lines q).drop (at' + 1)).map (jn [32]), by rw [nl_eq]; rfl, rfl, .inl (.of y5), by rw [q3]; have := Nat.mul_le_mul_right 66 blen; omega, ?_⟩
  have S18 := S13.trans (sib_same t15)
  have fin2 := kC D K5 x0 x3 (some (sv (writeCat q))) (some (.ref la)) x7 x8' x13 x14 x15 x16 x17 x18 x19 x20 x21 a sc rl wl ns (.ref c) q ((lines q).take at') ((lines q).drop (at' + 1)) l i x (rowL_same t15 R13) LC (sib_dp hR S18 (tupOnly_cat q) hv) (tabs_sib hR S18 hT) eL hi' xb (t15 _ _ r13) (t15 _ _ w13) fin
  rw [lL1] at fin2
  exact fin2
end
end Kw
set_option Elab.async false
set_option linter.all false
set_option maxRecDepth 100000
set_option maxHeartbeats 4000000
/-! The walk, part 31: the law. -/
namespace Kw
open PySem PySem.Spec PyProof.Rows L2 Km LamX
theorem ord_words {regs items : List W} {o : Ord} (h : OkOrd regs items o) : ∀ p ∈ ordWs o, p.length ≤ 30 ∧ ∀ c ∈ p, c < 128 := fun p hp => by
  have d0 := h.d1
  have v1 := h.v1
  unfold ordWs at hp
  rw [List.mem_append] at hp
  rcases hp with hp | hp
  · simp only [List.mem_cons, List.mem_nil_iff, or_false] at hp
    rcases hp with rfl | rfl | rfl | rfl
    · exact ⟨Nat.le_trans (name_len h.nm) (by omega), name_low h.nm⟩
    · exact ⟨Nat.le_trans (name_len h.rnm) (by omega), name_low h.rnm⟩
    · exact ⟨Nat.le_trans (dig_len _) (by omega), dig_low (by omega)⟩
    · exact ⟨Nat.le_trans (dig_len _) (by omega), dig_low (by omega)⟩
  · obtain ⟨u, hu, hp⟩ := List.mem_flatMap.mp hp
    have hu := h.ws u hu
    have c99 := hu.c99
    simp only [wishWs, List.mem_cons, List.mem_nil_iff, or_false] at hp
    rcases hp with rfl | rfl
    · refine ⟨Nat.le_trans (wish_len hu).2 (by omega), fun c hc => ?_⟩
      rcases jn_mem hc with k | ⟨w, hw, k⟩
      · rw [List.mem_singleton] at k
        omega
      · exact name_low (hu.nm w hw) c k
    · exact ⟨Nat.le_trans (dig_len _) (by omega), dig_low (by omega)⟩
theorem ord_small {regs items : List W} {o : Ord} (h : OkOrd regs items o) : okW (ordText o) ∧ (ordText o).length ≤ 1000 := by
  refine ⟨fun c hc => ?_, ?_⟩
  · rcases jn_mem hc with k | ⟨w, hw, k⟩
    · rw [List.mem_singleton] at k
      omega
    · have := (ord_words h w hw).2 c k
      omega
  · have h1 := (ordWs_len h).1
    have h2 := jn_len [32] (ordWs o)
    have h3 := sum_le (k := 30) (ws := ordWs o) fun p hp => (ord_words h p hp).1
    have h4 := h.w3
    have e : ([32] : W).length = 1 := rfl
    rw [e] at h2
    rw [h1] at h2 h3
    show (jn [32] (ordWs o)).length ≤ 1000
    omega
theorem ord_pln {regs items : List W} {o : Ord} (h : OkOrd regs items o) : pln (ordD o) = true ∧ (ordD o).depth ≤ 5 := by
  have w3 := h.w3
  have one : ∀ u ∈ o.wishes, pln (wishD u) = true ∧ (wishD u).depth ≤ 2 := fun u hu => by
    have n3 := (h.ws u hu).n3
    have s := strs_pln (ws := u.1) (by omega)
    refine ⟨pln_tup (fun d hd => ?_) (by show 2 ≤ 1000; omega), dep_tup fun d hd => ?_⟩
    · simp only [List.mem_cons, List.mem_nil_iff, or_false] at hd
      rcases hd with rfl | rfl
      · exact s.1
      · rfl
    · simp only [List.mem_cons, List.mem_nil_iff, or_false] at hd
      rcases hd with rfl | rfl
      · exact s.2
      · exact Nat.zero_le _
  have all : pln (wishesD o.wishes) = true ∧ (wishesD o.wishes).depth ≤ 3 := by
    refine ⟨pln_tup (fun d hd => ?_) (by rw [List.length_map]; omega), dep_tup fun d hd => ?_⟩
    · obtain ⟨u, hu, rfl⟩ := List.mem_map.mp hd
      exact (one u hu).1
    · obtain ⟨u, hu, rfl⟩ := List.mem_map.mp hd
      exact (one u hu).2
  refine ⟨pln_tup (fun d hd => ?_) (by show 5 ≤ 1000; omega), Nat.le_trans (dep_tup (k := 3) fun d hd => ?_) (by omega)⟩
  · simp only [List.mem_cons, List.mem_nil_iff, or_false] at hd
    rcases hd with rfl | rfl | rfl | rfl | rfl
    · rfl
    · rfl
    · exact all.1
    · rfl
    · rfl
  · simp only [List.mem_cons, List.mem_nil_iff, or_false] at hd
    rcases hd with rfl | rfl | rfl | rfl | rfl
    · exact Nat.zero_le _
    · exact Nat.zero_le _
    · exact all.2
    · exact Nat.zero_le _
    · exact Nat.zero_le _
section
variable {P : Program} {w : World} {K : PySem.W.Frag} {mg : Str → Option Value} {base : Heap} {C R : Addr}
def spLaw (K : PySem.W.Frag) (Pt : Addr) : Sp := fun vs H Q _ => ∃ (b : Addr) (ns : List Int), vs = [.ref b] ∧ SqL K H b (ns.map V.int) ∧ H Pt = some (.tbl #[]) ∧ ∀ H', Q (.bl true) H'
theorem ok_law (T : Txt K mg w) (TE : TxtE K mg C R) (SA : SaidAt K mg) {cL Pt f : Addr} (TB : TabB base mg cL Pt) {kV doc pm ct oc : Value} {an od : Option Addr} {osl : Array (Option Value)}
    (lk : K.lookup f = some ⟨oc, od, .func (PySem.W.fnOf "law" "law" (defArgs sLaw) (defBody sLaw) (defScope sLaw) .none kV doc pm an (.ref cL) ct), osl⟩) (hcd : PySem.W.codeIn K (.ref cL) "law" = true) :
    FnOk P w K mg base (L2.CX P w) 8 f (PySem.W.fnOf "law" "law" (defArgs sLaw) (defBody sLaw) (defScope sLaw) .none kV doc pm an (.ref cL) ct) ["_law_script"] (spLaw K Pt) := by
  refine fn_of lk hcd scLaw (fun vs H Q E h => ?_) fun A outer s H vs Q E hr h => ?_
  · obtain ⟨b, ns, rfl, _⟩ := h
    rfl
  · obtain ⟨b, ns, rfl, hs, ht, kk⟩ := h
    have hr3 := hr.mono (show 3 ≤ 7 by decide)
    have hr5 := hr.mono (show 5 ≤ 7 by decide)
    have hr6 := hr.mono (show 6 ≤ 7 by decide)
    obtain ⟨tD, hD, kD⟩ := law_D (P := P) (w := w) (base := base) T TE SA TB (A := A) (outer := outer) (s := s) (H := H) (E := E) (f := f) hr
    obtain ⟨tC, hC, kC⟩ := law_C (P := P) (w := w) (base := base) T TE SA TB (A := A) (outer := outer) (s := s) (H := H) (E := E) (f := f) hr hD kD
    obtain ⟨tB, hB, kB⟩ := law_B (P := P) (w := w) (base := base) T TE (A := A) (outer := outer) (s := s) (H := H) (E := E) (f := f) hr hC kC
    refine ⟨_, pss_cons (ps_set (i := 1) scLaw.nd rfl (Or.inl rfl) (pe_lst (pa_cons (pv 0) (pa_cons pe_int (pa_cons pe_int (pa_cons pe_int pa_nil))))))
      (pss_cons (ps_set (i := 2) scLaw.nd rfl (Or.inr rfl) (pe_dn (ok_lawC T) hr3 pass0 (pa_cons (pv 1) pa_nil)))
      (pss_cons (ps_par (i := 3) (j := 4) rfl scLaw.nd rfl rfl (by decide) rfl rfl (pa_cons (pe_dn (ok_lawO T) hr3 pass0 (pa_cons (pv 1) (pa_cons (pv 2) (pa_cons pe_str pa_nil)))) (pa_cons (pe_dn (ok_writeC T) hr5 pass0 (pa_cons (pv 2) pa_nil)) pa_nil)) rfl)
      (pss_cons (ps_if (pt_not (pt_val (pe_dn (ok_alike T 5) hr6 pass0 (pa_cons (pe_dn (ok_readC T TE) hr5 (passes_call (takes_of rfl rfl rfl rfl) (fun _ _ _ _ h => h)) (pa_cons (pv 4) pa_nil)) (pa_cons (pv 2) pa_nil))))) (pss_one (ps_ret pe_bl)) pss_nil)
      (pss_cons (ps_if (pt_not (pt_val (pe_dn (ok_alike T 5) hr6 pass0 (pa_cons (pe_dn (ok_readO T TE) hr5 (passes_call (takes_of rfl rfl rfl rfl) (fun _ _ _ _ h => h)) (pa_cons (pv 2) (pa_cons (pe_dn (ok_writeO T) hr6 pass0 (pa_cons (pv 2) (pa_cons (pv 3) pa_nil))) pa_nil))) (pa_cons (pv 3) pa_nil))))) (pss_one (ps_ret pe_bl)) pss_nil)
      hB)))), ?_⟩
    refine ⟨_, rfl, (by show 4 ≤ sizeLine; rw [sizeLine_eq]; decide), fun a na => ?_⟩
    have hT0 : Tabs [(Pt, (lawX P w K mg base f cL A outer s H E).env.qual ++ "<lambda>")] H := fun p hp => by
      rw [List.mem_singleton.mp hp]
      exact TabS.nil ht
    have s1 : Same H (upd H a (.lst [.ref b, .int 0, .int 7216, .int 0])) := same_new (Same.refl _) na
    have R1 : RowL K b ns (upd H a (.lst [.ref b, .int 0, .int 7216, .int 0])) a := ⟨0, 7216, 0, upd_same, fun H' s' => by
      rcases hs with (hs | ⟨o, hs⟩) | hs
      · exact .inl (.inl (s' _ _ (s1 _ _ hs) (ne_of_none hs na) (fun ps z => by cases z)))
      · exact .inl (.inr ⟨o, s' _ _ (s1 _ _ hs) (ne_of_none hs na) (fun ps z => by cases z)⟩)
      · exact .inr hs⟩
    have T1 := hT0.ext (fun b o e => s1 b o e)
    generalize upd H a (.lst [.ref b, .int 0, .int 7216, .int 0]) = H1 at s1 R1 T1 ⊢
    refine ⟨_, rfl, a, b, ns, rfl, R1, fun q v H2 LC s2 R2 d2 => ?_⟩
    have T2 := tabs_sib R1 s2 T1
    obtain ⟨cp, cd⟩ := cat_pln LC.ok.toSound
    obtain ⟨b1, b2⟩ := txt_small LC.ok.toSound.lines_ok LC.ok.toSound.lines_few
    have b1 : okW (writeCat q) := b1
    have b2 : (writeCat q).length ≤ 10000 := b2
    refine ⟨_, rfl, _, rfl, a, b, ns, v, q, rfl, R2, d2, LC.ok, fun o z H3 ok s3 R3 d3 => ?_⟩
    have d2' := sib_dp R2 s3 (tupOnly_cat q) d2
    have T3 := tabs_sib R2 s3 T2
    obtain ⟨op, od'⟩ := ord_pln ok
    obtain ⟨o1, o2⟩ := ord_small ok
    refine ⟨_, rfl, v, q, rfl, d2', LC.ok, fun H4 s4 => ⟨_, _, rfl, ?_⟩⟩
    refine ⟨_, rfl, writeCat q, rfl, b1, by omega, (fun q' hq' v3 H5 s5 d5 => ?_), (fun l c h => by rw [read_written LC.ok] at h; cases h)⟩
    rw [read_written LC.ok] at hq'
    cases hq'
    have s35 := s4.trans s5
    refine ⟨_, rfl, v3, v, catD q, rfl, d5, dp_same s35 _ _ d2', cp, cd, fun H6 s6 => ⟨_, rfl, iteF ?_⟩⟩
    have s36 := s35.trans s6
    refine ⟨_, rfl, _, rfl, _, rfl, v, z, q, o, rfl, dp_same s36 _ _ d2', LC.ok, dp_same s36 _ _ d3, ok, fun H7 s7 => ?_⟩
    have s37 := s36.trans s7
    refine ⟨v, q, ordText o, rfl, dp_same s37 _ _ d2', LC.ok, o1, by omega, (fun o' ho' v4 H8 s8 d8 => ?_), (fun c h => by rw [ord_back ok] at h; cases h)⟩
    rw [ord_back ok] at ho'
    cases ho'
    have s38 := s37.trans s8
    refine ⟨_, rfl, v4, z, ordD o, rfl, d8, dp_same s38 _ _ d3, op, od', fun H9 s9 => ⟨_, rfl, iteF ?_⟩⟩
    have s39 := s38.trans s9
    exact kB _ H9 _ _ _ _ _ _ _ _ _ _ _ _ _ _ _ _ _ _ _ a b ns v q (rowL_same s39 R3) LC (dp_same s39 _ _ d2') (T3.ext (fun b o e => s39 b o e)) kk
end
end Kw
set_option Elab.async false
set_option linter.all false
set_option maxRecDepth 100000
set_option maxHeartbeats 4000000
/-! The walk, part 32: the end: what the written part tells, all at once. -/
namespace Kw
open PySem PySem.Spec PyProof.Rows L2 Km LamX
theorem exm_self {K : PySem.W.Frag} {S : Addr} (h1 : PySem.W.subIn K (.ref S) (.type "BaseException") = some true) (h2 : PySem.W.isClsIn K S = true) (h3 : PySem.W.typeIn K (.ref S) = some (.type "type")) (h4 : PySem.W.subIn K (.ref S) (.ref S) = some true) :
    PySem.W.exmOne K (.ref S) (.ref S) = some true := by
  have e1 : (PySem.W.subIn K (.ref S) (.type "BaseException") == some true) = true := by rw [h1] <;> rfl
  have e2 : ((PySem.W.clsIn K S).isSome && PySem.W.typeIn K (.ref S) == some (.type "type")) = true := by
    have h2' : (PySem.W.clsIn K S).isSome = true := h2
    rw [h2', h3] <;> rfl
  show (if (PySem.W.subIn K (.ref S) (.type "BaseException") == some true) = true then (if ((PySem.W.clsIn K S).isSome && PySem.W.typeIn K (.ref S) == some (.type "type")) = true then PySem.W.subIn K (.ref S) (.ref S) else none) else none) = some true
  rw [if_pos e1, if_pos e2]
  exact h4
theorem refs_one {S : Addr} : PySem.HandSPX.refsVE [.ref S, .type "ValueError", .type "Exception", .type "BaseException", .type "object"] = true := by
  show PySem.HandSPX.refsVE [.type "ValueError", .type "Exception", .type "BaseException", .type "object"] = true
  decide +kernel
theorem ktup_mk {K : PySem.W.Frag} {a : Addr} {d : Option Addr} {its : Array Value} {n : Nat} {sl : Array (Option Value)} {xs : List V} (l : K.lookup a = some ⟨.type "tuple", d, .seq its n, sl⟩) (hs : its.size ≤ sizeLine) (v : Vals xs its.toList) : KTup K a xs :=
  ⟨_, its, n, l, rfl, rfl, hs, v⟩
def keyS (e : DictEntry) : Option Str := match e.key with
  | .str x _ => some x
  | _ => none
theorem key_find {z : Str} : ∀ {l : List DictEntry} {ns : List Str}, l.map keyS = ns.map some → (∀ e ∈ l, e.refKey = false) ∧ (l.find? (·.key.isStr z)).isSome = ns.contains z
  | [], [], _ => ⟨fun _ h => (by cases h), rfl⟩
  | [], _ :: _, h => by cases h
  | _ :: _, [], h => by cases h
  | e :: l, n :: ns, h => by
    have h1 : keyS e :: l.map keyS = some n :: ns.map some := h
    injection h1 with h2 h3
    obtain ⟨i1, i2⟩ := key_find (z := z) h3
    obtain ⟨hh, kk, vv⟩ := e
    unfold keyS at h2
    cases kk with
    | str x t =>
      have h4 : x = n := Option.some.inj h2
      subst h4
      refine ⟨fun e he => ?_, ?_⟩
      · rcases List.mem_cons.mp he with rfl | he
        · rfl
        · exact i1 e he
      · rw [List.find?_cons, List.contains_cons, ← i2]
        have e0 : (Value.str x t).isStr z = (z == x) := by
          show (x == z) = (z == x)
          by_cases q : x = z
          · rw [q]
          · rw [beq_false_of_ne q, beq_false_of_ne (Ne.symm q)]
        rw [show (⟨hh, .str x t, vv⟩ : DictEntry).key.isStr z = (z == x) from e0]
        cases z == x <;> rfl
    | _ => cases h2
theorem forms_in {K : PySem.W.Frag} {a : Addr} {es : Array DictEntry} {n : Nat} (l : K.lookup a = some ⟨.type "dict", none, .dict es n, #[]⟩) (y : es.toList.map keyS = [some ("house" : Str), some ("region" : Str), some ("item" : Str), some ("lane" : Str), some ("supply" : Str)]) (z : Str) :
    ∃ r, PySem.W.nsIn K a z = some r ∧ r.isSome = (Km.kindOf (TL.tl z)).isSome := by
  obtain ⟨h1, h2⟩ := key_find (z := z) (l := es.toList) (ns := ["house", "region", "item", "lane", "supply"]) y
  have e : (Km.kindOf (TL.tl z)).isSome = (["house", "region", "item", "lane", "supply"] : List Str).contains z := by
    have c : ∀ k, (z == ks k) = decide (TL.tl z = kw k) := fun k => by
      rw [← ks_tl]
      by_cases q : z = ks k
      · rw [q]; simp
      · rw [beq_false_of_ne q]
        have : ¬ TL.tl z = TL.tl (ks k) := fun e => q (by rw [← mk_tl' z, e, mk_tl'])
        simp [this]
    show _ = (z == ks 0 || (z == ks 1 || (z == ks 2 || (z == ks 3 || (z == ks 4 || false)))))
    rw [c, c, c, c, c]
    unfold Km.kindOf
    repeat' split
    all_goals simp_all
  rw [e, ← h2]
  unfold PySem.W.nsIn
  rw [l]
  show ∃ r, (match es.toList.find? (·.key.isStr z) with
      | some e => some (some e.val)
      | none => if es.toList.any (·.refKey) then none else some none) = some r ∧ _
  cases q : es.toList.find? (·.key.isStr z) with
  | some e => exact ⟨_, rfl, rfl⟩
  | none =>
    refine ⟨none, ?_, rfl⟩
    have : es.toList.any (·.refKey) = false := List.any_eq_false.mpr fun e he => by rw [h1 e he]; exact Bool.false_ne_true
    show (if es.toList.any (·.refKey) then none else some none) = some none
    rw [this]
    rfl
set_option maxRecDepth 100000 in
theorem end_law {w : World} {K : PySem.W.Frag} {h : Heap} {mg : Str → Option Value} (X : K.In h) (G : h.Ns mainGlobals mg) {aW aF aR0 aM aF0 aF1 aF2 aF3 aF4 fdWhole fdName fdUnlike fdNames fdRows fdLane fdSupply fdCat fdNeedC fdWish fdOrder fdNeedO fdWriteC fdNumIn fdReadC fdWriteO fdReadO fdWishes fdTaken fdPick fdAlike fdLawC fdLawO fdSaid C R N SE fLI fRI fRN fRP fRR fRL fLaw cL Pt fa : Addr} {t_SMALL t_FIGS t_PLACES t_LANES t_SUPPLIES t_WISHES t_DAY t_REGIONS t_ITEMS tw0 tw1 tw2 tw3 tw4 tf0_0 tf1_0 tf2_0 tf3_0 tf3_1 tf3_2 tf3_3 tf3_4 tf4_0 tf4_1 tf4_2 tf4_3 tf4_4 tr0 tr1 tr2 tr3 tr4 tm0 tm1 tm2 tm3 tm4 : Tok} {ocdWhole kVdWhole dcdWhole pmdWhole ctdWhole cddWhole ocdName kVdName dcdName pmdName ctdName cddName ocdUnlike kVdUnlike dcdUnlike pmdUnlike ctdUnlike cddUnlike ocdNames kVdNames dcdNames pmdNames ctdNames cddNames ocdRows kVdRows dcdRows pmdRows ctdRows cddRows ocdLane kVdLane dcdLane pmdLane ctdLane cddLane ocdSupply kVdSupply dcdSupply pmdSupply ctdSupply cddSupply ocdCat kVdCat dcdCat pmdCat ctdCat cddCat ocdNeedC kVdNeedC dcdNeedC pmdNeedC ctdNeedC cddNeedC ocdWish kVdWish dcdWish pmdWish ctdWish cddWish ocdOrder kVdOrder dcdOrder pmdOrder ctdOrder cddOrder ocdNeedO kVdNeedO dcdNeedO pmdNeedO ctdNeedO cddNeedO ocdWriteC kVdWriteC dcdWriteC pmdWriteC ctdWriteC cddWriteC ocdNumIn kVdNumIn dcdNumIn pmdNumIn ctdNumIn cddNumIn ocdReadC kVdReadC dcdReadC pmdReadC ctdReadC cddReadC ocdWriteO kVdWriteO dcdWriteO pmdWriteO ctdWriteO cddWriteO ocdReadO kVdReadO dcdReadO pmdReadO ctdReadO cddReadO ocdWishes kVdWishes dcdWishes pmdWishes ctdWishes cddWishes ocdTaken kVdTaken dcdTaken pmdTaken ctdTaken cddTaken ocdPick kVdPick dcdPick pmdPick ctdPick cddPick ocdAlike kVdAlike dcdAlike pmdAlike ctdAlike cddAlike ocdLawC kVdLawC dcdLawC pmdLawC ctdLawC cddLawC ocdLawO kVdLawO dcdLawO pmdLawO ctdLawO cddLawO ocdSaid kVdSaid dcdSaid pmdSaid ctdSaid cddSaid ocLI kVLI dcLI pmLI ctLI cdLI ocRI kVRI dcRI pmRI ctRI cdRI ocRN kVRN dcRN pmRN ctRN cdRN ocRP kVRP dcRP pmRP ctRP cdRP ocRR kVRR dcRR pmRR ctRR cdRR ocRL kVRL dcRL pmRL ctRL cdRL ocLaw kVLaw dcLaw pmLaw ctLaw : Value} {dW dF0 dF1 dF2 dF3 dF4 oddWhole andWhole oddName andName oddUnlike andUnlike oddNames andNames oddRows andRows oddLane andLane oddSupply andSupply oddCat andCat oddNeedC andNeedC oddWish andWish oddOrder andOrder oddNeedO andNeedO oddWriteC andWriteC oddNumIn andNumIn oddReadC andReadC oddWriteO andWriteO oddReadO andReadO oddWishes andWishes oddTaken andTaken oddPick andPick oddAlike andAlike oddLawC andLawC oddLawO andLawO oddSaid andSaid odLI anLI odRI anRI odRN anRN odRP anRP odRR anRR odRL anRL dCo odLaw anLaw : Option Addr} {slW slF0 slF1 slF2 slF3 slF4 sldWhole sldName sldUnlike sldNames sldRows sldLane sldSupply sldCat sldNeedC sldWish sldOrder sldNeedO sldWriteC sldNumIn sldReadC sldWriteO sldReadO sldWishes sldTaken sldPick sldAlike sldLawC sldLawO sldSaid slLI slRI slRN slRP slRR slRL slCo slLaw : Array (Option Value)} {nW nF nR0 nM nF0 nF1 nF2 nF3 nF4 : Nat} {esF esR0 esM : Array DictEntry} {vsC : Array Value} {nm q : Str} {bs : List Value} {sn : List Str} {sub : List Value} {ab : Bool} {col : Option Bool} {dd : Option Addr} {m0 m1 m2 m3 m5 : Option Value} (hmg : mg "law" = some (.ref fa))
    (n_len : PySem.W.nsIn K mainGlobals "len" = some none)
    (n_isinst : PySem.W.nsIn K mainGlobals "isinstance" = some none)
    (n_all : PySem.W.nsIn K mainGlobals "all" = some none)
    (n_zip : PySem.W.nsIn K mainGlobals "zip" = some none)
    (n_enum : PySem.W.nsIn K mainGlobals "enumerate" = some none)
    (n_range : PySem.W.nsIn K mainGlobals "range" = some none)
    (n_sum : PySem.W.nsIn K mainGlobals "sum" = some none)
    (n_int : PySem.W.nsIn K mainGlobals "int" = some none)
    (n_bool : PySem.W.nsIn K mainGlobals "bool" = some none)
    (n_str : PySem.W.nsIn K mainGlobals "str" = some none)
    (n_tuple : PySem.W.nsIn K mainGlobals "tuple" = some none)
    (n_list : PySem.W.nsIn K mainGlobals "list" = some none)
    (g_SMALL : PySem.W.nsIn K mainGlobals "SMALL" = some (some (.str "abcdefghijklmnopqrstuvwxyz" t_SMALL)))
    (g_FIGS : PySem.W.nsIn K mainGlobals "FIGURES" = some (some (.str "0123456789" t_FIGS)))
    (g_PLACES : PySem.W.nsIn K mainGlobals "MOST_PLACES" = some (some (.int 5 t_PLACES)))
    (g_LANES : PySem.W.nsIn K mainGlobals "MOST_LANES" = some (some (.int 20 t_LANES)))
    (g_SUPPLIES : PySem.W.nsIn K mainGlobals "MOST_SUPPLIES" = some (some (.int 14 t_SUPPLIES)))
    (g_WISHES : PySem.W.nsIn K mainGlobals "MOST_WISHES" = some (some (.int 3 t_WISHES)))
    (g_DAY : PySem.W.nsIn K mainGlobals "LAST_DAY" = some (some (.int 60 t_DAY)))
    (g_REGIONS : PySem.W.nsIn K mainGlobals "REGIONS" = some (some (.int 1 t_REGIONS)))
    (g_ITEMS : PySem.W.nsIn K mainGlobals "ITEMS" = some (some (.int 2 t_ITEMS)))
    (g_W : PySem.W.nsIn K mainGlobals "WORDS" = some (some (.ref aW)))
    (l_W : K.lookup aW = some ⟨.type "tuple", dW, .seq #[.str "house" tw0, .str "region" tw1, .str "item" tw2, .str "lane" tw3, .str "supply" tw4] nW, slW⟩)
    (g_F : PySem.W.nsIn K mainGlobals "FORMS" = some (some (.ref aF)))
    (l_F : K.lookup aF = some ⟨.type "dict", none, .dict esF nF, #[]⟩)
    (k_F : PySem.W.KeysLit w.params esF.toList)
    (o_F : (aF == sysModules) = false)
    (y_F : esF.toList.map keyS = [some ("house" : Str), some ("region" : Str), some ("item" : Str), some ("lane" : Str), some ("supply" : Str)])
    (i_F0 : PySem.W.nsIn K aF "house" = some (some (.ref aF0)))
    (l_F0 : K.lookup aF0 = some ⟨.type "tuple", dF0, .seq #[.str "new" tf0_0] nF0, slF0⟩)
    (i_F1 : PySem.W.nsIn K aF "region" = some (some (.ref aF1)))
    (l_F1 : K.lookup aF1 = some ⟨.type "tuple", dF1, .seq #[.str "new" tf1_0] nF1, slF1⟩)
    (i_F2 : PySem.W.nsIn K aF "item" = some (some (.ref aF2)))
    (l_F2 : K.lookup aF2 = some ⟨.type "tuple", dF2, .seq #[.str "new" tf2_0] nF2, slF2⟩)
    (i_F3 : PySem.W.nsIn K aF "lane" = some (some (.ref aF3)))
    (l_F3 : K.lookup aF3 = some ⟨.type "tuple", dF3, .seq #[.str "house" tf3_0, .str "region" tf3_1, .str "span" tf3_2, .str "span" tf3_3, .str "price" tf3_4] nF3, slF3⟩)
    (i_F4 : PySem.W.nsIn K aF "supply" = some (some (.ref aF4)))
    (l_F4 : K.lookup aF4 = some ⟨.type "tuple", dF4, .seq #[.str "new" tf4_0, .str "house" tf4_1, .str "item" tf4_2, .str "day" tf4_3, .str "count" tf4_4] nF4, slF4⟩)
    (g_R : PySem.W.nsIn K mainGlobals "ROOM" = some (some (.ref aR0)))
    (l_R0 : K.lookup aR0 = some ⟨.type "dict", none, .dict esR0 nR0, #[]⟩)
    (k_R0 : PySem.W.KeysLit w.params esR0.toList)
    (i_R0 : PySem.W.nsIn K aR0 "house" = some (some (.int 5 tr0)))
    (i_R1 : PySem.W.nsIn K aR0 "region" = some (some (.int 5 tr1)))
    (i_R2 : PySem.W.nsIn K aR0 "item" = some (some (.int 5 tr2)))
    (i_R3 : PySem.W.nsIn K aR0 "lane" = some (some (.int 20 tr3)))
    (i_R4 : PySem.W.nsIn K aR0 "supply" = some (some (.int 14 tr4)))
    (g_M : PySem.W.nsIn K mainGlobals "MOST" = some (some (.ref aM)))
    (l_M : K.lookup aM = some ⟨.type "dict", none, .dict esM nM, #[]⟩)
    (k_M : PySem.W.KeysLit w.params esM.toList)
    (i_M0 : PySem.W.nsIn K aM "span" = some (some (.int 9 tm0)))
    (i_M1 : PySem.W.nsIn K aM "price" = some (some (.int 99 tm1)))
    (i_M2 : PySem.W.nsIn K aM "day" = some (some (.int 60 tm2)))
    (i_M3 : PySem.W.nsIn K aM "count" = some (some (.int 99 tm3)))
    (i_M4 : PySem.W.nsIn K aM "worth" = some (some (.int 999 tm4)))
    (adWhole : PySem.W.nsIn K mainGlobals "is_whole" = some (some (.ref fdWhole)))
    (ldWhole : K.lookup fdWhole = some ⟨ocdWhole, oddWhole, .func (PySem.W.fnOf "is_whole" "is_whole" (defArgs sIsWhole) (defBody sIsWhole) (defScope sIsWhole) .none kVdWhole dcdWhole pmdWhole andWhole cddWhole ctdWhole), sldWhole⟩)
    (cdWhole : PySem.W.codeIn K cddWhole "is_whole" = true)
    (kdWhole : PySem.W.keepIn K (.ref fdWhole) = true)
    (adName : PySem.W.nsIn K mainGlobals "is_name" = some (some (.ref fdName)))
    (ldName : K.lookup fdName = some ⟨ocdName, oddName, .func (PySem.W.fnOf "is_name" "is_name" (defArgs sIsName) (defBody sIsName) (defScope sIsName) .none kVdName dcdName pmdName andName cddName ctdName), sldName⟩)
    (cdName : PySem.W.codeIn K cddName "is_name" = true)
    (kdName : PySem.W.keepIn K (.ref fdName) = true)
    (adUnlike : PySem.W.nsIn K mainGlobals "are_unlike" = some (some (.ref fdUnlike)))
    (ldUnlike : K.lookup fdUnlike = some ⟨ocdUnlike, oddUnlike, .func (PySem.W.fnOf "are_unlike" "are_unlike" (defArgs sUnlike) (defBody sUnlike) (defScope sUnlike) .none kVdUnlike dcdUnlike pmdUnlike andUnlike cddUnlike ctdUnlike), sldUnlike⟩)
    (cdUnlike : PySem.W.codeIn K cddUnlike "are_unlike" = true)
    (kdUnlike : PySem.W.keepIn K (.ref fdUnlike) = true)
    (adNames : PySem.W.nsIn K mainGlobals "are_names" = some (some (.ref fdNames)))
    (ldNames : K.lookup fdNames = some ⟨ocdNames, oddNames, .func (PySem.W.fnOf "are_names" "are_names" (defArgs sAreNames) (defBody sAreNames) (defScope sAreNames) .none kVdNames dcdNames pmdNames andNames cddNames ctdNames), sldNames⟩)
    (cdNames : PySem.W.codeIn K cddNames "are_names" = true)
    (kdNames : PySem.W.keepIn K (.ref fdNames) = true)
    (adRows : PySem.W.nsIn K mainGlobals "are_rows" = some (some (.ref fdRows)))
    (ldRows : K.lookup fdRows = some ⟨ocdRows, oddRows, .func (PySem.W.fnOf "are_rows" "are_rows" (defArgs sAreRows) (defBody sAreRows) (defScope sAreRows) .none kVdRows dcdRows pmdRows andRows cddRows ctdRows), sldRows⟩)
    (cdRows : PySem.W.codeIn K cddRows "are_rows" = true)
    (kdRows : PySem.W.keepIn K (.ref fdRows) = true)
    (adLane : PySem.W.nsIn K mainGlobals "is_lane" = some (some (.ref fdLane)))
    (ldLane : K.lookup fdLane = some ⟨ocdLane, oddLane, .func (PySem.W.fnOf "is_lane" "is_lane" (defArgs sIsLane) (defBody sIsLane) (defScope sIsLane) .none kVdLane dcdLane pmdLane andLane cddLane ctdLane), sldLane⟩)
    (cdLane : PySem.W.codeIn K cddLane "is_lane" = true)
    (kdLane : PySem.W.keepIn K (.ref fdLane) = true)
    (adSupply : PySem.W.nsIn K mainGlobals "is_supply" = some (some (.ref fdSupply)))
    (ldSupply : K.lookup fdSupply = some ⟨ocdSupply, oddSupply, .func (PySem.W.fnOf "is_supply" "is_supply" (defArgs sIsSupply) (defBody sIsSupply) (defScope sIsSupply) .none kVdSupply dcdSupply pmdSupply andSupply cddSupply ctdSupply), sldSupply⟩)
    (cdSupply : PySem.W.codeIn K cddSupply "is_supply" = true)
    (kdSupply : PySem.W.keepIn K (.ref fdSupply) = true)
    (adCat : PySem.W.nsIn K mainGlobals "is_catalog" = some (some (.ref fdCat)))
    (ldCat : K.lookup fdCat = some ⟨ocdCat, oddCat, .func (PySem.W.fnOf "is_catalog" "is_catalog" (defArgs sIsCat) (defBody sIsCat) (defScope sIsCat) .none kVdCat dcdCat pmdCat andCat cddCat ctdCat), sldCat⟩)
    (cdCat : PySem.W.codeIn K cddCat "is_catalog" = true)
    (kdCat : PySem.W.keepIn K (.ref fdCat) = true)
    (adNeedC : PySem.W.nsIn K mainGlobals "need_catalog" = some (some (.ref fdNeedC)))
    (ldNeedC : K.lookup fdNeedC = some ⟨ocdNeedC, oddNeedC, .func (PySem.W.fnOf "need_catalog" "need_catalog" (defArgs sNeedCat) (defBody sNeedCat) (defScope sNeedCat) .none kVdNeedC dcdNeedC pmdNeedC andNeedC cddNeedC ctdNeedC), sldNeedC⟩)
    (cdNeedC : PySem.W.codeIn K cddNeedC "need_catalog" = true)
    (kdNeedC : PySem.W.keepIn K (.ref fdNeedC) = true)
    (adWish : PySem.W.nsIn K mainGlobals "is_wish" = some (some (.ref fdWish)))
    (ldWish : K.lookup fdWish = some ⟨ocdWish, oddWish, .func (PySem.W.fnOf "is_wish" "is_wish" (defArgs sIsWish) (defBody sIsWish) (defScope sIsWish) .none kVdWish dcdWish pmdWish andWish cddWish ctdWish), sldWish⟩)
    (cdWish : PySem.W.codeIn K cddWish "is_wish" = true)
    (kdWish : PySem.W.keepIn K (.ref fdWish) = true)
    (adOrder : PySem.W.nsIn K mainGlobals "is_order" = some (some (.ref fdOrder)))
    (ldOrder : K.lookup fdOrder = some ⟨ocdOrder, oddOrder, .func (PySem.W.fnOf "is_order" "is_order" (defArgs sIsOrder) (defBody sIsOrder) (defScope sIsOrder) .none kVdOrder dcdOrder pmdOrder andOrder cddOrder ctdOrder), sldOrder⟩)
    (cdOrder : PySem.W.codeIn K cddOrder "is_order" = true)
    (kdOrder : PySem.W.keepIn K (.ref fdOrder) = true)
    (adNeedO : PySem.W.nsIn K mainGlobals "need_order" = some (some (.ref fdNeedO)))
    (ldNeedO : K.lookup fdNeedO = some ⟨ocdNeedO, oddNeedO, .func (PySem.W.fnOf "need_order" "need_order" (defArgs sNeedOrder) (defBody sNeedOrder) (defScope sNeedOrder) .none kVdNeedO dcdNeedO pmdNeedO andNeedO cddNeedO ctdNeedO), sldNeedO⟩)
    (cdNeedO : PySem.W.codeIn K cddNeedO "need_order" = true)
    (kdNeedO : PySem.W.keepIn K (.ref fdNeedO) = true)
    (adWriteC : PySem.W.nsIn K mainGlobals "write_catalog" = some (some (.ref fdWriteC)))
    (ldWriteC : K.lookup fdWriteC = some ⟨ocdWriteC, oddWriteC, .func (PySem.W.fnOf "write_catalog" "write_catalog" (defArgs sWriteCat) (defBody sWriteCat) (defScope sWriteCat) .none kVdWriteC dcdWriteC pmdWriteC andWriteC cddWriteC ctdWriteC), sldWriteC⟩)
    (cdWriteC : PySem.W.codeIn K cddWriteC "write_catalog" = true)
    (kdWriteC : PySem.W.keepIn K (.ref fdWriteC) = true)
    (adNumIn : PySem.W.nsIn K mainGlobals "number_in" = some (some (.ref fdNumIn)))
    (ldNumIn : K.lookup fdNumIn = some ⟨ocdNumIn, oddNumIn, .func (PySem.W.fnOf "number_in" "number_in" (defArgs sNumIn) (defBody sNumIn) (defScope sNumIn) .none kVdNumIn dcdNumIn pmdNumIn andNumIn cddNumIn ctdNumIn), sldNumIn⟩)
    (cdNumIn : PySem.W.codeIn K cddNumIn "number_in" = true)
    (kdNumIn : PySem.W.keepIn K (.ref fdNumIn) = true)
    (adReadC : PySem.W.nsIn K mainGlobals "read_catalog" = some (some (.ref fdReadC)))
    (ldReadC : K.lookup fdReadC = some ⟨ocdReadC, oddReadC, .func (PySem.W.fnOf "read_catalog" "read_catalog" (defArgs sReadCat) (defBody sReadCat) (defScope sReadCat) .none kVdReadC dcdReadC pmdReadC andReadC cddReadC ctdReadC), sldReadC⟩)
    (cdReadC : PySem.W.codeIn K cddReadC "read_catalog" = true)
    (kdReadC : PySem.W.keepIn K (.ref fdReadC) = true)
    (adWriteO : PySem.W.nsIn K mainGlobals "write_order" = some (some (.ref fdWriteO)))
    (ldWriteO : K.lookup fdWriteO = some ⟨ocdWriteO, oddWriteO, .func (PySem.W.fnOf "write_order" "write_order" (defArgs sWriteOrd) (defBody sWriteOrd) (defScope sWriteOrd) .none kVdWriteO dcdWriteO pmdWriteO andWriteO cddWriteO ctdWriteO), sldWriteO⟩)
    (cdWriteO : PySem.W.codeIn K cddWriteO "write_order" = true)
    (kdWriteO : PySem.W.keepIn K (.ref fdWriteO) = true)
    (adReadO : PySem.W.nsIn K mainGlobals "read_order" = some (some (.ref fdReadO)))
    (ldReadO : K.lookup fdReadO = some ⟨ocdReadO, oddReadO, .func (PySem.W.fnOf "read_order" "read_order" (defArgs sReadOrd) (defBody sReadOrd) (defScope sReadOrd) .none kVdReadO dcdReadO pmdReadO andReadO cddReadO ctdReadO), sldReadO⟩)
    (cdReadO : PySem.W.codeIn K cddReadO "read_order" = true)
    (kdReadO : PySem.W.keepIn K (.ref fdReadO) = true)
    (adWishes : PySem.W.nsIn K mainGlobals "wishes_in" = some (some (.ref fdWishes)))
    (ldWishes : K.lookup fdWishes = some ⟨ocdWishes, oddWishes, .func (PySem.W.fnOf "wishes_in" "wishes_in" (defArgs sWishes) (defBody sWishes) (defScope sWishes) .none kVdWishes dcdWishes pmdWishes andWishes cddWishes ctdWishes), sldWishes⟩)
    (cdWishes : PySem.W.codeIn K cddWishes "wishes_in" = true)
    (kdWishes : PySem.W.keepIn K (.ref fdWishes) = true)
    (adTaken : PySem.W.nsIn K mainGlobals "_law_taken" = some (some (.ref fdTaken)))
    (ldTaken : K.lookup fdTaken = some ⟨ocdTaken, oddTaken, .func (PySem.W.fnOf "_law_taken" "_law_taken" (defArgs sTaken) (defBody sTaken) (defScope sTaken) .none kVdTaken dcdTaken pmdTaken andTaken cddTaken ctdTaken), sldTaken⟩)
    (cdTaken : PySem.W.codeIn K cddTaken "_law_taken" = true)
    (kdTaken : PySem.W.keepIn K (.ref fdTaken) = true)
    (adPick : PySem.W.nsIn K mainGlobals "_law_pick" = some (some (.ref fdPick)))
    (ldPick : K.lookup fdPick = some ⟨ocdPick, oddPick, .func (PySem.W.fnOf "_law_pick" "_law_pick" (defArgs sPick) (defBody sPick) (defScope sPick) .none kVdPick dcdPick pmdPick andPick cddPick ctdPick), sldPick⟩)
    (cdPick : PySem.W.codeIn K cddPick "_law_pick" = true)
    (kdPick : PySem.W.keepIn K (.ref fdPick) = true)
    (adAlike : PySem.W.nsIn K mainGlobals "_law_alike" = some (some (.ref fdAlike)))
    (ldAlike : K.lookup fdAlike = some ⟨ocdAlike, oddAlike, .func (PySem.W.fnOf "_law_alike" "_law_alike" (defArgs sAlike) (defBody sAlike) (defScope sAlike) .none kVdAlike dcdAlike pmdAlike andAlike cddAlike ctdAlike), sldAlike⟩)
    (cdAlike : PySem.W.codeIn K cddAlike "_law_alike" = true)
    (kdAlike : PySem.W.keepIn K (.ref fdAlike) = true)
    (adLawC : PySem.W.nsIn K mainGlobals "_law_catalog" = some (some (.ref fdLawC)))
    (ldLawC : K.lookup fdLawC = some ⟨ocdLawC, oddLawC, .func (PySem.W.fnOf "_law_catalog" "_law_catalog" (defArgs sLawCat) (defBody sLawCat) (defScope sLawCat) .none kVdLawC dcdLawC pmdLawC andLawC cddLawC ctdLawC), sldLawC⟩)
    (cdLawC : PySem.W.codeIn K cddLawC "_law_catalog" = true)
    (kdLawC : PySem.W.keepIn K (.ref fdLawC) = true)
    (adLawO : PySem.W.nsIn K mainGlobals "_law_order" = some (some (.ref fdLawO)))
    (ldLawO : K.lookup fdLawO = some ⟨ocdLawO, oddLawO, .func (PySem.W.fnOf "_law_order" "_law_order" (defArgs sLawOrd) (defBody sLawOrd) (defScope sLawOrd) .none kVdLawO dcdLawO pmdLawO andLawO cddLawO ctdLawO), sldLawO⟩)
    (cdLawO : PySem.W.codeIn K cddLawO "_law_order" = true)
    (kdLawO : PySem.W.keepIn K (.ref fdLawO) = true)
    (adSaid : PySem.W.nsIn K mainGlobals "_law_said" = some (some (.ref fdSaid)))
    (ldSaid : K.lookup fdSaid = some ⟨ocdSaid, oddSaid, .func (PySem.W.fnOf "_law_said" "_law_said" (defArgs sSaid) (defBody sSaid) (defScope sSaid) .none kVdSaid dcdSaid pmdSaid andSaid cddSaid ctdSaid), sldSaid⟩)
    (cdSaid : PySem.W.codeIn K cddSaid "_law_said" = true)
    (kdSaid : PySem.W.keepIn K (.ref fdSaid) = true)
    (gC : PySem.W.nsIn K mainGlobals "BadLine" = some (some (.ref C)))
    (xC : K.lookup C = some (excClassObj nm q C N bs [.ref SE, .type "ValueError", .type "Exception", .type "BaseException", .type "object"] true sn sub ab col dd m0 m1 m2 m3 m5 "ValueError.__new__"))
    (saC : PySem.W.findIn K (.ref C) "__setattr__" = some (some (.builtin "object.__setattr__")))
    (gaC : PySem.W.findIn K (.ref C) "__getattribute__" = some (some (.builtin "BaseException.__getattribute__")))
    (ggC : PySem.W.findIn K (.ref C) "__getattr__" = some none)
    (nlC : PySem.W.findIn K (.ref C) "line" = some none)
    (nwC : PySem.W.findIn K (.ref C) "word" = some none)
    (eC : PySem.W.subIn K (.ref C) (.type "BaseException") = some true)
    (tC : PySem.W.typeIn K (.ref C) = some (.type "type"))
    (kC : PySem.W.keepIn K (.ref C) = true)
    (hC : PySem.W.hasDictIn K C = true)
    (iC : PySem.W.isClsIn K C = true)
    (sC : PySem.W.subIn K (.ref C) (.ref C) = some true)
    (aLI : PySem.W.findIn K (.ref C) "__init__" = some (some (.ref fLI)))
    (tLI : PySem.W.typeIn K (.ref fLI) = some (.type "function"))
    (lLI : K.lookup fLI = some ⟨ocLI, odLI, .func (PySem.W.fnOf "__init__" "BadLine.__init__" (defArgs sLineI) (defBody sLineI) (defScope sLineI) .none kVLI dcLI pmLI anLI cdLI ctLI), slLI⟩)
    (cLI : PySem.W.codeIn K cdLI "BadLine.__init__" = true)
    (kLI : PySem.W.keepIn K (.ref fLI) = true)
    (gR : PySem.W.nsIn K mainGlobals "CatalogReader" = some (some (.ref R)))
    (pgR : PySem.W.plainGet K R Str.empty = true)
    (hdR : PySem.W.hasDictIn K R = true)
    (poR : PySem.W.plainOver K R = true)
    (saR : PySem.W.findIn K (.ref R) "__setattr__" = some (some (.builtin "object.__setattr__")))
    (npR : PySem.W.findIn K (.ref R) "parts" = some none)
    (mkR : PySem.W.makesIn K R = true)
    (kR : PySem.W.keepIn K (.ref R) = true)
    (aRI : PySem.W.findIn K (.ref R) "__init__" = some (some (.ref fRI)))
    (sRI : PySem.W.isFn K (.ref fRI) = true)
    (lRI : K.lookup fRI = some ⟨ocRI, odRI, .func (PySem.W.fnOf "__init__" "CatalogReader.__init__" (defArgs sRdInit) (defBody sRdInit) (defScope sRdInit) .none kVRI dcRI pmRI anRI cdRI ctRI), slRI⟩)
    (cRI : PySem.W.codeIn K cdRI "CatalogReader.__init__" = true)
    (kRI : PySem.W.keepIn K (.ref fRI) = true)
    (aRN : PySem.W.findIn K (.ref R) "names" = some (some (.ref fRN)))
    (sRN : PySem.W.isFn K (.ref fRN) = true)
    (lRN : K.lookup fRN = some ⟨ocRN, odRN, .func (PySem.W.fnOf "names" "CatalogReader.names" (defArgs sRdNames) (defBody sRdNames) (defScope sRdNames) .none kVRN dcRN pmRN anRN cdRN ctRN), slRN⟩)
    (cRN : PySem.W.codeIn K cdRN "CatalogReader.names" = true)
    (kRN : PySem.W.keepIn K (.ref fRN) = true)
    (aRP : PySem.W.findIn K (.ref R) "part" = some (some (.ref fRP)))
    (sRP : PySem.W.isFn K (.ref fRP) = true)
    (lRP : K.lookup fRP = some ⟨ocRP, odRP, .func (PySem.W.fnOf "part" "CatalogReader.part" (defArgs sRdPart) (defBody sRdPart) (defScope sRdPart) .none kVRP dcRP pmRP anRP cdRP ctRP), slRP⟩)
    (cRP : PySem.W.codeIn K cdRP "CatalogReader.part" = true)
    (kRP : PySem.W.keepIn K (.ref fRP) = true)
    (aRR : PySem.W.findIn K (.ref R) "read" = some (some (.ref fRR)))
    (sRR : PySem.W.isFn K (.ref fRR) = true)
    (lRR : K.lookup fRR = some ⟨ocRR, odRR, .func (PySem.W.fnOf "read" "CatalogReader.read" (defArgs sRdRead) (defBody sRdRead) (defScope sRdRead) .none kVRR dcRR pmRR anRR cdRR ctRR), slRR⟩)
    (cRR : PySem.W.codeIn K cdRR "CatalogReader.read" = true)
    (kRR : PySem.W.keepIn K (.ref fRR) = true)
    (aRL : PySem.W.findIn K (.ref R) "need_lane" = some (some (.ref fRL)))
    (sRL : PySem.W.isFn K (.ref fRL) = true)
    (lRL : K.lookup fRL = some ⟨ocRL, odRL, .func (PySem.W.fnOf "need_lane" "CatalogReader.need_lane" (defArgs sRdNeed) (defBody sRdNeed) (defScope sRdNeed) .none kVRL dcRL pmRL anRL cdRL ctRL), slRL⟩)
    (cRL : PySem.W.codeIn K cdRL "CatalogReader.need_lane" = true)
    (kRL : PySem.W.keepIn K (.ref fRL) = true)
    (aLaw : PySem.W.nsIn K mainGlobals "law" = some (some (.ref fLaw)))
    (lLaw : K.lookup fLaw = some ⟨ocLaw, odLaw, .func (PySem.W.fnOf "law" "law" (defArgs sLaw) (defBody sLaw) (defScope sLaw) .none kVLaw dcLaw pmLaw anLaw (.ref cL) ctLaw), slLaw⟩)
    (cLaw : PySem.W.codeIn K (.ref cL) "law" = true)
    (lCo : K.lookup cL = some ⟨.type "code", dCo, .fields vsC, slCo⟩)
    (pCo : vsC[11]? = some (.ref Pt))
    (hCo : PySem.W.codeHdIn K cL Pt = true)
    (nP : K.lookup Pt = none)
    (tP : h.get? Pt = some (PySem.W.tabObj #[])) :
    LawAtS PySem.Challenge.rw_surehouse_k16_whole_texts w K (L2.CX PySem.Challenge.rw_surehouse_k16_whole_texts.prog w) 8 63 "_law_script" mg fa h := by
  have e := hmg.symm.trans (PySem.W.mg_of X G aLaw)
  cases e
  have T : Txt K mg w :=
    { len := PySem.W.mg_none_of X G n_len,
      isinst := PySem.W.mg_none_of X G n_isinst,
      all := PySem.W.mg_none_of X G n_all,
      zip := PySem.W.mg_none_of X G n_zip,
      enum := PySem.W.mg_none_of X G n_enum,
      range := PySem.W.mg_none_of X G n_range,
      sum := PySem.W.mg_none_of X G n_sum,
      int := PySem.W.mg_none_of X G n_int,
      bool := PySem.W.mg_none_of X G n_bool,
      str := PySem.W.mg_none_of X G n_str,
      tuple := PySem.W.mg_none_of X G n_tuple,
      list := PySem.W.mg_none_of X G n_list,
      SMALL := ⟨_, PySem.W.mg_of X G g_SMALL⟩,
      FIGS := ⟨_, PySem.W.mg_of X G g_FIGS⟩,
      PLACES := ⟨_, PySem.W.mg_of X G g_PLACES⟩,
      LANES := ⟨_, PySem.W.mg_of X G g_LANES⟩,
      SUPPLIES := ⟨_, PySem.W.mg_of X G g_SUPPLIES⟩,
      WISHES := ⟨_, PySem.W.mg_of X G g_WISHES⟩,
      DAY := ⟨_, PySem.W.mg_of X G g_DAY⟩,
      REGIONS := ⟨_, PySem.W.mg_of X G g_REGIONS⟩,
      ITEMS := ⟨_, PySem.W.mg_of X G g_ITEMS⟩,
      WORDS := ⟨aW, PySem.W.mg_of X G g_W, ktup_mk l_W (by rw [sizeLine_eq]; exact (by decide : 5 ≤ 16777216)) (.cons ⟨_, rfl⟩ (.cons ⟨_, rfl⟩ (.cons ⟨_, rfl⟩ (.cons ⟨_, rfl⟩ (.cons ⟨_, rfl⟩ .nil)))))⟩,
      FORMS := ⟨aF, esF, nF, PySem.W.mg_of X G g_F, ⟨l_F, k_F, o_F⟩, forms_in l_F y_F, fun k hk => match k, hk with
      | 0, _ => ⟨aF0, ⟨esF, nF, _, l_F, k_F, i_F0, rfl⟩, ktup_mk l_F0 (by rw [sizeLine_eq]; exact (by decide : 1 ≤ 16777216)) (.cons ⟨_, rfl⟩ .nil)⟩
      | 1, _ => ⟨aF1, ⟨esF, nF, _, l_F, k_F, i_F1, rfl⟩, ktup_mk l_F1 (by rw [sizeLine_eq]; exact (by decide : 1 ≤ 16777216)) (.cons ⟨_, rfl⟩ .nil)⟩
      | 2, _ => ⟨aF2, ⟨esF, nF, _, l_F, k_F, i_F2, rfl⟩, ktup_mk l_F2 (by rw [sizeLine_eq]; exact (by decide : 1 ≤ 16777216)) (.cons ⟨_, rfl⟩ .nil)⟩
      | 3, _ => ⟨aF3, ⟨esF, nF, _, l_F, k_F, i_F3, rfl⟩, ktup_mk l_F3 (by rw [sizeLine_eq]; exact (by decide : 5 ≤ 16777216)) (.cons ⟨_, rfl⟩ (.cons ⟨_, rfl⟩ (.cons ⟨_, rfl⟩ (.cons ⟨_, rfl⟩ (.cons ⟨_, rfl⟩ .nil)))))⟩
      | 4, _ => ⟨aF4, ⟨esF, nF, _, l_F, k_F, i_F4, rfl⟩, ktup_mk l_F4 (by rw [sizeLine_eq]; exact (by decide : 5 ≤ 16777216)) (.cons ⟨_, rfl⟩ (.cons ⟨_, rfl⟩ (.cons ⟨_, rfl⟩ (.cons ⟨_, rfl⟩ (.cons ⟨_, rfl⟩ .nil)))))⟩⟩,
      ROOM := ⟨aR0, PySem.W.mg_of X G g_R, fun k hk => match k, hk with
      | 0, _ => ⟨esR0, nR0, _, l_R0, k_R0, i_R0, ⟨_, rfl⟩⟩
      | 1, _ => ⟨esR0, nR0, _, l_R0, k_R0, i_R1, ⟨_, rfl⟩⟩
      | 2, _ => ⟨esR0, nR0, _, l_R0, k_R0, i_R2, ⟨_, rfl⟩⟩
      | 3, _ => ⟨esR0, nR0, _, l_R0, k_R0, i_R3, ⟨_, rfl⟩⟩
      | 4, _ => ⟨esR0, nR0, _, l_R0, k_R0, i_R4, ⟨_, rfl⟩⟩⟩,
      MOST := ⟨aM, PySem.W.mg_of X G g_M, ⟨esM, nM, _, l_M, k_M, i_M0, ⟨_, rfl⟩⟩, ⟨esM, nM, _, l_M, k_M, i_M1, ⟨_, rfl⟩⟩, ⟨esM, nM, _, l_M, k_M, i_M2, ⟨_, rfl⟩⟩, ⟨esM, nM, _, l_M, k_M, i_M3, ⟨_, rfl⟩⟩, ⟨esM, nM, _, l_M, k_M, i_M4, ⟨_, rfl⟩⟩⟩,
      dWhole := ⟨⟨_, _, fun_mk (st := sIsWhole) ldWhole cdWhole kdWhole, PySem.W.mg_of X G adWhole⟩⟩,
      dName := ⟨⟨_, _, fun_mk (st := sIsName) ldName cdName kdName, PySem.W.mg_of X G adName⟩⟩,
      dUnlike := ⟨⟨_, _, fun_mk (st := sUnlike) ldUnlike cdUnlike kdUnlike, PySem.W.mg_of X G adUnlike⟩⟩,
      dNames := ⟨⟨_, _, fun_mk (st := sAreNames) ldNames cdNames kdNames, PySem.W.mg_of X G adNames⟩⟩,
      dRows := ⟨⟨_, _, fun_mk (st := sAreRows) ldRows cdRows kdRows, PySem.W.mg_of X G adRows⟩⟩,
      dLane := ⟨⟨_, _, fun_mk (st := sIsLane) ldLane cdLane kdLane, PySem.W.mg_of X G adLane⟩⟩,
      dSupply := ⟨⟨_, _, fun_mk (st := sIsSupply) ldSupply cdSupply kdSupply, PySem.W.mg_of X G adSupply⟩⟩,
      dCat := ⟨⟨_, _, fun_mk (st := sIsCat) ldCat cdCat kdCat, PySem.W.mg_of X G adCat⟩⟩,
      dNeedC := ⟨⟨_, _, fun_mk (st := sNeedCat) ldNeedC cdNeedC kdNeedC, PySem.W.mg_of X G adNeedC⟩⟩,
      dWish := ⟨⟨_, _, fun_mk (st := sIsWish) ldWish cdWish kdWish, PySem.W.mg_of X G adWish⟩⟩,
      dOrder := ⟨⟨_, _, fun_mk (st := sIsOrder) ldOrder cdOrder kdOrder, PySem.W.mg_of X G adOrder⟩⟩,
      dNeedO := ⟨⟨_, _, fun_mk (st := sNeedOrder) ldNeedO cdNeedO kdNeedO, PySem.W.mg_of X G adNeedO⟩⟩,
      dWriteC := ⟨⟨_, _, fun_mk (st := sWriteCat) ldWriteC cdWriteC kdWriteC, PySem.W.mg_of X G adWriteC⟩⟩,
      dNumIn := ⟨⟨_, _, fun_mk (st := sNumIn) ldNumIn cdNumIn kdNumIn, PySem.W.mg_of X G adNumIn⟩⟩,
      dReadC := ⟨⟨_, _, fun_mk (st := sReadCat) ldReadC cdReadC kdReadC, PySem.W.mg_of X G adReadC⟩⟩,
      dWriteO := ⟨⟨_, _, fun_mk (st := sWriteOrd) ldWriteO cdWriteO kdWriteO, PySem.W.mg_of X G adWriteO⟩⟩,
      dReadO := ⟨⟨_, _, fun_mk (st := sReadOrd) ldReadO cdReadO kdReadO, PySem.W.mg_of X G adReadO⟩⟩,
      dWishes := ⟨⟨_, _, fun_mk (st := sWishes) ldWishes cdWishes kdWishes, PySem.W.mg_of X G adWishes⟩⟩,
      dTaken := ⟨⟨_, _, fun_mk (st := sTaken) ldTaken cdTaken kdTaken, PySem.W.mg_of X G adTaken⟩⟩,
      dPick := ⟨⟨_, _, fun_mk (st := sPick) ldPick cdPick kdPick, PySem.W.mg_of X G adPick⟩⟩,
      dAlike := ⟨⟨_, _, fun_mk (st := sAlike) ldAlike cdAlike kdAlike, PySem.W.mg_of X G adAlike⟩⟩,
      dLawC := ⟨⟨_, _, fun_mk (st := sLawCat) ldLawC cdLawC kdLawC, PySem.W.mg_of X G adLawC⟩⟩,
      dLawO := ⟨⟨_, _, fun_mk (st := sLawOrd) ldLawO cdLawO kdLawO, PySem.W.mg_of X G adLawO⟩⟩ }
  have TE : TxtE K mg C R :=
    { gC := PySem.W.mg_of X G gC,
      ox := ⟨⟨nm, q, N, bs, _, sn, sub, ab, col, dd, m0, m1, m2, m3, m5, xC, refs_one⟩, saC, eC, tC, kC⟩,
      xf := ⟨gaC, ggC, eC, hC⟩,
      noL := nlC,
      noW := nwC,
      iC := ⟨fLI, _, aLI, tLI, fun_mk (st := sLineI) lLI cLI kLI⟩,
      te := exm_self eC iC tC sC,
      gR := PySem.W.mg_of X G gR,
      cl := ⟨pgR, hdR, poR, saR⟩,
      noP := npR,
      mI := ⟨fRI, _, ⟨mkR, aRI, sRI, kR⟩, fun_mk (st := sRdInit) lRI cRI kRI⟩,
      mN := ⟨fRN, _, ⟨aRN, sRN, kRN⟩, fun_mk (st := sRdNames) lRN cRN kRN⟩,
      mP := ⟨fRP, _, ⟨aRP, sRP, kRP⟩, fun_mk (st := sRdPart) lRP cRP kRP⟩,
      mR := ⟨fRR, _, ⟨aRR, sRR, kRR⟩, fun_mk (st := sRdRead) lRR cRR kRR⟩,
      mL := ⟨fRL, _, ⟨aRL, sRL, kRL⟩, fun_mk (st := sRdNeed) lRL cRL kRL⟩ }
  have SA : SaidAt K mg := said_at ⟨⟨_, _, fun_mk (st := sSaid) ldSaid cdSaid kdSaid, PySem.W.mg_of X G adSaid⟩⟩
  refine ⟨PySem.W.fnOf "law" "law" (defArgs sLaw) (defBody sLaw) (defScope sLaw) .none kVLaw dcLaw pmLaw anLaw (.ref cL) ctLaw, [(cL, Pt)], spLaw K Pt, fun p hp => ?_, fun p hp => ?_, fun p hp => ?_, fun s u => .of_eq rfl, fun H a ns _ _ ht hS => ⟨a, ns, rfl, hS, ht (cL, Pt) List.mem_cons_self, fun _ => rfl⟩, fun base _ _ TB => ok_law T TE SA (TB (cL, Pt) List.mem_cons_self) lLaw cLaw⟩
  · rw [List.mem_singleton.mp hp]
    exact tP
  · rw [List.mem_singleton.mp hp]
    exact nP
  · rw [List.mem_singleton.mp hp]
    exact PySem.W.codeHd_of_K X hCo
end Kw
set_option Elab.async false
open PySem PySem.W PyProof.Rows
set_option maxRecDepth 100000 in
set_option maxHeartbeats 0 in
theorem PySem.Challenge.cw_surehouse_k16_whole_texts_holds : PySem.Challenge.rw_surehouse_k16_whole_texts.Holds := by
  w_on; o_law; k_head; (case hw => w_witness2)
  k_fill
  refine LamX.walk_ofTs (l := PySem.Challenge.rw_surehouse_k16_whole_texts) (n := 63) (k := 8) (x := "_law_script") (CX := fun w => L2.CX PySem.Challenge.rw_surehouse_k16_whole_texts.prog w) rfl (by rw [sizeLine_eq]; decide) rfl ⟨rfl, by decide, by decide⟩ (fun w h Y => PySem.W.km_in_of Y) ?F ?S
  case F =>
    intro w mg fa h Y KX G hmg
    refine' Kw.end_law KX G hmg ?n_len ?n_isinst ?n_all ?n_zip ?n_enum ?n_range ?n_sum ?n_int ?n_bool ?n_str ?n_tuple ?n_list ?g_SMALL ?g_FIGS ?g_PLACES ?g_LANES ?g_SUPPLIES ?g_WISHES ?g_DAY ?g_REGIONS ?g_ITEMS ?g_W ?l_W ?g_F ?l_F ?k_F ?o_F ?y_F ?i_F0 ?l_F0 ?i_F1 ?l_F1 ?i_F2 ?l_F2 ?i_F3 ?l_F3 ?i_F4 ?l_F4 ?g_R ?l_R0 ?k_R0 ?i_R0 ?i_R1 ?i_R2 ?i_R3 ?i_R4 ?g_M ?l_M ?k_M ?i_M0 ?i_M1 ?i_M2 ?i_M3 ?i_M4 ?adWhole ?ldWhole ?cdWhole ?kdWhole ?adName ?ldName ?cdName ?kdName ?adUnlike ?ldUnlike ?cdUnlike ?kdUnlike ?adNames ?ldNames ?cdNames ?kdNames ?adRows ?ldRows ?cdRows ?kdRows ?adLane ?ldLane ?cdLane ?kdLane ?adSupply ?ldSupply ?cdSupply ?kdSupply ?adCat ?ldCat ?cdCat ?kdCat ?adNeedC ?ldNeedC ?cdNeedC ?kdNeedC ?adWish ?ldWish ?cdWish ?kdWish ?adOrder ?ldOrder ?cdOrder ?kdOrder ?adNeedO ?ldNeedO ?cdNeedO ?kdNeedO ?adWriteC ?ldWriteC ?cdWriteC ?kdWriteC ?adNumIn ?ldNumIn ?cdNumIn ?kdNumIn ?adReadC ?ldReadC ?cdReadC ?kdReadC ?adWriteO ?ldWriteO ?cdWriteO ?kdWriteO ?adReadO ?ldReadO ?cdReadO ?kdReadO ?adWishes ?ldWishes ?cdWishes ?kdWishes ?adTaken ?ldTaken ?cdTaken ?kdTaken ?adPick ?ldPick ?cdPick ?kdPick ?adAlike ?ldAlike ?cdAlike ?kdAlike ?adLawC ?ldLawC ?cdLawC ?kdLawC ?adLawO ?ldLawO ?cdLawO ?kdLawO ?adSaid ?ldSaid ?cdSaid ?kdSaid ?gC ?xC ?saC ?gaC ?ggC ?nlC ?nwC ?eC ?tC ?kC ?hC ?iC ?sC ?aLI ?tLI ?lLI ?cLI ?kLI ?gR ?pgR ?hdR ?poR ?saR ?npR ?mkR ?kR ?aRI ?sRI ?lRI ?cRI ?kRI ?aRN ?sRN ?lRN ?cRN ?kRN ?aRP ?sRP ?lRP ?cRP ?kRP ?aRR ?sRR ?lRR ?cRR ?kRR ?aRL ?sRL ?lRL ?cRL ?kRL ?aLaw ?lLaw ?cLaw ?lCo ?pCo ?hCo ?nP ?tP
    (case n_len => k_is)
    (case n_isinst => k_is)
    (case n_all => k_is)
    (case n_zip => k_is)
    (case n_enum => k_is)
    (case n_range => k_is)
    (case n_sum => k_is)
    (case n_int => k_is)
    (case n_bool => k_is)
    (case n_str => k_is)
    (case n_tuple => k_is)
    (case n_list => k_is)
    (case g_SMALL => k_is)
    (case g_FIGS => k_is)
    (case g_PLACES => k_is)
    (case g_LANES => k_is)
    (case g_SUPPLIES => k_is)
    (case g_WISHES => k_is)
    (case g_DAY => k_is)
    (case g_REGIONS => k_is)
    (case g_ITEMS => k_is)
    (case g_W => k_is)
    (case l_W => k_is)
    (case g_F => k_is)
    (case l_F => k_is)
    (case k_F => k_keys)
    (case o_F => decide)
    (case y_F => rfl)
    (case i_F0 => k_is)
    (case l_F0 => k_is)
    (case i_F1 => k_is)
    (case l_F1 => k_is)
    (case i_F2 => k_is)
    (case l_F2 => k_is)
    (case i_F3 => k_is)
    (case l_F3 => k_is)
    (case i_F4 => k_is)
    (case l_F4 => k_is)
    (case g_R => k_is)
    (case l_R0 => k_is)
    (case k_R0 => k_keys)
    (case i_R0 => k_is)
    (case i_R1 => k_is)
    (case i_R2 => k_is)
    (case i_R3 => k_is)
    (case i_R4 => k_is)
    (case g_M => k_is)
    (case l_M => k_is)
    (case k_M => k_keys)
    (case i_M0 => k_is)
    (case i_M1 => k_is)
    (case i_M2 => k_is)
    (case i_M3 => k_is)
    (case i_M4 => k_is)
    (case adWhole => k_is)
    (case ldWhole => k_is)
    (case cdWhole => k_is)
    (case kdWhole => k_is)
    (case adName => k_is)
    (case ldName => k_is)
    (case cdName => k_is)
    (case kdName => k_is)
    (case adUnlike => k_is)
    (case ldUnlike => k_is)
    (case cdUnlike => k_is)
    (case kdUnlike => k_is)
    (case adNames => k_is)
    (case ldNames => k_is)
    (case cdNames => k_is)
    (case kdNames => k_is)
    (case adRows => k_is)
    (case ldRows => k_is)
    (case cdRows => k_is)
    (case kdRows => k_is)
    (case adLane => k_is)
    (case ldLane => k_is)
    (case cdLane => k_is)
    (case kdLane => k_is)
    (case adSupply => k_is)
    (case ldSupply => k_is)
    (case cdSupply => k_is)
    (case kdSupply => k_is)
    (case adCat => k_is)
    (case ldCat => k_is)
    (case cdCat => k_is)
    (case kdCat => k_is)
    (case adNeedC => k_is)
    (case ldNeedC => k_is)
    (case cdNeedC => k_is)
    (case kdNeedC => k_is)
    (case adWish => k_is)
    (case ldWish => k_is)
    (case cdWish => k_is)
    (case kdWish => k_is)
    (case adOrder => k_is)
    (case ldOrder => k_is)
    (case cdOrder => k_is)
    (case kdOrder => k_is)
    (case adNeedO => k_is)
    (case ldNeedO => k_is)
    (case cdNeedO => k_is)
    (case kdNeedO => k_is)
    (case adWriteC => k_is)
    (case ldWriteC => k_is)
    (case cdWriteC => k_is)
    (case kdWriteC => k_is)
    (case adNumIn => k_is)
    (case ldNumIn => k_is)
    (case cdNumIn => k_is)
    (case kdNumIn => k_is)
    (case adReadC => k_is)
    (case ldReadC => k_is)
    (case cdReadC => k_is)
    (case kdReadC => k_is)
    (case adWriteO => k_is)
    (case ldWriteO => k_is)
    (case cdWriteO => k_is)
    (case kdWriteO => k_is)
    (case adReadO => k_is)
    (case ldReadO => k_is)
    (case cdReadO => k_is)
    (case kdReadO => k_is)
    (case adWishes => k_is)
    (case ldWishes => k_is)
    (case cdWishes => k_is)
    (case kdWishes => k_is)
    (case adTaken => k_is)
    (case ldTaken => k_is)
    (case cdTaken => k_is)
    (case kdTaken => k_is)
    (case adPick => k_is)
    (case ldPick => k_is)
    (case cdPick => k_is)
    (case kdPick => k_is)
    (case adAlike => k_is)
    (case ldAlike => k_is)
    (case cdAlike => k_is)
    (case kdAlike => k_is)
    (case adLawC => k_is)
    (case ldLawC => k_is)
    (case cdLawC => k_is)
    (case kdLawC => k_is)
    (case adLawO => k_is)
    (case ldLawO => k_is)
    (case cdLawO => k_is)
    (case kdLawO => k_is)
    (case adSaid => k_is)
    (case ldSaid => k_is)
    (case cdSaid => k_is)
    (case kdSaid => k_is)
    (case gC => k_is)
    (case xC => k_is)
    (case saC => k_is)
    (case gaC => k_is)
    (case ggC => k_is)
    (case nlC => k_is)
    (case nwC => k_is)
    (case eC => k_is)
    (case tC => k_is)
    (case kC => k_is)
    (case hC => k_is)
    (case iC => k_is)
    (case sC => first | rfl | k_is)
    (case aLI => k_is)
    (case tLI => k_is)
    (case lLI => k_is)
    (case cLI => k_is)
    (case kLI => k_is)
    (case gR => k_is)
    (case pgR => k_is)
    (case hdR => k_is)
    (case poR => k_is)
    (case saR => k_is)
    (case npR => k_is)
    (case mkR => k_is)
    (case kR => k_is)
    (case aRI => k_is)
    (case sRI => k_is)
    (case lRI => k_is)
    (case cRI => k_is)
    (case kRI => k_is)
    (case aRN => k_is)
    (case sRN => k_is)
    (case lRN => k_is)
    (case cRN => k_is)
    (case kRN => k_is)
    (case aRP => k_is)
    (case sRP => k_is)
    (case lRP => k_is)
    (case cRP => k_is)
    (case kRP => k_is)
    (case aRR => k_is)
    (case sRR => k_is)
    (case lRR => k_is)
    (case cRR => k_is)
    (case kRR => k_is)
    (case aRL => k_is)
    (case sRL => k_is)
    (case lRL => k_is)
    (case cRL => k_is)
    (case kRL => k_is)
    (case aLaw => k_is)
    (case lLaw => k_is)
    (case cLaw => k_is)
    (case lCo => k_is)
    (case pCo => rfl)
    (case hCo => kernel_rfl)
    (case nP => first | rfl | kernel_rfl)
    (case tP => exact PySem.W.km_tabs_of Y _ (by k_mem))
  case S =>
    intro w H s e s' h
    obtain ⟨_, _, _, _, _, _, _, _, _, _, _, _, q⟩ := h
    exact q

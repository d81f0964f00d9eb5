import PyProof.Rows.All
import Wide.All
import OpenK.AllK
import Wide.FinOn
import KE.KStateDown
import Lean
import HandS.ForMost
import HandS.ForExc
import HandS.Defaults
import HandS.IsInst
import HandS.Walk
import HandS.DictComp
import KE.KDictKeyed
import KE.KDictDisplayH
import KE.KDictCopyH
import KE.KDictOf
import KE.KDictWalk
import HandS.Zip
import KE.GoesMore
import KE.GoesEnum
import PyProof.EnumMake
import KE.SortKeyHeap
import KE.KSortKey
import HandS.Lambda
import HandS.SortKw
import HandS.SetFor
import HandS.Strs
import HandS.TupMul
import HandS.TupAny
import HandS.Deep
import HandS.Star
import HandS.Style
import PyProof.ListStr
import HandS.Head0
import HandS.Head1
import HandS.Head2
import HandS.HeadEnd
import HandS.HeadHook1
import HandS.HeadHook2
import HandS.HeadHook3
import HandS.HeadHook4
import HandS.HeadWalk
import PySem.Challenge.RW_turnedends_k32_whole_spared
set_option Elab.async false
set_option linter.all false
set_option maxRecDepth 100000
set_option maxHeartbeats 4000000
set_option linter.all false
/-! The mathematics of the program: no Python here. -/
namespace TM
inductive Sg where | a | n | r
  deriving DecidableEq
inductive Cv where | all | both | care | lone | lones | pairs
  deriving DecidableEq
inductive Kd where | any | bare | lone | paired
  deriving DecidableEq
abbrev Tx := List Sg

/-! ### kinds -/
def canCome : Kd → Bool → Sg → Bool
  | .paired, o, s => decide (decide (s = .n) = o)
  | .any, _, _ => true
  | .bare, _, s => !decide (s = .r)
  | .lone, _, s => !decide (s = .n)
def openB (k : Kd) (s : Sg) : Bool := decide (k = .paired) && decide (s = .r)
def goesOn (k : Kd) : Bool → Tx → Option Bool
  | o, [] => some o
  | o, s :: t => if canCome k o s = true then goesOn k (openB k s) t else none
def isKind (k : Kd) (t : Tx) : Bool := decide (goesOn k false t = some false)
theorem goesOn_snoc (k : Kd) : ∀ (t : Tx) (o o' : Bool) (s : Sg), goesOn k o t = some o' → canCome k o' s = true → goesOn k o (t ++ [s]) = some (openB k s)
  | [], o, o', s, h, hc => by
    have e : o = o' := Option.some.inj h
    show (if canCome k o s = true then some (openB k s) else none) = _
    rw [e, if_pos hc]
  | x :: t, o, o', s, h, hc => by
    have h' : (if canCome k o x = true then goesOn k (openB k x) t else none) = some o' := h
    show (if canCome k o x = true then goesOn k (openB k x) (t ++ [s]) else none) = _
    by_cases hx : canCome k o x = true
    · rw [if_pos hx] at h' ⊢
      exact goesOn_snoc k t _ o' s h' hc
    · rw [if_neg hx] at h'
      cases h'
theorem goesOn_open (k : Kd) : ∀ (t : Tx) (o : Bool), goesOn k o t = some true → o = true ∨ k = .paired
  | [], o, h => .inl (Option.some.inj h)
  | x :: t, o, h => by
    have h' : (if canCome k o x = true then goesOn k (openB k x) t else none) = some true := h
    by_cases hx : canCome k o x = true
    · rw [if_pos hx] at h'
      rcases goesOn_open k t _ h' with q | q
      · right
        unfold openB at q
        rw [Bool.and_eq_true, decide_eq_true_eq] at q
        exact q.1
      · exact .inr q
    · rw [if_neg hx] at h'
      cases h'

/-! ### conversions -/
def left (c : Cv) : Sg := if c = .pairs then .r else .n
def holding : Cv → Bool
  | .both => true
  | .lones => true
  | .pairs => true
  | _ => false
def signBy (c : Cv) (h : Bool) (s : Sg) : Bool × Tx :=
  if c = .all then (false, if s = .n then [.r, .n] else [s])
  else if c = .lone then (false, if s = .n then [.r] else [s])
  else if c = .care then (decide (s = .r), if (decide (s = .n) && !h) = true then [.r, .n] else [s])
  else if s = .r then (true, if h = true then [left c] else [])
  else if h = false then (false, [s])
  else if s = .a then (false, [left c, .a])
  else (false, if c = .lones then [.r, .n] else [.n])
def textBy (c : Cv) : Bool → Tx → Bool × Tx
  | h, [] => (h, [])
  | h, s :: t => ((textBy c (signBy c h s).1 t).1, (signBy c h s).2 ++ (textBy c (signBy c h s).1 t).2)
theorem textBy_app (c : Cv) : ∀ (t u : Tx) (h : Bool), textBy c h (t ++ u) = ((textBy c (textBy c h t).1 u).1, (textBy c h t).2 ++ (textBy c (textBy c h t).1 u).2)
  | [], u, h => rfl
  | s :: t, u, h => by
    show ((textBy c (signBy c h s).1 (t ++ u)).1, (signBy c h s).2 ++ (textBy c (signBy c h s).1 (t ++ u)).2) = _
    rw [textBy_app c t u]
    show _ = ((textBy c (textBy c (signBy c h s).1 t).1 u).1, ((signBy c h s).2 ++ (textBy c (signBy c h s).1 t).2) ++ (textBy c (textBy c (signBy c h s).1 t).1 u).2)
    rw [List.append_assoc]
theorem textBy_snoc (c : Cv) (h : Bool) (t : Tx) (s : Sg) : textBy c h (t ++ [s]) = ((signBy c (textBy c h t).1 s).1, (textBy c h t).2 ++ (signBy c (textBy c h t).1 s).2) := by
  rw [textBy_app]
  show ((signBy c (textBy c h t).1 s).1, (textBy c h t).2 ++ ((signBy c (textBy c h t).1 s).2 ++ [])) = _
  rw [List.append_nil]
theorem signBy_len (c : Cv) (h : Bool) (s : Sg) : (signBy c h s).2.length ≤ 2 := by
  cases c <;> cases h <;> cases s <;> decide
theorem textBy_len (c : Cv) : ∀ (t : Tx) (h : Bool), (textBy c h t).2.length ≤ 2 * t.length
  | [], h => Nat.zero_le _
  | s :: t, h => by
    have h1 := signBy_len c h s
    have h2 := textBy_len c t (signBy c h s).1
    show ((signBy c h s).2 ++ (textBy c (signBy c h s).1 t).2).length ≤ 2 * (s :: t).length
    rw [List.length_append, List.length_cons]
    omega
def readBy : List Cv → List Bool → Tx → List Bool × Tx
  | c :: w, h :: st, t => ((textBy c h t).1 :: (readBy w st (textBy c h t).2).1, (readBy w st (textBy c h t).2).2)
  | _, _, t => ([], t)
def flush (c : Cv) (h : Bool) : Tx := if (h && holding c) = true then [left c] else []
def endF : List Cv → List Bool → Tx → Tx
  | c :: w, h :: st, t => endF w st ((textBy c h t).2 ++ flush c (textBy c h t).1)
  | _, _, t => t
def ended (w : List Cv) (st : List Bool) : Tx := endF w st []
def start (w : List Cv) : List Bool := List.replicate w.length false
def made (w : List Cv) (t : Tx) : Tx := (readBy w (start w) t).2 ++ ended w (readBy w (start w) t).1
theorem readBy_nil (st : List Bool) (t : Tx) : readBy [] st t = ([], t) := by cases st <;> rfl
theorem readBy_nil2 (w : List Cv) (t : Tx) : readBy w [] t = ([], t) := by cases w <;> rfl
theorem endF_nil (st : List Bool) (t : Tx) : endF [] st t = t := by cases st <;> rfl
theorem endF_nil2 (w : List Cv) (t : Tx) : endF w [] t = t := by cases w <;> rfl
theorem readBy_app : ∀ (w : List Cv) (st : List Bool) (t u : Tx),
    readBy w st (t ++ u) = ((readBy w (readBy w st t).1 u).1, (readBy w st t).2 ++ (readBy w (readBy w st t).1 u).2)
  | [], st, t, u => by rw [readBy_nil, readBy_nil, readBy_nil]
  | c :: w, [], t, u => by rw [readBy_nil2, readBy_nil2, readBy_nil2]
  | c :: w, h :: st, t, u => by
    show ((textBy c h (t ++ u)).1 :: (readBy w st (textBy c h (t ++ u)).2).1, (readBy w st (textBy c h (t ++ u)).2).2) = _
    rw [textBy_app]
    show ((textBy c (textBy c h t).1 u).1 :: (readBy w st ((textBy c h t).2 ++ (textBy c (textBy c h t).1 u).2)).1, (readBy w st ((textBy c h t).2 ++ (textBy c (textBy c h t).1 u).2)).2) = _
    rw [readBy_app w st]
    rfl
theorem readBy_st : ∀ (w : List Cv) (st : List Bool) (t : Tx), st.length = w.length → (readBy w st t).1.length = w.length
  | [], st, t, _ => by rw [readBy_nil]; rfl
  | c :: w, [], t, h => by cases h
  | c :: w, b :: st, t, h => by
    show ((textBy c b t).1 :: (readBy w st (textBy c b t).2).1).length = (c :: w).length
    rw [List.length_cons, List.length_cons, readBy_st w st _ (Nat.succ.inj h)]
theorem readBy_len : ∀ (w : List Cv) (st : List Bool) (t : Tx), (readBy w st t).2.length ≤ 2 ^ w.length * t.length
  | [], st, t => by rw [readBy_nil]; simp
  | c :: w, [], t => by
    rw [readBy_nil2]
    exact Nat.le_mul_of_pos_left _ (Nat.two_pow_pos _)
  | c :: w, b :: st, t => by
    show (readBy w st (textBy c b t).2).2.length ≤ _
    refine Nat.le_trans (readBy_len w st _) ?_
    rw [List.length_cons, Nat.pow_succ, Nat.mul_assoc]
    exact Nat.mul_le_mul_left _ (textBy_len c t b)
theorem flush_len (c : Cv) (h : Bool) : (flush c h).length ≤ 1 := by
  unfold flush
  split <;> simp
theorem endF_len : ∀ (w : List Cv) (st : List Bool) (t : Tx), (endF w st t).length ≤ 2 ^ w.length * (t.length + 1)
  | [], st, t => by rw [endF_nil]; simp
  | c :: w, [], t => by
    rw [endF_nil2]
    exact Nat.le_trans (Nat.le_succ _) (Nat.le_mul_of_pos_left _ (Nat.two_pow_pos _))
  | c :: w, b :: st, t => by
    show (endF w st _).length ≤ _
    refine Nat.le_trans (endF_len w st _) ?_
    rw [List.length_cons, Nat.pow_succ, Nat.mul_assoc]
    refine Nat.mul_le_mul_left _ ?_
    have h1 := textBy_len c t b
    have h2 := flush_len c (textBy c b t).1
    rw [List.length_append]
    omega
theorem endF_read : ∀ (w : List Cv) (st : List Bool) (u : Tx), endF w st u = (readBy w st u).2 ++ endF w (readBy w st u).1 []
  | [], st, u => by rw [readBy_nil, endF_nil, endF_nil, List.append_nil]
  | c :: w, [], u => by rw [readBy_nil2, endF_nil2, endF_nil2, List.append_nil]
  | c :: w, h :: st, u => by
    show endF w st ((textBy c h u).2 ++ flush c (textBy c h u).1) = (readBy w st (textBy c h u).2).2 ++ endF w (readBy w st (textBy c h u).2).1 ([] ++ flush c (textBy c h u).1)
    rw [endF_read w st, readBy_app, List.nil_append, endF_read w (readBy w st (textBy c h u).2).1, List.append_assoc]
/-- how the law's own function does it, all places at once -/
def piece (c : Cv) (prev : Bool) (s : Sg) (ahead : Bool) : Tx :=
  if (decide (s = .n) && (decide (c = .all) || (decide (c = .care) && !prev))) = true then [.r, .n]
  else if (decide (s = .n) && decide (c = .lone)) = true then [.r]
  else if (decide (s = .r) && holding c) = true then (match c with
    | .both => if ahead = true then [] else [.n]
    | .lones => if ahead = true then [.r] else [.n]
    | _ => if ahead = true then [] else [.r])
  else [s]
def isN : Option Sg → Bool
  | some .n => true
  | _ => false
def lawRec (c : Cv) : Bool → Tx → Tx
  | _, [] => []
  | p, s :: t => piece c p s (isN t.head?) ++ lawRec c (decide (s = .r)) t
def lawMade : List Cv → Tx → Tx
  | [], t => t
  | c :: w, t => lawMade w (lawRec c false t)
theorem lawRec_prev {c : Cv} (h : c ≠ .care) (p q : Bool) : ∀ t : Tx, lawRec c p t = lawRec c q t
  | [] => rfl
  | s :: t => by
    show piece c p s _ ++ _ = piece c q s _ ++ _
    have e : piece c p s (isN t.head?) = piece c q s (isN t.head?) := by
      cases c <;> first | exact absurd rfl h | (cases p <;> cases q <;> cases s <;> rfl)
    rw [e]
theorem law_plain {c : Cv} (hc : holding c = false) : ∀ (t : Tx) (h : Bool), (textBy c h t).2 ++ flush c (textBy c h t).1 = lawRec c h t
  | [], h => by
    show [] ++ flush c h = []
    unfold flush
    rw [hc, Bool.and_false]
    rfl
  | s :: t, h => by
    show ((signBy c h s).2 ++ (textBy c (signBy c h s).1 t).2) ++ flush c (textBy c (signBy c h s).1 t).1 = piece c h s _ ++ lawRec c (decide (s = .r)) t
    rw [List.append_assoc, law_plain hc t]
    cases c <;> first | (exfalso; revert hc; decide) | skip
    · have e : lawRec Cv.all (signBy .all h s).1 t = lawRec .all (decide (s = .r)) t := lawRec_prev (by decide) _ _ t
      rw [e]
      cases h <;> cases s <;> rfl
    · cases h <;> cases s <;> rfl
    · have e : lawRec Cv.lone (signBy .lone h s).1 t = lawRec .lone (decide (s = .r)) t := lawRec_prev (by decide) _ _ t
      rw [e]
      cases h <;> cases s <;> rfl
/-- an r that is held back, by what comes behind it -/
def held (c : Cv) (ahead : Bool) : Tx := piece c false .r ahead
theorem law_hold {c : Cv} (hc : holding c = true) : ∀ (t : Tx) (h p : Bool), (textBy c h t).2 ++ flush c (textBy c h t).1 = (if h = true then held c (isN t.head?) else []) ++ lawRec c p t
  | [], h, p => by
    show [] ++ flush c h = _ ++ []
    rw [List.append_nil]
    cases c <;> first | (exfalso; revert hc; decide) | (cases h <;> rfl)
  | s :: t, h, p => by
    show ((signBy c h s).2 ++ (textBy c (signBy c h s).1 t).2) ++ flush c (textBy c (signBy c h s).1 t).1 = _ ++ (piece c p s _ ++ lawRec c (decide (s = .r)) t)
    rw [List.append_assoc, law_hold hc t _ (decide (s = .r)), ← List.append_assoc, ← List.append_assoc]
    refine congrArg (· ++ lawRec c (decide (s = .r)) t) ?_
    generalize isN t.head? = b
    cases c <;> first | (exfalso; revert hc; decide) | (cases h <;> cases s <;> cases b <;> rfl)
theorem law_one (c : Cv) (t : Tx) : (textBy c false t).2 ++ flush c (textBy c false t).1 = lawRec c false t := by
  cases hc : holding c with
  | true => rw [law_hold hc t false false]; rfl
  | false => exact law_plain hc t false
theorem made_law : ∀ (w : List Cv) (t : Tx), made w t = lawMade w t
  | [], t => by
    show (readBy [] [] t).2 ++ endF [] _ [] = t
    rw [readBy_nil, endF_nil, List.append_nil]
  | c :: w, t => by
    show made (c :: w) t = lawMade w (lawRec c false t)
    rw [← made_law w, ← law_one]
    unfold made ended
    show (readBy w (start w) (textBy c false t).2).2 ++ endF w (readBy w (start w) (textBy c false t).2).1 ([] ++ flush c (textBy c false t).1) = _
    rw [readBy_app, List.nil_append, endF_read w (readBy w (start w) (textBy c false t).2).1, List.append_assoc]

/-! ### rows -/
structure Row where
  s1 : List Bool
  s2 : List Bool
  o : Bool
  m : Tx
  t : Tx
  deriving DecidableEq
def woc : Tx → Tx → Tx × Tx
  | a :: x, b :: y => if a = b then woc x y else (a :: x, b :: y)
  | x, y => (x, y)
def startRow (w1 w2 : List Cv) : Row := ⟨start w1, start w2, false, [], []⟩
def rowMade (w1 w2 : List Cv) (row : Row) (s : Sg) : Tx × Tx := woc (row.m ++ (readBy w1 row.s1 [s]).2) (row.t ++ (readBy w2 row.s2 [s]).2)
def rowBehind (w1 w2 : List Cv) (k : Kd) (row : Row) (s : Sg) : Option Row :=
  if (rowMade w1 w2 row s).1 ≠ [] ∧ (rowMade w1 w2 row s).2 ≠ [] then none
  else some ⟨(readBy w1 row.s1 [s]).1, (readBy w2 row.s2 [s]).1, openB k s, (rowMade w1 w2 row s).1, (rowMade w1 w2 row s).2⟩
def isEven (w1 w2 : List Cv) (row : Row) : Bool := row.o || decide (row.m ++ ended w1 row.s1 = row.t ++ ended w2 row.s2)
abbrev Place := Bool × Option Row
def stepP (w1 w2 : List Cv) (k : Kd) (p : Place) (s : Sg) : Place := (openB k s, p.2.bind fun row => rowBehind w1 w2 k row s)
def startP (w1 w2 : List Cv) : Place := (false, some (startRow w1 w2))
def AlikeS (w1 w2 : List Cv) (k : Kd) : Prop := ∀ t : Tx, goesOn k false t = some false → made w1 t = made w2 t
structure Parts (w1 w2 : List Cv) (k : Kd) (t : Tx) : Prop where
  kind : goesOn k false t = some false
  ne : made w1 t ≠ made w2 t
theorem Parts.not {w1 w2 : List Cv} {k : Kd} {t : Tx} (p : Parts w1 w2 k t) : ¬ AlikeS w1 w2 k := fun h => p.ne (h t p.kind)
def Div (x y : Tx) : Prop := ∃ (c : Tx) (a b : Sg) (x' y' : Tx), a ≠ b ∧ x = c ++ a :: x' ∧ y = c ++ b :: y'
theorem Div.app {x y : Tx} (h : Div x y) (u v : Tx) : Div (x ++ u) (y ++ v) := by
  obtain ⟨c, a, b, x', y', hab, rfl, rfl⟩ := h
  exact ⟨c, a, b, x' ++ u, y' ++ v, hab, by simp, by simp⟩
theorem Div.ne {x y : Tx} (h : Div x y) : x ≠ y := by
  obtain ⟨c, a, b, x', y', hab, rfl, rfl⟩ := h
  intro e
  have := List.append_cancel_left e
  injection this with h1 _
  exact hab h1
theorem woc_split : ∀ x y : Tx, ∃ c : Tx, x = c ++ (woc x y).1 ∧ y = c ++ (woc x y).2 ∧
    ((woc x y).1 = [] ∨ (woc x y).2 = [] ∨ ∃ a b x' y', a ≠ b ∧ (woc x y).1 = a :: x' ∧ (woc x y).2 = b :: y')
  | [], y => ⟨[], by cases y <;> rfl, by cases y <;> rfl, .inl (by cases y <;> rfl)⟩
  | a :: x, [] => ⟨[], rfl, rfl, .inr (.inl rfl)⟩
  | a :: x, b :: y => by
    by_cases e : a = b
    · subst e
      obtain ⟨c, h1, h2, h3⟩ := woc_split x y
      have w : woc (a :: x) (a :: y) = woc x y := if_pos rfl
      rw [w]
      exact ⟨a :: c, congrArg (a :: ·) h1, congrArg (a :: ·) h2, h3⟩
    · have w : woc (a :: x) (b :: y) = (a :: x, b :: y) := if_neg e
      rw [w]
      exact ⟨[], rfl, rfl, .inr (.inr ⟨a, b, x, y, e, rfl, rfl⟩)⟩
theorem woc_len : ∀ x y : Tx, (woc x y).1.length ≤ x.length ∧ (woc x y).2.length ≤ y.length
  | [], y => by cases y <;> exact ⟨Nat.le_refl _, Nat.le_refl _⟩
  | a :: x, [] => ⟨Nat.le_refl _, Nat.le_refl _⟩
  | a :: x, b :: y => by
    by_cases e : a = b
    · have w : woc (a :: x) (b :: y) = woc x y := if_pos e
      have := woc_len x y
      rw [w, List.length_cons, List.length_cons]
      omega
    · have w : woc (a :: x) (b :: y) = (a :: x, b :: y) := if_neg e
      rw [w]
      exact ⟨Nat.le_refl _, Nat.le_refl _⟩
abbrev run (w : List Cv) (t : Tx) : List Bool × Tx := readBy w (start w) t
theorem run_snoc (w : List Cv) (t : Tx) (s : Sg) : run w (t ++ [s]) = ((readBy w (run w t).1 [s]).1, (run w t).2 ++ (readBy w (run w t).1 [s]).2) := readBy_app w _ t [s]
theorem run_st (w : List Cv) (t : Tx) : (run w t).1.length = w.length := readBy_st w _ t (List.length_replicate ..)
/-- the place p stands behind the text t -/
structure Good (w1 w2 : List Cv) (t : Tx) (p : Place) : Prop where
  none : p.2 = none → Div (run w1 t).2 (run w2 t).2
  some : ∀ row, p.2 = some row → row.s1 = (run w1 t).1 ∧ row.s2 = (run w2 t).1 ∧ row.o = p.1 ∧ (row.m = [] ∨ row.t = []) ∧ ∃ c : Tx, (run w1 t).2 = c ++ row.m ∧ (run w2 t).2 = c ++ row.t
theorem run_nil : ∀ w : List Cv, run w [] = (start w, [])
  | [] => rfl
  | c :: w => by
    show ((textBy c false []).1 :: (readBy w (start w) (textBy c false []).2).1, (readBy w (start w) (textBy c false []).2).2) = _
    have h : readBy w (start w) [] = (start w, []) := run_nil w
    show (false :: (readBy w (start w) []).1, (readBy w (start w) []).2) = _
    rw [h]
    rfl
theorem good_start (w1 w2 : List Cv) : Good w1 w2 [] (startP w1 w2) where
  none := fun h => by cases h
  some := fun row h => by
    have e : startRow w1 w2 = row := Option.some.inj h
    subst e
    rw [run_nil, run_nil]
    exact ⟨rfl, rfl, rfl, .inl rfl, [], rfl, rfl⟩
theorem good_step {w1 w2 : List Cv} {k : Kd} {t : Tx} {p : Place} (g : Good w1 w2 t p) (s : Sg) : Good w1 w2 (t ++ [s]) (stepP w1 w2 k p s) := by
  obtain ⟨o, q⟩ := p
  cases q with
  | none =>
    refine ⟨fun _ => ?_, fun row h => by cases h⟩
    rw [run_snoc, run_snoc]
    exact (g.none rfl).app _ _
  | some row =>
    obtain ⟨h1, h2, h3, h4, c, h5, h6⟩ := g.some row rfl
    obtain ⟨c', e1, e2, e3⟩ := woc_split (row.m ++ (readBy w1 row.s1 [s]).2) (row.t ++ (readBy w2 row.s2 [s]).2)
    have q1 : (run w1 (t ++ [s])).2 = (c ++ c') ++ (rowMade w1 w2 row s).1 := by
      rw [run_snoc]
      show (run w1 t).2 ++ (readBy w1 (run w1 t).1 [s]).2 = _
      rw [h5, ← h1, List.append_assoc, e1, List.append_assoc]
      rfl
    have q2 : (run w2 (t ++ [s])).2 = (c ++ c') ++ (rowMade w1 w2 row s).2 := by
      rw [run_snoc]
      show (run w2 t).2 ++ (readBy w2 (run w2 t).1 [s]).2 = _
      rw [h6, ← h2, List.append_assoc, e2, List.append_assoc]
      rfl
    have hs : (stepP w1 w2 k (o, Option.some row) s).2 = rowBehind w1 w2 k row s := rfl
    refine ⟨fun h => ?_, fun row' h => ?_⟩
    · rw [hs] at h
      unfold rowBehind at h
      split at h
      · rename_i hn
        rcases e3 with z | z | ⟨a, b, x', y', hab, z1, z2⟩
        · exact absurd z hn.1
        · exact absurd z hn.2
        · rw [q1, q2]
          exact ⟨c ++ c', a, b, x', y', hab, congrArg ((c ++ c') ++ ·) z1, congrArg ((c ++ c') ++ ·) z2⟩
      · cases h
    · rw [hs] at h
      unfold rowBehind at h
      split at h
      · cases h
      · rename_i hn
        have e : _ = row' := Option.some.inj h
        subst e
        refine ⟨?_, ?_, rfl, ?_, c ++ c', q1, q2⟩
        · rw [run_snoc, ← h1]
        · rw [run_snoc, ← h2]
        · by_cases z1 : (rowMade w1 w2 row s).1 = []
          · exact .inl z1
          · by_cases z2 : (rowMade w1 w2 row s).2 = []
            · exact .inr z2
            · exact absurd ⟨z1, z2⟩ hn
/-- a place that tells of a parting -/
def Bad (w1 w2 : List Cv) (p : Place) : Prop := p.1 = false ∧ ∀ row, p.2 = some row → isEven w1 w2 row = false
theorem bad_parts {w1 w2 : List Cv} {k : Kd} {t : Tx} {p : Place} (g : Good w1 w2 t p) (hk : goesOn k false t = some p.1) (b : Bad w1 w2 p) : Parts w1 w2 k t := by
  refine ⟨by rw [hk, b.1], fun e => ?_⟩
  obtain ⟨o, q⟩ := p
  cases q with
  | none => exact ((g.none rfl).app (ended w1 (run w1 t).1) (ended w2 (run w2 t).1)).ne e
  | some row =>
    obtain ⟨h1, h2, h3, h4, c, h5, h6⟩ := g.some row rfl
    have hb := b.2 row rfl
    unfold isEven at hb
    rw [Bool.or_eq_false_iff, decide_eq_false_iff_not] at hb
    refine hb.2 ?_
    have e' : (run w1 t).2 ++ ended w1 (run w1 t).1 = (run w2 t).2 ++ ended w2 (run w2 t).1 := e
    rw [h5, h6, ← h1, ← h2, List.append_assoc, List.append_assoc] at e'
    exact List.append_cancel_left e'
theorem even_same {w1 w2 : List Cv} {t : Tx} {row : Row} (g : Good w1 w2 t (false, some row)) (h : isEven w1 w2 row = true) : made w1 t = made w2 t := by
  obtain ⟨h1, h2, h3, h4, c, h5, h6⟩ := g.some row rfl
  have h3' : row.o = false := h3
  unfold isEven at h
  rw [h3', Bool.false_or, decide_eq_true_eq] at h
  show (run w1 t).2 ++ ended w1 (run w1 t).1 = (run w2 t).2 ++ ended w2 (run w2 t).1
  rw [h5, h6, ← h1, ← h2, List.append_assoc, List.append_assoc, h]
/-! ### rows that show that two ways are alike -/
structure RowsOk (w1 w2 : List Cv) (k : Kd) (rows : List Row) : Prop where
  start : startRow w1 w2 ∈ rows
  nd : rows.Nodup
  one : ∀ row ∈ rows, row.m = [] ∨ row.t = []
  even : ∀ row ∈ rows, isEven w1 w2 row = true
  next : ∀ row ∈ rows, ∀ s, canCome k row.o s = true → ∃ r' ∈ rows, rowBehind w1 w2 k row s = some r'
  s1 : ∀ row ∈ rows, row.s1.length = w1.length
  s2 : ∀ row ∈ rows, row.s2.length = w2.length
  m : ∀ row ∈ rows, row.m.length ≤ 524288
  t : ∀ row ∈ rows, row.t.length ≤ 524288
  len : rows.length ≤ 65536
theorem RowsOk.reach {w1 w2 : List Cv} {k : Kd} {rows : List Row} (ok : RowsOk w1 w2 k rows) : ∀ (u t : Tx) (o o' : Bool) (row : Row), row ∈ rows → Good w1 w2 t (o, some row) → goesOn k o u = some o' →
    ∃ row' ∈ rows, Good w1 w2 (t ++ u) (o', some row')
  | [], t, o, o', row, hr, g, h => by
    have e : o = o' := Option.some.inj h
    subst e
    exact ⟨row, hr, by rw [List.append_nil]; exact g⟩
  | s :: u, t, o, o', row, hr, g, h => by
    have h' : (if canCome k o s = true then goesOn k (openB k s) u else none) = some o' := h
    by_cases hc : canCome k o s = true
    · rw [if_pos hc] at h'
      have ho : row.o = o := (g.some row rfl).2.2.1
      obtain ⟨r', hr', e⟩ := ok.next row hr s (by rw [ho]; exact hc)
      have g' := good_step (k := k) g s
      have e2 : stepP w1 w2 k (o, some row) s = (openB k s, some r') := by
        show (openB k s, rowBehind w1 w2 k row s) = _
        rw [e]
      rw [e2] at g'
      obtain ⟨r2, hr2, g2⟩ := ok.reach u (t ++ [s]) (openB k s) o' r' hr' g' h'
      exact ⟨r2, hr2, by rw [List.append_assoc] at g2; exact g2⟩
    · rw [if_neg hc] at h'
      cases h'
theorem RowsOk.alike {w1 w2 : List Cv} {k : Kd} {rows : List Row} (ok : RowsOk w1 w2 k rows) : AlikeS w1 w2 k := fun t h => by
  obtain ⟨row, hr, g⟩ := ok.reach t [] false false _ ok.start (good_start w1 w2) h
  rw [List.nil_append] at g
  exact even_same g (ok.even row hr)

/-! ### how many places there are -/
theorem nodup_len {β : Type} [DecidableEq β] : ∀ (l m : List β), l.Nodup → (∀ x ∈ l, x ∈ m) → l.length ≤ m.length
  | [], m, _, _ => Nat.zero_le _
  | x :: l, m, hn, h => by
    have hx : x ∈ m := h x List.mem_cons_self
    have h1 := List.nodup_cons.mp hn
    have ih := nodup_len l (m.erase x) h1.2 fun y hy => (List.mem_erase_of_ne (show y ≠ x from fun e => h1.1 (by rw [← e]; exact hy))).mpr (h y (List.mem_cons_of_mem _ hy))
    rw [List.length_erase_of_mem hx] at ih
    have hp : 0 < m.length := List.length_pos_of_mem hx
    rw [List.length_cons]
    omega
def allB : Nat → List (List Bool)
  | 0 => [[]]
  | n + 1 => (allB n).map (true :: ·) ++ (allB n).map (false :: ·)
theorem allB_len : ∀ n, (allB n).length = 2 ^ n
  | 0 => rfl
  | n + 1 => by
    show ((allB n).map (true :: ·) ++ (allB n).map (false :: ·)).length = _
    rw [List.length_append, List.length_map, List.length_map, allB_len n, Nat.pow_succ]
    omega
theorem mem_allB : ∀ (l : List Bool), l ∈ allB l.length
  | [] => List.mem_cons_self
  | true :: l => List.mem_append.mpr (.inl (List.mem_map.mpr ⟨l, mem_allB l, rfl⟩))
  | false :: l => List.mem_append.mpr (.inr (List.mem_map.mpr ⟨l, mem_allB l, rfl⟩))
theorem nodup_map {α β : Type} (f : α → β) : ∀ (l : List α), l.Nodup → (∀ x ∈ l, ∀ y ∈ l, f x = f y → x = y) → (l.map f).Nodup
  | [], _, _ => List.nodup_nil
  | x :: l, hn, h => by
    have h1 := List.nodup_cons.mp hn
    rw [List.map_cons]
    refine List.nodup_cons.mpr ⟨fun hm => ?_, nodup_map f l h1.2 fun y hy z hz => h y (List.mem_cons_of_mem _ hy) z (List.mem_cons_of_mem _ hz)⟩
    obtain ⟨y, hy, e⟩ := List.mem_map.mp hm
    have := h y (List.mem_cons_of_mem _ hy) x List.mem_cons_self e
    exact h1.1 (this ▸ hy)
/-- the row of a closed place is known by its standings -/
theorem even_inj {w1 w2 : List Cv} {r q : Row} (hr : r.m = [] ∨ r.t = []) (hq : q.m = [] ∨ q.t = []) (er : isEven w1 w2 r = true) (eq : isEven w1 w2 q = true) (ro : r.o = false) (qo : q.o = false)
    (h1 : r.s1 = q.s1) (h2 : r.s2 = q.s2) : r = q := by
  unfold isEven at er eq
  rw [ro, Bool.false_or, decide_eq_true_eq] at er
  rw [qo, Bool.false_or, decide_eq_true_eq, ← h1, ← h2] at eq
  obtain ⟨a1, a2, a3, a4, a5⟩ := r
  obtain ⟨b1, b2, b3, b4, b5⟩ := q
  simp only at *
  subst h1 h2 ro qo
  have l1 := congrArg List.length er
  have l2 := congrArg List.length eq
  rw [List.length_append, List.length_append] at l1 l2
  have key : a4 = b4 ∧ a5 = b5 := by
    rcases hr with e | e
    · subst e
      rcases hq with e | e
      · subst e
        refine ⟨rfl, ?_⟩
        rw [er] at eq
        exact List.append_cancel_right eq
      · subst e
        rw [List.length_nil] at l1 l2
        have z1 : a5.length = 0 := by omega
        have z2 : b4.length = 0 := by omega
        exact ⟨(List.eq_nil_of_length_eq_zero z2).symm, List.eq_nil_of_length_eq_zero z1⟩
    · subst e
      rcases hq with e | e
      · subst e
        rw [List.length_nil] at l1 l2
        have z1 : b5.length = 0 := by omega
        have z2 : a4.length = 0 := by omega
        exact ⟨List.eq_nil_of_length_eq_zero z2, (List.eq_nil_of_length_eq_zero z1).symm⟩
      · subst e
        refine ⟨?_, rfl⟩
        rw [← eq] at er
        exact List.append_cancel_right er
  rw [key.1, key.2]
/-- what is known of the places that have been gone through -/
structure Done (w1 w2 : List Cv) (k : Kd) (ds : List Place) : Prop where
  nd : ds.Nodup
  good : ∀ p ∈ ds, ∃ t, Good w1 w2 t p
  notbad : ∀ p ∈ ds, ¬ Bad w1 w2 p
  from_ : ∀ p ∈ ds, p = startP w1 w2 ∨ ∃ q ∈ ds, ∃ s, canCome k q.1 s = true ∧ p = stepP w1 w2 k q s
def bound (w1 w2 : List Cv) : Nat := 2 * 2 ^ (w1.length + w2.length)
theorem not_bad {w1 w2 : List Cv} {p : Place} (h : ¬ Bad w1 w2 p) (hp : p.1 = false) : ∃ row, p.2 = some row ∧ isEven w1 w2 row = true := by
  cases q : p.2 with
  | none => exact absurd ⟨hp, fun row e => by rw [q] at e; cases e⟩ h
  | some row =>
    refine ⟨row, rfl, ?_⟩
    cases e : isEven w1 w2 row with
    | true => rfl
    | false => exact absurd ⟨hp, fun row' e' => by rw [q] at e'; rw [← Option.some.inj e']; exact e⟩ h
def codeP (p : Place) : List Bool := match p.2 with
  | some row => row.s1 ++ row.s2
  | none => []
theorem filter_split {α : Type} (f : α → Bool) : ∀ l : List α, l.length = (l.filter f).length + (l.filter fun x => !f x).length
  | [] => rfl
  | x :: l => by
    have ih := filter_split f l
    rw [List.filter_cons, List.filter_cons]
    cases f x with
    | true =>
      rw [if_pos rfl, if_neg (by decide), List.length_cons, List.length_cons]
      omega
    | false =>
      rw [if_neg (by decide), if_pos (by decide), List.length_cons, List.length_cons]
      omega
theorem Done.le {w1 w2 : List Cv} {k : Kd} {ds : List Place} (d : Done w1 w2 k ds) : ds.length ≤ bound w1 w2 := by
  have hs := filter_split (fun p : Place => p.1) ds
  have cl : (ds.filter fun p => !p.1).length ≤ 2 ^ (w1.length + w2.length) := by
    have nd : (ds.filter fun p => !p.1).Nodup := d.nd.sublist List.filter_sublist
    have info : ∀ p ∈ ds.filter (fun p => !p.1), ∃ row, p = (false, some row) ∧ isEven w1 w2 row = true ∧ (row.m = [] ∨ row.t = []) ∧ row.o = false ∧ row.s1.length = w1.length ∧ row.s2.length = w2.length := by
      intro p hp
      obtain ⟨hp1, hp2⟩ := List.mem_filter.mp hp
      have hp3 : p.1 = false := by
        cases e : p.1 with
        | false => rfl
        | true => rw [e] at hp2; cases hp2
      obtain ⟨row, e, ev⟩ := not_bad (d.notbad p hp1) hp3
      obtain ⟨t, g⟩ := d.good p hp1
      obtain ⟨g1, g2, g3, g4, _⟩ := g.some row e
      exact ⟨row, Prod.ext hp3 e, ev, g4, g3.trans hp3, by rw [g1, run_st], by rw [g2, run_st]⟩
    have h1 : ((ds.filter fun p => !p.1).map codeP).Nodup := by
      refine nodup_map codeP _ nd fun p hp q hq e => ?_
      obtain ⟨r, rfl, r1, r2, r3, r4, r5⟩ := info p hp
      obtain ⟨r', rfl, q1, q2, q3, q4, q5⟩ := info q hq
      have e' : r.s1 ++ r.s2 = r'.s1 ++ r'.s2 := e
      obtain ⟨e1, e2⟩ := List.append_inj e' (r4.trans q4.symm)
      rw [even_inj r2 q2 r1 q1 r3 q3 e1 e2]
    have h2 := nodup_len _ (allB (w1.length + w2.length)) h1 fun x hx => by
      obtain ⟨p, hp, e⟩ := List.mem_map.mp hx
      obtain ⟨r, rfl, r1, r2, r3, r4, r5⟩ := info p hp
      subst e
      have hl : (r.s1 ++ r.s2).length = w1.length + w2.length := by rw [List.length_append, r4, r5]
      have := mem_allB (r.s1 ++ r.s2)
      rw [hl] at this
      exact this
    rw [List.length_map, allB_len] at h2
    exact h2
  have op : (ds.filter fun p => p.1).length ≤ (ds.filter fun p => !p.1).length := by
    have nd : (ds.filter fun p => p.1).Nodup := d.nd.sublist List.filter_sublist
    have h2 := nodup_len _ ((ds.filter fun p => !p.1).map fun q => stepP w1 w2 k q .r) nd fun p hp => by
      obtain ⟨hp1, hp2⟩ := List.mem_filter.mp hp
      rcases d.from_ p hp1 with e | ⟨q, hq, s, hc, e⟩
      · rw [e] at hp2
        cases hp2
      · have ho : openB k s = true := by rw [e] at hp2; exact hp2
        unfold openB at ho
        rw [Bool.and_eq_true, decide_eq_true_eq, decide_eq_true_eq] at ho
        obtain ⟨hk, hs⟩ := ho
        subst hk hs
        refine List.mem_map.mpr ⟨q, List.mem_filter.mpr ⟨hq, ?_⟩, e.symm⟩
        cases z : q.1 with
        | false => rfl
        | true => rw [z] at hc; revert hc; decide
    rw [List.length_map] at h2
    exact h2
  unfold bound
  omega
theorem bound_le {w1 w2 : List Cv} (h1 : w1.length ≤ 6) (h2 : w2.length ≤ 6) : bound w1 w2 ≤ 8192 := by
  unfold bound
  have : 2 ^ (w1.length + w2.length) ≤ 2 ^ 12 := Nat.pow_le_pow_right (by decide) (by omega)
  omega
end TM

set_option linter.all false
/-! The search of a comparison, step by step; lots. -/
namespace TM
/-! ### the search -/
abbrev keysF (found : List (Place × Tx)) : List Place := found.map (·.1)
structure Bfs (w1 w2 : List Cv) (k : Kd) (found : List (Place × Tx)) (ds line : List Place) : Prop where
  keys : keysF found = ds ++ line
  nd : (keysF found).Nodup
  good : ∀ e ∈ found, goesOn k false e.2 = some e.1.1 ∧ Good w1 w2 e.2 e.1 ∧ e.2.length ≤ ds.length
  start : startP w1 w2 ∈ keysF found
  notbad : ∀ p ∈ ds, ¬ Bad w1 w2 p
  next : ∀ p ∈ ds, ∀ s, canCome k p.1 s = true → stepP w1 w2 k p s ∈ keysF found
  from_ : ∀ p ∈ keysF found, p = startP w1 w2 ∨ ∃ q ∈ ds, ∃ s, canCome k q.1 s = true ∧ p = stepP w1 w2 k q s
  len : found.length ≤ 1 + 3 * ds.length
/-- while the signs that can come behind p are gone through: ss are done -/
structure Mid (w1 w2 : List Cv) (k : Kd) (found : List (Place × Tx)) (ds line : List Place) (p : Place) (t : Tx) (ss : List Sg) : Prop where
  keys : keysF found = (ds ++ [p]) ++ line
  nd : (keysF found).Nodup
  good : ∀ e ∈ found, goesOn k false e.2 = some e.1.1 ∧ Good w1 w2 e.2 e.1 ∧ e.2.length ≤ ds.length + 1
  start : startP w1 w2 ∈ keysF found
  at_ : (p, t) ∈ found
  tl : t.length ≤ ds.length
  notbad : ∀ q ∈ ds ++ [p], ¬ Bad w1 w2 q
  next : ∀ q ∈ ds, ∀ s, canCome k q.1 s = true → stepP w1 w2 k q s ∈ keysF found
  here : ∀ s ∈ ss, stepP w1 w2 k p s ∈ keysF found
  from_ : ∀ q ∈ keysF found, q = startP w1 w2 ∨ ∃ q' ∈ ds ++ [p], ∃ s, canCome k q'.1 s = true ∧ q = stepP w1 w2 k q' s
  len : found.length ≤ 1 + 3 * ds.length + ss.length
section
variable {w1 w2 : List Cv} {k : Kd} {found : List (Place × Tx)} {ds line : List Place} {p : Place} {t : Tx} {ss : List Sg}
theorem bfs_start (w1 w2 : List Cv) (k : Kd) : Bfs w1 w2 k [(startP w1 w2, [])] [] [startP w1 w2] where
  keys := rfl
  nd := by simp
  good := fun e he => by
    have e' : e = (startP w1 w2, []) := List.mem_singleton.mp he
    subst e'
    exact ⟨rfl, good_start w1 w2, Nat.le_refl _⟩
  start := List.mem_cons_self
  notbad := fun p hp => by cases hp
  next := fun p hp => by cases hp
  from_ := fun q hq => .inl (List.mem_singleton.mp hq)
  len := Nat.le_refl _
theorem Bfs.doneLe (b : Bfs w1 w2 k found ds line) : ds.length ≤ bound w1 w2 := by
  refine Done.le (k := k) ⟨?_, fun q hq => ?_, b.notbad, fun q hq => ?_⟩
  · have := b.nd
    rw [b.keys] at this
    exact this.sublist (List.sublist_append_left _ _)
  · have hk : q ∈ keysF found := by rw [b.keys]; exact List.mem_append_left _ hq
    obtain ⟨e, he, rfl⟩ := List.mem_map.mp hk
    exact ⟨e.2, (b.good e he).2.1⟩
  · exact b.from_ q (by rw [b.keys]; exact List.mem_append_left _ hq)
/-- a place is taken off the line; its text -/
theorem Bfs.pop (b : Bfs w1 w2 k found ds (p :: line)) : ∃ t, (p, t) ∈ found ∧ goesOn k false t = some p.1 ∧ Good w1 w2 t p ∧ t.length ≤ ds.length := by
  have hk : p ∈ keysF found := by rw [b.keys]; exact List.mem_append_right _ List.mem_cons_self
  obtain ⟨e, he, e1⟩ := List.mem_map.mp hk
  obtain ⟨q, t⟩ := e
  have e2 : q = p := e1
  subst e2
  obtain ⟨h1, h2, h3⟩ := b.good _ he
  exact ⟨t, he, h1, h2, h3⟩
theorem Bfs.mid (b : Bfs w1 w2 k found ds (p :: line)) (hp : ¬ Bad w1 w2 p) (ht : (p, t) ∈ found) : Mid w1 w2 k found ds line p t [] where
  keys := by rw [b.keys, List.append_assoc]; rfl
  nd := b.nd
  good := fun e he => let ⟨h1, h2, h3⟩ := b.good e he; ⟨h1, h2, Nat.le_succ_of_le h3⟩
  start := b.start
  at_ := ht
  tl := (b.good _ ht).2.2
  notbad := fun q hq => (List.mem_append.mp hq).elim (b.notbad q) fun z => by rw [List.mem_singleton.mp z]; exact hp
  next := b.next
  here := fun s hs => by cases hs
  from_ := fun q hq => (b.from_ q hq).imp id fun ⟨q', h1, h2⟩ => ⟨q', List.mem_append_left _ h1, h2⟩
  len := b.len
theorem Mid.old {s : Sg} (m : Mid w1 w2 k found ds line p t ss) (h : stepP w1 w2 k p s ∈ keysF found) : Mid w1 w2 k found ds line p t (ss ++ [s]) where
  keys := m.keys
  nd := m.nd
  good := m.good
  start := m.start
  at_ := m.at_
  tl := m.tl
  notbad := m.notbad
  next := m.next
  here := fun s' hs => (List.mem_append.mp hs).elim (m.here s') fun z => by rw [List.mem_singleton.mp z]; exact h
  from_ := m.from_
  len := Nat.le_trans m.len (by rw [List.length_append]; omega)
theorem Mid.new {s : Sg} (m : Mid w1 w2 k found ds line p t ss) (hc : canCome k p.1 s = true) (h : stepP w1 w2 k p s ∉ keysF found) :
    Mid w1 w2 k (found ++ [(stepP w1 w2 k p s, t ++ [s])]) ds (line ++ [stepP w1 w2 k p s]) p t (ss ++ [s]) where
  keys := by
    show List.map _ (_ ++ _) = _
    rw [List.map_append, ← List.append_assoc, ← m.keys]
    rfl
  nd := by
    show (List.map _ (_ ++ _)).Nodup
    rw [List.map_append]
    refine List.nodup_append.mpr ⟨m.nd, by simp, fun a ha b hb e => ?_⟩
    have hb' : b = stepP w1 w2 k p s := List.mem_singleton.mp hb
    rw [e, hb'] at ha
    exact h ha
  good := fun e he => by
    rcases List.mem_append.mp he with q | q
    · exact m.good e q
    · have e' := List.mem_singleton.mp q
      subst e'
      obtain ⟨h1, h2, h3⟩ := m.good _ m.at_
      refine ⟨goesOn_snoc k t false p.1 s h1 hc, good_step h2 s, ?_⟩
      show (t ++ [s]).length ≤ _
      rw [List.length_append]
      exact Nat.succ_le_succ m.tl
  start := by
    show _ ∈ List.map _ (_ ++ _)
    rw [List.map_append]
    exact List.mem_append_left _ m.start
  at_ := List.mem_append_left _ m.at_
  tl := m.tl
  notbad := m.notbad
  next := fun q hq s' hs => by
    show _ ∈ List.map _ (_ ++ _)
    rw [List.map_append]
    exact List.mem_append_left _ (m.next q hq s' hs)
  here := fun s' hs => by
    show _ ∈ List.map _ (_ ++ _)
    rw [List.map_append]
    rcases List.mem_append.mp hs with z | z
    · exact List.mem_append_left _ (m.here s' z)
    · rw [List.mem_singleton.mp z]
      exact List.mem_append_right _ List.mem_cons_self
  from_ := fun q hq => by
    have hq' : q ∈ List.map (fun e : Place × Tx => e.1) (found ++ [(stepP w1 w2 k p s, t ++ [s])]) := hq
    rw [List.map_append] at hq'
    rcases List.mem_append.mp hq' with z | z
    · exact m.from_ q z
    · exact .inr ⟨p, List.mem_append_right _ List.mem_cons_self, s, hc, List.mem_singleton.mp z⟩
  len := by
    have := m.len
    rw [List.length_append, List.length_append, List.length_singleton, List.length_singleton]
    omega
theorem Mid.done (m : Mid w1 w2 k found ds line p t ss) (h : ∀ s, canCome k p.1 s = true → s ∈ ss) (hl : ss.length ≤ 3) : Bfs w1 w2 k found (ds ++ [p]) line where
  keys := m.keys
  nd := m.nd
  good := fun e he => by
    rw [List.length_append]
    exact m.good e he
  start := m.start
  notbad := m.notbad
  next := fun q hq s hs => by
    rcases List.mem_append.mp hq with z | z
    · exact m.next q z s hs
    · have e := List.mem_singleton.mp z
      subst e
      exact m.here s (h s hs)
  from_ := m.from_
  len := by
    have := m.len
    rw [List.length_append, List.length_singleton]
    omega
theorem Mid.le (m : Mid w1 w2 k found ds line p t ss) : ds.length + 1 ≤ bound w1 w2 := by
  have h := Done.le (w1 := w1) (w2 := w2) (k := k) (ds := ds ++ [p]) ⟨by
      have := m.nd
      rw [m.keys] at this
      exact this.sublist (List.sublist_append_left _ _), fun q hq => by
      have hk : q ∈ keysF found := by rw [m.keys]; exact List.mem_append_left _ hq
      obtain ⟨e, he, rfl⟩ := List.mem_map.mp hk
      exact ⟨e.2, (m.good e he).2.1⟩, m.notbad, fun q hq => m.from_ q (by rw [m.keys]; exact List.mem_append_left _ hq)⟩
  rw [List.length_append] at h
  exact h
def signs3 (k : Kd) (o : Bool) : List Sg := [Sg.a, .n, .r].filter fun s => canCome k o s
theorem signs3_len (k : Kd) (o : Bool) : (signs3 k o).length ≤ 3 := List.length_filter_le _ _
theorem mem_signs3 {k : Kd} {o : Bool} {s : Sg} : s ∈ signs3 k o ↔ canCome k o s = true := by
  unfold signs3
  rw [List.mem_filter]
  exact ⟨fun h => h.2, fun h => ⟨by cases s <;> simp, h⟩⟩
/-- the line is empty: the rows -/
theorem Bfs.all (b : Bfs w1 w2 k found ds []) : ∀ e ∈ found, ∃ row, e.1.2 = some row := by
  have kd : keysF found = ds := by rw [b.keys, List.append_nil]
  intro e he
  cases q : e.1.2 with
  | some row => exact ⟨row, rfl⟩
  | none =>
    exfalso
    have hk : e.1 ∈ ds := by rw [← kd]; exact List.mem_map.mpr ⟨e, he, rfl⟩
    cases ho : e.1.1 with
    | false => exact b.notbad _ hk ⟨ho, fun row z => by rw [q] at z; cases z⟩
    | true =>
      have hg := (b.good e he).1
      rw [ho] at hg
      rcases goesOn_open k _ _ hg with z | z
      · cases z
      · subst z
        have hn := b.next _ hk .n (by rw [ho]; decide)
        rw [kd] at hn
        refine b.notbad _ hn ⟨rfl, fun row z => ?_⟩
        have z' : (e.1.2.bind fun row => rowBehind w1 w2 .paired row .n) = some row := z
        rw [q] at z'
        cases z'
def rowsF (found : List (Place × Tx)) : List Row := found.filterMap fun e => e.1.2
theorem mem_rowsF {row : Row} : row ∈ rowsF found ↔ ∃ e ∈ found, e.1.2 = some row := List.mem_filterMap
theorem rowsF_nd : ∀ (l : List (Place × Tx)), (keysF l).Nodup → (∀ e ∈ l, ∀ row, e.1.2 = some row → row.o = e.1.1) → (rowsF l).Nodup
  | [], _, _ => List.nodup_nil
  | e :: l, hn, h => by
    have h1 := List.nodup_cons.mp hn
    have ih := rowsF_nd l h1.2 fun x hx => h x (List.mem_cons_of_mem _ hx)
    show (List.filterMap _ (e :: l)).Nodup
    rw [List.filterMap_cons]
    cases q : e.1.2 with
    | none => exact ih
    | some row =>
      refine List.nodup_cons.mpr ⟨fun hm => ?_, ih⟩
      obtain ⟨x, hx, hx2⟩ := mem_rowsF.mp hm
      have a1 := h e List.mem_cons_self row q
      have a2 := h x (List.mem_cons_of_mem _ hx) row hx2
      have : x.1 = e.1 := Prod.ext (a2.symm.trans a1) (hx2.trans q.symm)
      exact h1.1 (List.mem_map.mpr ⟨x, hx, this⟩)
theorem Bfs.rows (b : Bfs w1 w2 k found ds []) (l1 : w1.length ≤ 6) (l2 : w2.length ≤ 6) : RowsOk w1 w2 k (rowsF found) := by
  have kd : keysF found = ds := by rw [b.keys, List.append_nil]
  have hb := Nat.le_trans b.doneLe (bound_le l1 l2)
  have go : ∀ e ∈ found, ∀ row, e.1.2 = some row → row.o = e.1.1 := fun e he row q => ((b.good e he).2.1.some row q).2.2.1
  have big : ∀ e ∈ found, ∀ (w : List Cv), w.length ≤ 6 → (run w e.2).2.length ≤ 524288 := fun e he w hw => by
    have h1 := readBy_len w (TM.start w) e.2
    have h2 : e.2.length ≤ 8192 := Nat.le_trans (b.good e he).2.2 hb
    have h3 : 2 ^ w.length ≤ 2 ^ 6 := Nat.pow_le_pow_right (by decide) hw
    exact Nat.le_trans h1 (Nat.le_trans (Nat.mul_le_mul h3 h2) (by decide))
  refine ⟨?_, rowsF_nd found b.nd go, fun row hr => ?_, fun row hr => ?_, fun row hr s hc => ?_, fun row hr => ?_, fun row hr => ?_, fun row hr => ?_, fun row hr => ?_, ?_⟩
  · obtain ⟨e, he, h⟩ := List.mem_map.mp b.start
    exact mem_rowsF.mpr ⟨e, he, by rw [h]; rfl⟩
  · obtain ⟨e, he, q⟩ := mem_rowsF.mp hr
    exact ((b.good e he).2.1.some row q).2.2.2.1
  · obtain ⟨e, he, q⟩ := mem_rowsF.mp hr
    have ho := go e he row q
    cases z : e.1.1 with
    | true =>
      unfold isEven
      rw [ho, z]
      rfl
    | false =>
      obtain ⟨r', q', ev⟩ := not_bad (b.notbad e.1 (by rw [← kd]; exact List.mem_map.mpr ⟨e, he, rfl⟩)) z
      rw [q] at q'
      rw [Option.some.inj q']
      exact ev
  · obtain ⟨e, he, q⟩ := mem_rowsF.mp hr
    have ho := go e he row q
    have hn := b.next e.1 (by rw [← kd]; exact List.mem_map.mpr ⟨e, he, rfl⟩) s (by rw [← ho]; exact hc)
    obtain ⟨x, hx, hx2⟩ := List.mem_map.mp hn
    obtain ⟨r', hr'⟩ := b.all x hx
    refine ⟨r', mem_rowsF.mpr ⟨x, hx, hr'⟩, ?_⟩
    have e2 : (stepP w1 w2 k e.1 s).2 = some r' := by rw [← hx2]; exact hr'
    have e3 : (e.1.2.bind fun row => rowBehind w1 w2 k row s) = some r' := e2
    rw [q] at e3
    exact e3
  · obtain ⟨e, he, q⟩ := mem_rowsF.mp hr
    rw [((b.good e he).2.1.some row q).1, run_st]
  · obtain ⟨e, he, q⟩ := mem_rowsF.mp hr
    rw [((b.good e he).2.1.some row q).2.1, run_st]
  · obtain ⟨e, he, q⟩ := mem_rowsF.mp hr
    obtain ⟨_, _, _, _, c, h5, _⟩ := (b.good e he).2.1.some row q
    have := big e he w1 l1
    rw [h5, List.length_append] at this
    omega
  · obtain ⟨e, he, q⟩ := mem_rowsF.mp hr
    obtain ⟨_, _, _, _, c, _, h6⟩ := (b.good e he).2.1.some row q
    have := big e he w2 l2
    rw [h6, List.length_append] at this
    omega
  · have h1 : (rowsF found).length ≤ found.length := List.length_filterMap_le _ _
    have h2 := b.len
    have h3 := b.doneLe
    omega
end

/-! ### lots -/
def subsTo : List (List Nat) → List Nat → List (List Nat)
  | f, [] => f
  | f, i :: l => subsTo (f ++ f.map (· ++ [i])) l
def subs (offers : List Nat) : List (List Nat) := subsTo [[]] offers
def Asc (l : List Nat) : Prop := l.Pairwise (· < ·)
structure SubsOk (f : List (List Nat)) (b : Nat) : Prop where
  nd : f.Nodup
  asc : ∀ l ∈ f, Asc l
  lt : ∀ l ∈ f, ∀ i ∈ l, i < b
theorem SubsOk.step {f : List (List Nat)} {b i c : Nat} (h : SubsOk f b) (hb : b ≤ i) (hc : i < c) : SubsOk (f ++ f.map (· ++ [i])) c where
  nd := by
    refine List.nodup_append.mpr ⟨h.nd, nodup_map _ f h.nd fun x _ y _ e => List.append_cancel_right e, fun a ha x hx e => ?_⟩
    subst e
    obtain ⟨y, hy, e2⟩ := List.mem_map.mp hx
    have := h.lt a ha i (by rw [← e2]; exact List.mem_append_right _ List.mem_cons_self)
    omega
  asc := fun l hl => by
    rcases List.mem_append.mp hl with z | z
    · exact h.asc l z
    · obtain ⟨y, hy, e2⟩ := List.mem_map.mp z
      subst e2
      refine List.pairwise_append.mpr ⟨h.asc y hy, List.pairwise_singleton _ _, fun a ha x hx => ?_⟩
      rw [List.mem_singleton.mp hx]
      exact Nat.lt_of_lt_of_le (h.lt y hy a ha) hb
  lt := fun l hl j hj => by
    rcases List.mem_append.mp hl with z | z
    · have := h.lt l z j hj
      omega
    · obtain ⟨y, hy, e2⟩ := List.mem_map.mp z
      subst e2
      rcases List.mem_append.mp hj with q | q
      · have := h.lt y hy j q
        omega
      · rw [List.mem_singleton.mp q]
        exact hc
theorem subsTo_ok : ∀ (l : List Nat) (f : List (List Nat)) (b c : Nat), SubsOk f b → Asc l → (∀ i ∈ l, b ≤ i ∧ i < c) → b ≤ c → SubsOk (subsTo f l) c
  | [], f, b, c, h, _, _, hbc => ⟨h.nd, h.asc, fun l hl i hi => Nat.lt_of_lt_of_le (h.lt l hl i hi) hbc⟩
  | i :: l, f, b, c, h, ha, hl, hbc => by
    have h1 := List.pairwise_cons.mp ha
    have h2 := hl i List.mem_cons_self
    exact subsTo_ok l _ (i + 1) c (h.step h2.1 (Nat.lt_succ_self i)) h1.2 (fun j hj => ⟨h1.1 j hj, (hl j (List.mem_cons_of_mem _ hj)).2⟩) h2.2
theorem subs_ok {offers : List Nat} {n : Nat} (ha : Asc offers) (hl : ∀ i ∈ offers, i < n) : SubsOk (subs offers) n :=
  subsTo_ok offers [[]] 0 n ⟨by simp, fun l h => by rw [List.mem_singleton.mp h]; exact List.Pairwise.nil, fun l h i hi => by rw [List.mem_singleton.mp h] at hi; cases hi⟩ ha (fun i hi => ⟨Nat.zero_le _, hl i hi⟩) (Nat.zero_le _)
theorem subsTo_len : ∀ (l : List Nat) (f : List (List Nat)), (subsTo f l).length = f.length * 2 ^ l.length
  | [], f => by show f.length = _; simp
  | i :: l, f => by
    show (subsTo _ l).length = _
    rw [subsTo_len l, List.length_append, List.length_map, List.length_cons, Nat.pow_succ]
    rw [← Nat.two_mul, Nat.mul_comm 2, Nat.mul_assoc, Nat.mul_comm 2]
theorem subs_len (offers : List Nat) : (subs offers).length = 2 ^ offers.length := by
  show (subsTo [[]] offers).length = _
  rw [subsTo_len]
  simp
theorem subsTo_el : ∀ (l : List Nat) (f : List (List Nat)) (n : Nat), (∀ x ∈ f, x.length ≤ n) → ∀ x ∈ subsTo f l, x.length ≤ n + l.length
  | [], f, n, h, x, hx => h x hx
  | i :: l, f, n, h, x, hx => by
    have := subsTo_el l (f ++ f.map (· ++ [i])) (n + 1) (fun y hy => by
      rcases List.mem_append.mp hy with z | z
      · exact Nat.le_succ_of_le (h y z)
      · obtain ⟨u, hu, e⟩ := List.mem_map.mp z
        subst e
        rw [List.length_append]
        exact Nat.succ_le_succ (h u hu)) x hx
    rw [List.length_cons]
    omega
theorem subs_el {offers : List Nat} : ∀ x ∈ subs offers, x.length ≤ offers.length := fun x hx => by
  have := subsTo_el offers [[]] 0 (fun y hy => by rw [List.mem_singleton.mp hy]; exact Nat.le_refl _) x hx
  omega
def within (one lot : List Nat) : Bool := one.all fun i => decide (i ∈ lot)
theorem within_iff {one lot : List Nat} : within one lot = true ↔ ∀ i ∈ one, i ∈ lot := by
  unfold within
  rw [List.all_eq_true]
  exact ⟨fun h i hi => of_decide_eq_true (h i hi), fun h i hi => decide_eq_true (h i hi)⟩
theorem asc_eq : ∀ (a b : List Nat), Asc a → Asc b → (∀ i ∈ a, i ∈ b) → b.length ≤ a.length → a = b
  | [], b, _, _, _, hl => (List.eq_nil_of_length_eq_zero (Nat.le_zero.mp hl)).symm
  | x :: a, [], _, _, h, _ => by
    have := h x List.mem_cons_self
    cases this
  | x :: a, y :: b, ha, hb, h, hl => by
    have a1 := List.pairwise_cons.mp ha
    have b1 := List.pairwise_cons.mp hb
    have na : (x :: a).Nodup := ha.imp fun h => Nat.ne_of_lt h
    by_cases e : x = y
    · subst e
      have := asc_eq a b a1.2 b1.2 (fun i hi => by
        rcases List.mem_cons.mp (h i (List.mem_cons_of_mem _ hi)) with z | z
        · have := a1.1 i hi
          omega
        · exact z) (by rw [List.length_cons, List.length_cons] at hl; omega)
      rw [this]
    · exfalso
      have hx : x ∈ b := (List.mem_cons.mp (h x List.mem_cons_self)).resolve_left e
      have hyx := b1.1 x hx
      have hsub : ∀ i ∈ x :: a, i ∈ b := fun i hi => by
        rcases List.mem_cons.mp (h i hi) with z | z
        · subst z
          rcases List.mem_cons.mp hi with z | z
          · omega
          · have := a1.1 i z
            omega
        · exact z
      have := nodup_len (x :: a) b na hsub
      rw [List.length_cons] at hl
      omega
theorem asc_lt {a b : List Nat} (ha : Asc a) (hb : Asc b) (h : within a b = true) (hn : a ≠ b) : a.length < b.length := by
  rw [within_iff] at h
  by_cases hl : b.length ≤ a.length
  · exact absurd (asc_eq a b ha hb h hl) hn
  · omega
/-- the greatest among good lots -/
def greatest (good : List (List Nat)) : List (List Nat) := good.filter fun lot => !(good.any fun one => !decide (lot = one) && within lot one)
theorem greatest_above {good : List (List Nat)} (ha : ∀ l ∈ good, Asc l) (b : Nat) (hb : ∀ l ∈ good, l.length ≤ b) : ∀ (n : Nat) (lot : List Nat), lot ∈ good → b - lot.length ≤ n → ∃ one ∈ greatest good, within lot one = true
  | n, lot, hl, hn => by
    by_cases h : (good.any fun one => !decide (lot = one) && within lot one) = true
    · obtain ⟨one, h1, h2⟩ := List.any_eq_true.mp h
      rw [Bool.and_eq_true, Bool.not_eq_true', decide_eq_false_iff_not] at h2
      have lt := asc_lt (ha lot hl) (ha one h1) h2.2 h2.1
      have := hb one h1
      cases n with
      | zero => omega
      | succ n =>
        obtain ⟨top, t1, t2⟩ := greatest_above ha b hb n one h1 (by omega)
        exact ⟨top, t1, within_iff.mpr fun i hi => within_iff.mp t2 i (within_iff.mp h2.2 i hi)⟩
    · refine ⟨lot, List.mem_filter.mpr ⟨hl, ?_⟩, within_iff.mpr fun i hi => hi⟩
      rw [Bool.not_eq_true] at h
      show (!_) = true
      rw [h]
      rfl
/-- the lots that are within none of some -/
def outside (every some : List (List Nat)) : List (List Nat) := every.filter fun lot => !(some.any fun one => within lot one)
theorem outside_not {every good : List (List Nat)} (ha : ∀ l ∈ every, Asc l) (hg : ∀ l ∈ good, l ∈ every) (b : Nat) (hb : ∀ l ∈ every, l.length ≤ b) {lot : List Nat} (h : lot ∈ outside every (greatest good)) : lot ∈ every ∧ lot ∉ good := by
  obtain ⟨h1, h2⟩ := List.mem_filter.mp h
  refine ⟨h1, fun hl => ?_⟩
  obtain ⟨one, o1, o2⟩ := greatest_above (fun l q => ha l (hg l q)) b (fun l q => hb l (hg l q)) b lot hl (by omega)
  rw [List.any_eq_true.mpr ⟨one, o1, o2⟩] at h2
  cases h2
/-- the way without a lot -/
def leftTo {α : Type} (w : List α) (lot : List Nat) : Nat → List α
  | 0 => []
  | i + 1 => leftTo w lot i ++ (if i ∈ lot then [] else w[i]?.toList)
def leftOf {α : Type} (w : List α) (lot : List Nat) : List α := leftTo w lot w.length
theorem leftTo_len {α : Type} (w : List α) (lot : List Nat) : ∀ i, (leftTo w lot i).length ≤ i
  | 0 => Nat.le_refl _
  | i + 1 => by
    show (leftTo w lot i ++ _).length ≤ _
    rw [List.length_append]
    have h := leftTo_len w lot i
    have h2 : (if i ∈ lot then [] else w[i]?.toList).length ≤ 1 := by
      split
      · exact Nat.zero_le _
      · cases w[i]? <;> simp
    omega
theorem leftOf_len {α : Type} (w : List α) (lot : List Nat) : (leftOf w lot).length ≤ w.length := leftTo_len w lot _
end TM

set_option Elab.async false
set_option linter.all false
set_option maxRecDepth 100000
set_option maxHeartbeats 4000000
/-! Dicts whose keys are nested tuples, over the hand layer. -/
namespace TE
open PySem PySem.Spec PyProof.Rows L2
/-! ### data as keys -/
mutual
def nk : PyData → NestedKey
  | .none => .none
  | .bool b => .num (if b = true then 1 else 0)
  | .int i => .num i
  | .str x => .text x
  | .tuple ds => .tup (nks ds)
  | .list _ => .none
  | .dict _ => .none
def nks : List PyData → List NestedKey
  | [] => []
  | d :: ds => nk d :: nks ds
end
mutual
/-- no list in it -/
def flt : PyData → Bool
  | .list _ => false
  | .dict _ => false
  | .tuple ds => flts ds
  | .none => true
  | .bool _ => true
  | .int _ => true
  | .str _ => true
def flts : List PyData → Bool
  | [] => true
  | d :: ds => flt d && flts ds
end
section
variable {X : Cx} {pins : List (Addr × Obj)} {σ : L2.St} {H : Hp} {s : Shared}
mutual
theorem dp_nested (I : Inv X pins σ H s) : ∀ (d : PyData) (v : V) (u : Value), Dp X.K H v d → flt d = true → RelV v u → NestedIs s.heap (nk d) u
  | .none, _, _, h, _, r => by cases h; cases r; exact .none
  | .bool b, _, _, h, _, r => by cases h; cases r; exact .bool rfl
  | .int i, _, _, h, _, r => by cases h; obtain ⟨t, rfl⟩ := r; exact .int i t
  | .str x, _, _, h, _, r => by cases h; obtain ⟨t, rfl⟩ := r; exact .text x t
  | .list _, _, _, _, f, _ => by cases f
  | .dict _, _, _, _, f, _ => by cases f
  | .tuple ds, _, _, h, f, r => by
    cases h with
    | tup hs ha =>
      cases r
      obtain ⟨its, rv, ⟨o, ho, hc, n, hd⟩, _⟩ := I.tuple hs
      exact .tup ho hc hd (by simpa using dp_nestedAll I ds _ its ha f rv)
theorem dp_nestedAll (I : Inv X pins σ H s) : ∀ (ds : List PyData) (vs : List V) (us : List Value), DpAll X.K H vs ds → flts ds = true → Vals vs us → NestedAll s.heap (nks ds) us
  | [], _, _, h, _, r => by cases h; cases r; exact .nil
  | d :: ds, _, _, h, f, r => by
    have f' : flt d = true ∧ flts ds = true := Bool.and_eq_true_iff.mp f
    cases h with
    | cons h1 h2 =>
      cases r with
      | cons r1 r2 => exact .cons (dp_nested I d _ _ h1 f'.1 r1) (dp_nestedAll I ds _ _ h2 f'.2 r2)
end
end
/-! ### data stays -/
section
variable {K : PySem.W.Frag} {H H' : Hp}
mutual
theorem dp_at (k1 : ∀ a xs, SqT K H a xs → SqT K H' a xs) (k2 : ∀ a xs, SqL K H a xs → SqL K H' a xs) : ∀ (d : PyData) (v : V), Dp K H v d → Dp K H' v d
  | .none, _, h => by cases h; exact .non
  | .bool b, _, h => by cases h; exact .bl b
  | .int i, _, h => by cases h; exact .int i
  | .str x, _, h => by cases h; exact .str x
  | .list ds, _, h => by
    cases h with
    | lst hs ha => exact .lst (k2 _ _ hs) (dpAll_at k1 k2 ds _ ha)
  | .tuple ds, _, h => by
    cases h with
    | tup hs ha => exact .tup (k1 _ _ hs) (dpAll_at k1 k2 ds _ ha)
  | .dict _, _, h => by cases h
theorem dpAll_at (k1 : ∀ a xs, SqT K H a xs → SqT K H' a xs) (k2 : ∀ a xs, SqL K H a xs → SqL K H' a xs) : ∀ (ds : List PyData) (vs : List V), DpAll K H vs ds → DpAll K H' vs ds
  | [], _, h => by cases h; exact .nil
  | d :: ds, _, h => by
    cases h with
    | cons h1 h2 => exact .cons (dp_at k1 k2 d _ h1) (dpAll_at k1 k2 ds _ h2)
end
mutual
theorem dp_keep (k1 : ∀ a xs, SqT K H a xs → SqT K H' a xs) : ∀ (d : PyData) (v : V), flt d = true → Dp K H v d → Dp K H' v d
  | .none, _, _, h => by cases h; exact .non
  | .bool b, _, _, h => by cases h; exact .bl b
  | .int i, _, _, h => by cases h; exact .int i
  | .str x, _, _, h => by cases h; exact .str x
  | .list ds, _, f, _ => by cases f
  | .dict _, _, f, _ => by cases f
  | .tuple ds, _, f, h => by
    cases h with
    | tup hs ha => exact .tup (k1 _ _ hs) (dpAll_keep k1 ds _ f ha)
theorem dpAll_keep (k1 : ∀ a xs, SqT K H a xs → SqT K H' a xs) : ∀ (ds : List PyData) (vs : List V), flts ds = true → DpAll K H vs ds → DpAll K H' vs ds
  | [], _, _, h => by cases h; exact .nil
  | d :: ds, _, f, h => by
    have f' : flt d = true ∧ flts ds = true := Bool.and_eq_true_iff.mp f
    cases h with
    | cons h1 h2 => exact .cons (dp_keep k1 d _ f'.1 h1) (dpAll_keep k1 ds _ f'.2 h2)
end
theorem Same.tup {a : Addr} {xs : List V} (e : Same H H') (h : SqT K H a xs) : SqT K H' a xs := by
  rcases h with (h | ⟨o, h⟩) | h
  · exact .inl (.inl (e _ _ h))
  · exact .inl (.inr ⟨o, e _ _ h⟩)
  · exact .inr h
theorem Same.dp {v : V} {d : PyData} (e : Same H H') (h : Dp K H v d) : Dp K H' v d := dp_at (fun _ _ q => Same.tup e q) (fun _ _ q => e.seq q) d v h
theorem Same.dpAll {vs : List V} {ds : List PyData} (e : Same H H') (h : DpAll K H vs ds) : DpAll K H' vs ds := dpAll_at (fun _ _ q => Same.tup e q) (fun _ _ q => e.seq q) ds vs h
/-- no tuple stands there -/
def NoT : Option HO → Prop
  | some (.tup _) => False
  | some (.frz _ _) => False
  | _ => True
theorem tup_upd {a : Addr} {o : HO} {b : Addr} {xs : List V} (n : NoT (H a)) (h : SqT K H b xs) : SqT K (upd H a o) b xs := by
  rcases h with (h | ⟨o', h⟩) | h
  · refine .inl (.inl ?_)
    rw [upd_ne (fun e => by rw [← e, h] at n; exact n)]
    exact h
  · refine .inl (.inr ⟨o', ?_⟩)
    rw [upd_ne (fun e => by rw [← e, h] at n; exact n)]
    exact h
  · exact .inr h
theorem dp_upd {a : Addr} {o : HO} {v : V} {d : PyData} (n : NoT (H a)) (f : flt d = true) (h : Dp K H v d) : Dp K (upd H a o) v d := dp_keep (fun _ _ q => tup_upd n q) d v f h
/-- a dict is locked or unlocked: the tuples stay -/
theorem tup_frz {a : Addr} {o : HO} {b : Addr} {xs : List V} {od : Obj} {u : HO} (hu : ∀ ys, u ≠ .tup ys) (e : H a = some (.frz od u)) (h : SqT K H b xs) : SqT K (upd H a o) b xs := by
  rcases h with (h | ⟨o', h⟩) | h
  · refine .inl (.inl ?_)
    rw [upd_ne (fun q => by rw [q, e] at h; cases h)]
    exact h
  · refine .inl (.inr ⟨o', ?_⟩)
    rw [upd_ne (fun q => by
      rw [q, e] at h
      injection Option.some.inj h with _ h2
      exact hu _ h2)]
    exact h
  · exact .inr h
end
theorem same_new {H : Hp} {p : Addr} {o : HO} (h : H p = none) : Same H (upd H p o) := fun b u e => by
  rw [upd_ne (ne_of_none e h)]
  exact e
theorem same_upd {H H' : Hp} {p : Addr} {o : HO} (s : Same H H') (h : H p = none) : Same H (upd H' p o) := fun b u e => by
  rw [upd_ne (ne_of_none e h)]
  exact s b u e
/-! ### the dict -/
abbrev Ent : Type := NestedKey × Addr × V
/-- a plain dict at d, its entries: keys (where their tuples stand), values -/
def DcO (w : World) (d : Addr) (xs : List Ent) : HO := .ext fun h => (d == sysModules) = false ∧ xs.length ≤ sizeLine ∧ ∃ (ys : List (NestedKey × Addr × Value)) (o : Obj) (es : Array DictEntry) (ep : Nat),
  Paired (fun (x : Ent) y => x.1 = y.1 ∧ x.2.1 = y.2.1 ∧ RelV x.2.2 y.2.2) xs ys ∧ h.get? d = some o ∧ o.ExactDict ∧ o.data = .dict es ep ∧ es.toList = ys.map fun y => (⟨y.1.hash w, .ref y.2.1, y.2.2⟩ : DictEntry)
structure KeyOk (d : PyData) : Prop where
  flat : flt d = true
  deep : (nk d).depth ≤ 8
/-- keys and values as data, values: kvs -/
structure DcR (K : PySem.W.Frag) (H : Hp) (kvs : List (PyData × V)) (xs : List Ent) : Prop where
  rel : Paired (fun (q : PyData × V) (x : Ent) => x.1 = nk q.1 ∧ x.2.2 = q.2 ∧ Dp K H (.ref x.2.1) q.1 ∧ KeyOk q.1) kvs xs
  nd : (xs.map (·.1)).Nodup
def DcAt (K : PySem.W.Frag) (w : World) (H : Hp) (d : Addr) (kvs : List (PyData × V)) : Prop := ∃ xs, H d = some (DcO w d xs) ∧ DcR K H kvs xs
theorem DcR.keep {K : PySem.W.Frag} {H H' : Hp} {kvs : List (PyData × V)} {xs : List Ent} (r : DcR K H kvs xs) (k1 : ∀ a zs, SqT K H a zs → SqT K H' a zs) : DcR K H' kvs xs :=
  ⟨Paired.mapP r.rel fun q x h => ⟨h.1, h.2.1, dp_keep k1 _ _ h.2.2.2.flat h.2.2.1, h.2.2.2⟩, r.nd⟩
theorem DcAt.same {K : PySem.W.Frag} {w : World} {H H' : Hp} {d : Addr} {kvs : List (PyData × V)} (e : Same H H') (h : DcAt K w H d kvs) : DcAt K w H' d kvs :=
  let ⟨xs, h1, h2⟩ := h
  ⟨xs, e _ _ h1, h2.keep fun _ _ q => Same.tup e q⟩
theorem DcAt.other {K : PySem.W.Frag} {w : World} {H : Hp} {d b : Addr} {o : HO} {kvs : List (PyData × V)} (hb : d ≠ b) (n : NoT (H b)) (h : DcAt K w H d kvs) : DcAt K w (upd H b o) d kvs :=
  let ⟨xs, h1, h2⟩ := h
  ⟨xs, (upd_ne hb).trans h1, h2.keep fun _ _ q => tup_upd n q⟩
theorem dcO_not {w : World} {d : Addr} {xs : List Ent} : NoT (some (DcO w d xs)) := True.intro
theorem DcAt.noT {K : PySem.W.Frag} {w : World} {H : Hp} {d : Addr} {kvs : List (PyData × V)} (h : DcAt K w H d kvs) : NoT (H d) := by
  obtain ⟨xs, h1, _⟩ := h
  rw [h1]
  exact dcO_not
/-- what stands for the key k -/
def lk (kvs : List (PyData × V)) (k : PyData) : Option V := (kvs.find? fun q => decide (nk q.1 = nk k)).map (·.2)
theorem paired_snoc {α β : Type} {G : α → β → Prop} {a : α} {b : β} (h : G a b) : ∀ {l : List α} {m : List β}, Paired G l m → Paired G (l ++ [a]) (m ++ [b])
  | _, _, .nil => .cons h .nil
  | _, _, .cons r t => .cons r (paired_snoc h t)
section
variable {X : Cx} {pins : List (Addr × Obj)} {σ : L2.St} {H : Hp} {s : Shared} {d : Addr} {kvs : List (PyData × V)} {xs : List Ent}
abbrev KndN (X : Cx) := nestedKind X.prog X.w
theorem key_is (I : Inv X pins σ H s) {k : PyData} {a : Addr} (h : Dp X.K H (.ref a) k) (ok : KeyOk k) : (KndN X).is s.heap (nk k) a := ⟨dp_nested I k _ _ h ok.flat rfl, ok.deep⟩
/-- the library's own way of telling it -/
theorem dc_of (I : Inv X pins σ H s) (e : Rd H d (DcO X.w d xs)) (r : DcR X.K H kvs xs) :
    (d == sysModules) = false ∧ xs.length ≤ sizeLine ∧ ∃ ys : List (NestedKey × Addr × Value), Paired (fun (x : Ent) y => x.1 = y.1 ∧ x.2.1 = y.2.1 ∧ RelV x.2.2 y.2.2) xs ys ∧ s.heap.DictOfH (KndN X) d ys := by
  obtain ⟨⟨h1, h2, ys, o, es, ep, rel, ho, hc, hd, he⟩, _, _⟩ := e.ok I.hok
  refine ⟨h1, h2, ys, rel, o, es, ep, ho, hc, hd, he, fun y hy => ?_, ?_⟩
  · have key : ∀ {kvs : List (PyData × V)} {xs : List Ent} {ys : List (NestedKey × Addr × Value)}, Paired (fun (q : PyData × V) (x : Ent) => x.1 = nk q.1 ∧ x.2.2 = q.2 ∧ Dp X.K H (.ref x.2.1) q.1 ∧ KeyOk q.1) kvs xs →
        Paired (fun (x : Ent) (y : NestedKey × Addr × Value) => x.1 = y.1 ∧ x.2.1 = y.2.1 ∧ RelV x.2.2 y.2.2) xs ys → ∀ y ∈ ys, (KndN X).is s.heap y.1 y.2.1 := by
      intro kvs xs ys p q
      induction p generalizing ys with
      | nil => cases q; intro y hy; cases hy
      | @cons a b as bs g t ih =>
        cases q with
        | @cons _ c _ cs g2 t2 =>
          intro y hy
          rcases List.mem_cons.mp hy with z | z
          · subst z
            obtain ⟨a1, a2, a3, a4⟩ := g
            obtain ⟨b1, b2, _⟩ := g2
            rw [← b1, a1, ← b2]
            exact key_is I a3 a4
          · exact ih t2 y z
    exact key r.rel rel y hy
  · have e2 : ∀ {xs : List Ent} {ys : List (NestedKey × Addr × Value)}, Paired (fun (x : Ent) (y : NestedKey × Addr × Value) => x.1 = y.1 ∧ x.2.1 = y.2.1 ∧ RelV x.2.2 y.2.2) xs ys → xs.map (·.1) = ys.map (·.1) := by
      intro xs ys p
      induction p with
      | nil => rfl
      | cons g t ih => rw [List.map_cons, List.map_cons, g.1, ih]
    rw [← e2 rel]
    exact r.nd
theorem lk_rel {k : PyData} : ∀ {kvs : List (PyData × V)} {xs : List Ent} {ys : List (NestedKey × Addr × Value)}, Paired (fun (q : PyData × V) (x : Ent) => x.1 = nk q.1 ∧ x.2.2 = q.2 ∧ Dp X.K H (.ref x.2.1) q.1 ∧ KeyOk q.1) kvs xs →
    Paired (fun (x : Ent) (y : NestedKey × Addr × Value) => x.1 = y.1 ∧ x.2.1 = y.2.1 ∧ RelV x.2.2 y.2.2) xs ys → RelO (lk kvs k) ((atKey ys (nk k)).map (·.2)) := by
  intro kvs xs ys p q
  induction p generalizing ys with
  | nil => cases q; exact True.intro
  | @cons a b as bs g t ih =>
    cases q with
    | @cons _ c _ cs g2 t2 =>
      obtain ⟨a1, a2, a3, a4⟩ := g
      obtain ⟨b1, b2, b3⟩ := g2
      have e : c.1 = nk a.1 := b1.symm.trans a1
      unfold lk atKey
      rw [List.find?_cons, List.find?_cons]
      by_cases h : nk a.1 = nk k
      · have h2 : c.1 = nk k := e.trans h
        rw [decide_eq_true h, decide_eq_true h2]
        show RelV a.2 c.2.2
        rw [← a2]
        exact b3
      · have h2 : ¬ c.1 = nk k := fun z => h (e.symm.trans z)
        rw [decide_eq_false h, decide_eq_false h2]
        exact ih t2
theorem nested_room (hu : X.A.units + 64 < cLine) : (KndN X).room X.A.in1 := by
  show X.A.in1.units + 8 < cLine
  rw [Around.in1_units]
  omega
theorem nested_room0 (hu : X.A.units + 64 < cLine) : (KndN X).room X.A := by
  show X.A.units + 8 < cLine
  omega
theorem lk_none {kvs : List (PyData × V)} {k : PyData} (h : ∀ q ∈ kvs, nk q.1 ≠ nk k) : lk kvs k = none := by
  unfold lk
  rw [List.find?_eq_none.mpr fun q hq => by rw [decide_eq_false (h q hq)]; exact Bool.false_ne_true]
  rfl
theorem lk_some {kvs : List (PyData × V)} {k : PyData} (h : ∃ q ∈ kvs, nk q.1 = nk k) : ∃ q ∈ kvs, nk q.1 = nk k ∧ lk kvs k = some q.2 := by
  unfold lk
  cases e : kvs.find? fun q => decide (nk q.1 = nk k) with
  | none =>
    obtain ⟨q, hq, h1⟩ := h
    have := List.find?_eq_none.mp e q hq
    rw [decide_eq_true h1] at this
    exact absurd rfl this
  | some q =>
    have h1 := List.find?_some e
    exact ⟨q, List.mem_of_find?_eq_some e, of_decide_eq_true h1, rfl⟩
/-- the entry of a key of which there is one alone -/
theorem lk_at {kvs : List (PyData × V)} (nd : (kvs.map fun q => nk q.1).Nodup) {q : PyData × V} (hq : q ∈ kvs) {k : PyData} (h : nk q.1 = nk k) : lk kvs k = some q.2 := by
  obtain ⟨q', h1, h2, h3⟩ := lk_some (kvs := kvs) (k := k) ⟨q, hq, h⟩
  rw [h3]
  have key : ∀ {kvs : List (PyData × V)}, (kvs.map fun q => nk q.1).Nodup → ∀ q ∈ kvs, ∀ q' ∈ kvs, nk q.1 = nk q'.1 → q = q' := by
    intro kvs nd
    induction kvs with
    | nil => intro q hq; cases hq
    | cons a r ih =>
      rw [List.map_cons] at nd
      have n1 := List.nodup_cons.mp nd
      intro q hq q' hq' e
      rcases List.mem_cons.mp hq with z | z
      · rcases List.mem_cons.mp hq' with z' | z'
        · rw [z, z']
        · exact absurd (List.mem_map.mpr ⟨q', z', by rw [← e, z]⟩) n1.1
      · rcases List.mem_cons.mp hq' with z' | z'
        · exact absurd (List.mem_map.mpr ⟨q, z, by rw [e, z']⟩) n1.1
        · exact ih n1.2 q z q' z' e
  rw [key nd q hq q' h1 (h.trans h2.symm)]
def rDcIn (K : PySem.W.Frag) (w : World) (neg : Bool) : R2 := fun x y H Q => ∃ a d kvs k, x = .ref a ∧ y = .ref d ∧ DcAt K w H d kvs ∧ Dp K H (.ref a) k ∧ KeyOk k ∧ Q (.bl (if neg = true then !(lk kvs k).isSome else (lk kvs k).isSome)) H
theorem relO_some {o : Option V} {u : Option Value} (r : RelO o u) : o.isSome = u.isSome := RelO.isSome_eq r
theorem op_dcIn (hu : X.A.units + 64 < cLine) : OpR X (compareOp .In) (rDcIn X.K X.w false) := by
  intro pins s σ H x y v u Q I rx ry h
  obtain ⟨a, d, kvs, k, rfl, rfl, ⟨xs, e, r⟩, hk, ok, q⟩ := h
  cases rx
  cases ry
  obtain ⟨h1, h2, ys, rel, dd⟩ := dc_of I (Rd.of e) r
  refine wpAny_in_heap (nested_room hu) (key_is I hk ok) h1 dd ⟨.bl _, H, I.tok _, ?_, q⟩
  show _ = Value.bool _
  rw [if_neg (by decide), relO_some (lk_rel (k := k) r.rel rel), Option.isSome_map]
theorem op_dcNotIn (hu : X.A.units + 64 < cLine) : OpR X (compareOp .NotIn) (rDcIn X.K X.w true) := by
  intro pins s σ H x y v u Q I rx ry h
  obtain ⟨a, d, kvs, k, rfl, rfl, ⟨xs, e, r⟩, hk, ok, q⟩ := h
  cases rx
  cases ry
  obtain ⟨h1, h2, ys, rel, dd⟩ := dc_of I (Rd.of e) r
  refine notIn_keyed (kvs := pairsH ys) (nested_room hu) (key_is I hk ok) h1 ⟨ys, dd, rfl⟩ ⟨.bl _, H, I.tok _, ?_, q⟩
  show _ = Value.bool _
  rw [if_pos rfl, relO_some (lk_rel (k := k) r.rel rel), valueAt_pairsH]
/-- the same of a dict that is locked while it is walked -/
def rDcInF (K : PySem.W.Frag) (w : World) (neg : Bool) : R2 := fun x y H Q => ∃ a d o kvs xs k, x = .ref a ∧ y = .ref d ∧ H d = some (.frz o (DcO w d xs)) ∧ DcR K H kvs xs ∧ Dp K H (.ref a) k ∧ KeyOk k ∧ Q (.bl (if neg = true then !(lk kvs k).isSome else (lk kvs k).isSome)) H
theorem op_dcNotInF (hu : X.A.units + 64 < cLine) : OpR X (compareOp .NotIn) (rDcInF X.K X.w true) := by
  intro pins s σ H x y v u Q I rx ry h
  obtain ⟨a, d, o, kvs, xs, k, rfl, rfl, e, r, hk, ok, q⟩ := h
  cases rx
  cases ry
  obtain ⟨h1, h2, ys, rel, dd⟩ := dc_of I (.inr ⟨o, e⟩) r
  refine notIn_keyed (kvs := pairsH ys) (nested_room hu) (key_is I hk ok) h1 ⟨ys, dd, rfl⟩ ⟨.bl _, H, I.tok _, ?_, q⟩
  show _ = Value.bool _
  rw [if_pos rfl, relO_some (lk_rel (k := k) r.rel rel), valueAt_pairsH]
def rDcGet (K : PySem.W.Frag) (w : World) : R2 := fun x y H Q => ∃ a d kvs k v, x = .ref d ∧ y = .ref a ∧ DcAt K w H d kvs ∧ Dp K H (.ref a) k ∧ KeyOk k ∧ lk kvs k = some v ∧ Q v H
theorem ix_dc (hu : X.A.units + 64 < cLine) : IxR X (rDcGet X.K X.w) := by
  intro value slice pins s σ H x y v u Q I rx ry h hs
  obtain ⟨a, d, kvs, k, z, rfl, rfl, ⟨xs, e, r⟩, hk, ok, hl, q⟩ := h
  cases rx
  cases ry
  obtain ⟨h1, h2, ys, rel, dd⟩ := dc_of I (Rd.of e) r
  have ro := lk_rel (k := k) r.rel rel
  rw [hl] at ro
  cases ha : atKey ys (nk k) with
  | none =>
    rw [ha] at ro
    exact False.elim ro
  | some p =>
    rw [ha] at ro
    exact tail_any dd.typeIs slot_dict_getitem.lookup (wpAny_getItem_heap (nested_room hu) (key_is I hk ok) dd ha ⟨z, H, I.tok _, ro, q⟩) hs
theorem dc_new {H' : Hp} {h' : Heap} {d : Addr} {xs : List Ent} {ys : List (NestedKey × Addr × Value)} (hz : xs.length ≤ sizeLine) (hd : (d == sysModules) = false) (rel : Paired (fun (x : Ent) y => x.1 = y.1 ∧ x.2.1 = y.2.1 ∧ RelV x.2.2 y.2.2) xs ys)
    (dd : h'.DictOfH (KndN X) d ys) : ObjOk X.prog X.w H' h' d (DcO X.w d xs) := by
  obtain ⟨o, es, ep, ho, hc, hdt, he, _⟩ := dd
  exact ⟨⟨hd, hz, ys, o, es, ep, rel, ho, hc, hdt, he⟩, ⟨o, ho⟩, fun h1 h2 ⟨b1, b2, ys, o, es, ep, b3, b4, b5⟩ st => ⟨b1, b2, ys, o, es, ep, b3, st _ b4, b5⟩⟩
theorem dc_empty {H : Hp} (h : Heap) (hb : sysModules < h.objs.size) : ObjOk X.prog X.w H (h.push { cls := .type "dict", data := .dict #[] }) h.objs.size (DcO X.w h.objs.size []) :=
  dc_new (Nat.zero_le _) (beq_eq_false_iff_ne.mpr (Nat.ne_of_gt hb)) .nil (Heap.DictOfH.new h)
theorem DcR.nil {K : PySem.W.Frag} {H : Hp} : DcR K H [] [] := ⟨.nil, List.nodup_nil⟩
theorem storedH_at {ys : List (NestedKey × Addr × Value)} {k : NestedKey} (h : atKey ys k = none) (a : Addr) (u : Value) : storedH ys k a u = ys ++ [(k, a, u)] := storedH_new h a u
/-- a new key stored: what is told behind it -/
theorem dc_stored (I : Inv X pins σ H s) {a : Addr} {k : PyData} {v : V} {u : Value} (e : H d = some (DcO X.w d xs)) (r : DcR X.K H kvs xs) (hk : Dp X.K H (.ref a) k) (ok : KeyOk k) (hn : lk kvs k = none) (hz : xs.length < sizeLine) (rv : RelV v u)
    {ys : List (NestedKey × Addr × Value)} (rel : Paired (fun (x : Ent) y => x.1 = y.1 ∧ x.2.1 = y.2.1 ∧ RelV x.2.2 y.2.2) xs ys) (h1 : (d == sysModules) = false) {h' : Heap} {t' : Nat} (dd : h'.DictOfH (KndN X) d (storedH ys (nk k) a u)) (hs : Heap.SameBut d s.heap h') :
    Inv X pins σ (upd H d (DcO X.w d (xs ++ [(nk k, a, v)]))) { s with heap := h', toks := t' } ∧ DcAt X.K X.w (upd H d (DcO X.w d (xs ++ [(nk k, a, v)]))) d (kvs ++ [(k, v)]) := by
  have ro := lk_rel (k := k) r.rel rel
  rw [hn] at ro
  have ha : atKey ys (nk k) = none := by
    cases q : atKey ys (nk k) with
    | none => rfl
    | some p =>
      rw [q] at ro
      exact False.elim ro
  rw [storedH_new ha] at dd
  have mu : Mut (H d) := by
    rw [e]
    exact True.intro
  have nt : NoT (H d) := by
    rw [e]
    exact dcO_not
  have he : ∃ q, h'.get? d = some q := let ⟨q, _, _, hq, _⟩ := dd; ⟨q, hq⟩
  refine ⟨d_write I mu hs he (dc_new (by rw [List.length_append]; exact hz) h1 (paired_snoc (a := ((nk k, a, v) : Ent)) (b := ((nk k, a, u) : NestedKey × Addr × Value)) ⟨rfl, rfl, rv⟩ rel) dd), _, upd_same, ?_, ?_⟩
  · refine paired_snoc ⟨rfl, rfl, dp_upd nt ok.flat hk, ok⟩ (Paired.mapP r.rel fun q x h => ⟨h.1, h.2.1, dp_upd nt h.2.2.2.flat h.2.2.1, h.2.2.2⟩)
  · rw [List.map_append]
    refine List.nodup_append.mpr ⟨r.nd, by simp, fun x hx y hy e2 => ?_⟩
    have hy' : y = nk k := List.mem_singleton.mp hy
    rw [e2, hy'] at hx
    have key : ∀ {kvs : List (PyData × V)} {xs : List Ent}, Paired (fun (q : PyData × V) (x : Ent) => x.1 = nk q.1 ∧ x.2.2 = q.2 ∧ Dp X.K H (.ref x.2.1) q.1 ∧ KeyOk q.1) kvs xs → nk k ∈ xs.map (·.1) → ∃ q ∈ kvs, nk q.1 = nk k := by
      intro kvs xs p
      induction p with
      | nil => intro z; cases z
      | cons g t ih =>
        intro z
        rw [List.map_cons] at z
        rcases List.mem_cons.mp z with z | z
        · exact ⟨_, List.mem_cons_self, g.1.symm.trans z.symm⟩
        · obtain ⟨q, hq, hq2⟩ := ih z
          exact ⟨q, List.mem_cons_of_mem _ hq, hq2⟩
    obtain ⟨q, hq, hq2⟩ := key r.rel hx
    obtain ⟨_, _, _, z⟩ := lk_some (kvs := kvs) (k := k) ⟨q, hq, hq2⟩
    rw [hn] at z
    cases z
/-- d[k] = v, k not there yet -/
def rDcSet (K : PySem.W.Frag) (w : World) : V → V → V → Hp → (Hp → Prop) → Prop := fun o i v H Q => ∃ a d kvs k, o = .ref d ∧ i = .ref a ∧ DcAt K w H d kvs ∧ Dp K H (.ref a) k ∧ KeyOk k ∧ lk kvs k = none ∧ kvs.length < sizeLine ∧
  ∀ xs, DcAt K w (upd H d (DcO w d xs)) d (kvs ++ [(k, v)]) → Q (upd H d (DcO w d xs))
theorem set_dc (hu : X.A.units + 64 < cLine) : PSet X (rDcSet X.K X.w) := by
  intro pins s σ H o i v ov iv u Q I ro ri rv h
  obtain ⟨a, d, kvs, k, rfl, rfl, ⟨xs, e, r⟩, hk, ok, hn, hz, q⟩ := h
  cases ro
  cases ri
  obtain ⟨h1, h2, ys, rel, dd⟩ := dc_of I (Rd.of e) r
  have hl : kvs.length = xs.length := Paired.length r.rel
  have hl2 : xs.length = ys.length := Paired.length rel
  refine wpAny_setItem_heap (hsz := by omega) (nested_room hu) (key_is I hk ok) dd fun h' dd' hs => ?_
  obtain ⟨I', D'⟩ := dc_stored (t' := s.toks + (KndN X).draws (nk k)) I e r hk ok hn (by omega) rv rel h1 dd' hs
  exact ⟨_, I', q _ D'⟩
/-- .. by a comprehension or a display -/
theorem dc_dictSet {E : Value → Shared → Prop} (hu : X.A.units + 64 < cLine) (I : Inv X pins σ H s) {a : Addr} {k : PyData} {v : V} {u : Value} {Q : Unit → Shared → Prop} (D : DcAt X.K X.w H d kvs) (hk : Dp X.K H (.ref a) k) (ok : KeyOk k) (hn : lk kvs k = none) (hz : kvs.length < sizeLine) (rv : RelV v u)
    (h : ∀ xs s', Inv X pins σ (upd H d (DcO X.w d xs)) s' → DcAt X.K X.w (upd H d (DcO X.w d xs)) d (kvs ++ [(k, v)]) → Q () s') : wpAny (model X.prog X.w) X.A (dictSet d (.ref a) u) Q E s := by
  obtain ⟨xs, e, r⟩ := D
  obtain ⟨h1, h2, ys, rel, dd⟩ := dc_of I (Rd.of e) r
  have hl : kvs.length = xs.length := Paired.length r.rel
  have hl2 : xs.length = ys.length := Paired.length rel
  refine wpAny_dictSet_heap (hsz := by omega) (nested_room0 hu) (key_is I hk ok) dd fun h' dd' hs => ?_
  obtain ⟨I', D'⟩ := dc_stored (t' := s.toks + (KndN X).draws (nk k)) I e r hk ok hn (by omega) rv rel h1 dd' hs
  exact h _ _ I' D'
end
end TE

set_option Elab.async false
set_option linter.all false
set_option maxRecDepth 100000
set_option maxHeartbeats 4000000
/-! Displays, walks, comprehensions, copies of dicts whose keys are nested tuples. -/
namespace TE
open PySem PySem.Spec PyProof.Rows L2
section
variable {X : Cx} {pins : List (Addr × Obj)} {σ : L2.St} {H : Hp} {s : Shared} {d : Addr} {kvs : List (PyData × V)} {xs : List Ent}
/-! ### {k: v} -/
def DispEnd (K : PySem.W.Frag) (w : World) (p : Addr) (Q : VK) (y v : V) (H2 : Hp) : Prop := ∃ a k, y = .ref a ∧ H2 p = some (DcO w p []) ∧ Dp K H2 (.ref a) k ∧ KeyOk k ∧
  ∀ xs, DcAt K w (upd H2 p (DcO w p xs)) p [(k, v)] → Q (.ref p) (upd H2 p (DcO w p xs))
def DispEnd1 (K : PySem.W.Frag) (w : World) (p : Addr) (Q : VK) : List (V × V) → Hp → Prop
  | [(y, v)], H2 => DispEnd K w p Q y v H2
  | _, _ => False
def tDc1 (K : PySem.W.Frag) (w : World) (tk tv : L2.TE) : L2.TE := fun σ H Q => ∀ p, H p = none → tk σ (upd H p (DcO w p [])) fun y H1 => tv σ H1 fun v H2 => DispEnd K w p Q y v H2
theorem pe_dc1 {ke ve : Expr} {pos : Pos} {tk tv : L2.TE} (hu : X.A.units + 64 < cLine) (hk : PE X ke tk) (hv : PE X ve tv) : PE X (.Dict [some ke] [ve] pos) (tDc1 X.K X.w tk tv) := by
  refine ⟨fun pins s σ H Q I q => ?_⟩
  have hn : H s.heap.objs.size = none := I.hok.fresh (Nat.le_refl _)
  have I1 := I.laid (a := s.heap.objs.size) (o := DcO X.w s.heap.objs.size []) (h' := s.heap.push { cls := .type "dict", data := .dict #[] }) (t' := s.toks) (fun _ _ q => Heap.get?_push_of_some _ q) (Nat.le_refl _) (dc_empty (X := X) s.heap I.big)
  have pp : PPs X pos [some ke] [ve] [(tk, tv)] := pps_cons hk hv pps_nil
  have l2 := pairTrees_length [some ke] [ve] X.env pos rfl rfl
  rw [arm_eval_Dict, zip_pairTrees [some ke] [ve] X.env pos rfl rfl, dictDisplay_pairs (pairTrees [some ke] [ve] X.env pos) (fun e => by rw [e] at l2; cases l2) (by rw [l2]; show 1 < 17; decide)]
  refine wpAny_bind (wpAny_standAt (wpAny_bind (wpAny_subDictH (knd := KndN X) (nested_room0 hu) (by rw [l2]; show 1 ≤ 15; decide) ?_)))
  refine thn (pp.run pins _ σ _ (DispEnd1 X.K X.w s.heap.objs.size Q) I1 (q _ hn)) fun ws s2 ⟨ps, H2, I2, rel, hq⟩ => ?_
  cases rel with
  | nil => exact False.elim hq
  | @cons a b as bs h t =>
    cases t with
    | cons _ _ => exact False.elim hq
    | nil =>
      obtain ⟨y, v⟩ := a
      obtain ⟨y2, v2⟩ := b
      obtain ⟨a, k, ey, e, hd, ok, fin⟩ := (show DispEnd X.K X.w s.heap.objs.size Q y v H2 from hq)
      obtain ⟨ry, rv⟩ := (show RelV y y2 ∧ RelV v v2 from h)
      subst ey
      obtain rfl : y2 = Value.ref a := ry
      obtain ⟨h1, h2, ys, rel2, dd⟩ := dc_of I2 (Rd.of e) (DcR.nil (K := X.K) (H := H2))
      cases rel2
      refine ⟨[(nk k, a, v2)], ⟨rfl, rfl, key_is I2 hd ok, True.intro⟩, dd, fun h' tk' dd' hs => ?_⟩
      obtain ⟨I', D'⟩ := dc_stored (t' := tk') I2 e (DcR.nil (K := X.K) (H := H2)) hd ok rfl (by decide) rv .nil h1 dd' hs
      exact wpAny_pure ⟨.ref s.heap.objs.size, _, I', rfl, fin _ D'⟩
/-! ### a walk -/
/-- at d a dict, locked -/
def LkD (K : PySem.W.Frag) (w : World) (H : Hp) (d : Addr) (o : Obj) (kvs : List (PyData × V)) : Prop := ∃ xs, H d = some (.frz o (DcO w d xs)) ∧ DcR K H kvs xs
theorem LkD.same {K : PySem.W.Frag} {w : World} {H H' : Hp} {d : Addr} {o : Obj} {kvs : List (PyData × V)} (e : Same H H') (h : LkD K w H d o kvs) : LkD K w H' d o kvs :=
  let ⟨xs, h1, h2⟩ := h
  ⟨xs, e _ _ h1, h2.keep fun _ _ q => Same.tup e q⟩
theorem LkD.other {K : PySem.W.Frag} {w : World} {H : Hp} {d b : Addr} {o : Obj} {ob : HO} {kvs : List (PyData × V)} (hb : d ≠ b) (n : NoT (H b)) (h : LkD K w H d o kvs) : LkD K w (upd H b ob) d o kvs :=
  let ⟨xs, h1, h2⟩ := h
  ⟨xs, (upd_ne hb).trans h1, h2.keep fun _ _ q => tup_upd n q⟩
theorem paired_at {α β : Type} {G : α → β → Prop} : ∀ {l₁ : List α} {l₂ : List β}, Paired G l₁ l₂ → ∀ {i : Nat} {a : α}, l₁[i]? = some a → ∃ b, l₂[i]? = some b ∧ G a b
  | _, _, .nil, i, a, h => by simp at h
  | _, _, .cons r t, 0, a, h => ⟨_, rfl, by rw [← Option.some.inj h]; exact r⟩
  | _, _, .cons r t, i + 1, a, h => paired_at t h
/-- its entries -/
theorem lkd_of {o : Obj} (I : Inv X pins σ H s) (h : LkD X.K X.w H d o kvs) : (d == sysModules) = false ∧ s.heap.get? d = some o ∧ o.ExactDict ∧ ∃ (es : Array DictEntry) (ep : Nat), o.data = .dict es ep ∧ es.size = kvs.length ∧ s.heap.DictRaw d es ep ∧
    ∀ (i : Nat) (k : PyData) (v : V), kvs[i]? = some (k, v) → ∃ (hi : i < es.size) (a : Addr), es[i].key = .ref a ∧ Dp X.K H (.ref a) k ∧ RelV v es[i].val := by
  obtain ⟨xs, e, r⟩ := h
  obtain ⟨hd, ⟨h1, h2, ys, o', es, ep, rel, ho, hc, hdt, he⟩, _, _⟩ := I.hok d _ e
  rw [hd] at ho
  cases ho
  have sz : es.size = ys.length := by rw [← Array.length_toList, he, List.length_map]
  have l1 : kvs.length = xs.length := Paired.length r.rel
  have l2 : xs.length = ys.length := Paired.length rel
  refine ⟨h1, hd, hc, es, ep, hdt, by omega, ⟨o, hd, hc, hdt⟩, fun i k v hk => ?_⟩
  obtain ⟨x, hx, x1, x2, x3, x4⟩ := paired_at r.rel hk
  obtain ⟨y, hy, y1, y2, y3⟩ := paired_at rel hx
  have hil : i < ys.length := (List.getElem?_eq_some_iff.mp hy).1
  have hi : i < es.size := by omega
  have e2 : es[i] = (⟨y.1.hash X.w, .ref y.2.1, y.2.2⟩ : DictEntry) := by
    have q : es.toList[i]? = some es[i] := by rw [Array.getElem?_toList, Array.getElem?_eq_getElem hi]
    rw [he, List.getElem?_map, hy] at q
    exact (Option.some.inj q).symm
  refine ⟨hi, x.2.1, ?_, x3, ?_⟩
  · rw [e2, y2]
  · rw [e2]
    have x2' : x.2.2 = v := x2
    rw [← x2']
    exact y3
def ItDk (K : PySem.W.Frag) (w : World) (d : Addr) (o : Obj) (kvs : List (PyData × V)) : It :=
  ⟨fun i H => LkD K w H d o kvs ∧ i < kvs.length, fun i H x H' => H' = H ∧ ∃ k v a, kvs[i]? = some (k, v) ∧ x = .ref a ∧ Dp K H (.ref a) k, fun i H => LkD K w H d o kvs ∧ kvs.length ≤ i⟩
def ItDi (K : PySem.W.Frag) (w : World) (d : Addr) (o : Obj) (kvs : List (PyData × V)) : It :=
  ⟨fun i H => LkD K w H d o kvs ∧ i < kvs.length, fun i H x H' => ∃ T k v a, kvs[i]? = some (k, v) ∧ x = .ref T ∧ H T = none ∧ Dp K H (.ref a) k ∧ H' = upd H T (.tup [.ref a, v]), fun i H => LkD K w H d o kvs ∧ kvs.length ≤ i⟩
theorem same_data {o : Obj} {es es' : Array DictEntry} {ep ep' : Nat} (h : o.data = .dict es ep) (h' : o.data = .dict es' ep') : es = es' ∧ ep = ep' := by
  have e := h.symm.trans h'
  injection e with e1 e2
  exact ⟨e1, e2⟩
theorem turn_dk {P : Program} {w : World} {K : PySem.W.Frag} {tg : Expr} {o : Obj} {es : Array DictEntry} {ep : Nat} (it : Addr) (hod : o.data = .dict es ep) :
    Turn P w K tg (ItDk K w d o kvs) [it] it (fun i h => h.IsKeyIter it d i kvs.length ep) where
  mem := List.mem_singleton.mpr rfl
  obj := fun i h st b hb => by
    rw [List.mem_singleton.mp hb]
    obtain ⟨oi, e, c, dd⟩ := st
    exact ⟨oi, e, fun v z => by rw [dd] at z; cases z⟩
  keep := fun i h h' st k => st.at fun oi e => k it (List.mem_singleton.mpr rfl) oi e
  item := by
    intro X eP ew eK hc i pins s σ H E I hf st ⟨hl, hi⟩
    subst eP ew eK
    obtain ⟨g0, g1, g2, g3, g4, g5⟩ := hf it (List.mem_singleton.mpr rfl)
    obtain ⟨hs, hgd, hx, es', ep', hdt, hsz, hraw, ent⟩ := lkd_of I hl
    obtain ⟨rfl, rfl⟩ := same_data hod hdt
    obtain ⟨⟨k, v⟩, hkv⟩ : ∃ p, kvs[i]? = some p := ⟨kvs[i], List.getElem?_eq_getElem hi⟩
    obtain ⟨hie, a, hkey, hdp, _⟩ := ent i k v hkv
    refine next_key_item st hgd hdt hsz (en := es[i]) (Array.getElem?_eq_getElem hie) fun h' st' sb => ?_
    have I1 : Inv X pins σ H { s with heap := h' } := I.turned (t' := s.toks) (fun b ob hb e => (sb.2 b hb).trans e) g0 g1 g3 g4 g5
    obtain ⟨oi, e, c, dd⟩ := id st'
    exact ⟨es[i].key, rfl, go_of (s := { s with heap := h' }) e c dd (by decide) ⟨.ref a, H, I1, hkey, ⟨rfl, k, v, a, hkv, rfl, hdp⟩, st', fun b hb => (hf b hb).1⟩⟩
  done := by
    intro X eP ew eK hc i pins s σ H E I hf st ⟨hl, hi⟩
    subst eP ew eK
    obtain ⟨g0, g1, g2, g3, g4, g5⟩ := hf it (List.mem_singleton.mpr rfl)
    obtain ⟨hs, hgd, hx, es', ep', hdt, hsz, hraw, ent⟩ := lkd_of I hl
    obtain ⟨rfl, rfl⟩ := same_data hod hdt
    exact next_key_end (I.ok.hd hc) st hgd hdt hsz hi fun h' eb => ⟨rfl, I.turned (t' := s.toks) (fun b ob hb e => eb b ob hb e) g0 g1 g3 g4 g5⟩
  self := fun A i s Q E st h => wpAny_pyIter_keyiter st h
theorem turn_di {P : Program} {w : World} {K : PySem.W.Frag} {elts : List Expr} {kk : Nat} {tpos : Pos} {o : Obj} {es : Array DictEntry} {ep : Nat} (it : Addr) (hod : o.data = .dict es ep) :
    Turn P w K (.Tuple elts kk tpos) (ItDi K w d o kvs) [it] it (fun i h => ∃ ok ov, IsItemIter h it d i kvs.length ep ok ov) where
  mem := List.mem_singleton.mpr rfl
  obj := fun i h st b hb => by
    rw [List.mem_singleton.mp hb]
    obtain ⟨ok, ov, e⟩ := st
    exact ⟨_, e, fun v z => nomatch z⟩
  keep := fun i h h' st k => let ⟨ok, ov, e⟩ := st; ⟨ok, ov, k it (List.mem_singleton.mpr rfl) _ e⟩
  item := by
    intro X eP ew eK hc i pins s σ H E I hf st ⟨hl, hi⟩
    subst eP ew eK
    obtain ⟨hs, hgd, hx, es', ep', hdt, hsz, hraw, ent⟩ := lkd_of I hl
    obtain ⟨rfl, rfl⟩ := same_data hod hdt
    obtain ⟨⟨k, v⟩, hkv⟩ : ∃ p, kvs[i]? = some p := ⟨kvs[i], List.getElem?_eq_getElem hi⟩
    obtain ⟨hie, a, hkey, hdp, hval⟩ := ent i k v hkv
    obtain ⟨ok, ov, he⟩ := st
    have hlt : it < s.heap.objs.size := Heap.lt_size he
    rw [← hsz] at he
    refine wpAny_pyNext_items_item_raw he hraw hie fun h' ho hT hz hk => ?_
    refine ⟨_, rfl, wpAny_letOwnedTupleGo_items (s := { s with heap := h' }) ho fun h'' he' sb => ?_⟩
    have hT2 : h''.get? s.heap.objs.size = some { cls := .type "tuple", data := .seq #[es[i].key, es[i].val] } := (sb.2 _ (Nat.ne_of_gt hlt)).trans hT
    have new : ObjOk X.prog X.w (upd H s.heap.objs.size (.tup [.ref a, v])) h'' s.heap.objs.size (.tup [.ref a, v]) :=
      ⟨by show 2 ≤ sizeLine; decide, [es[i].key, es[i].val], .cons hkey (.cons hval .nil), ⟨_, hT2, rfl, _, rfl⟩⟩
    have I1 : Inv X pins σ (upd H s.heap.objs.size (.tup [.ref a, v])) { s with heap := h'' } :=
      I.turnedNew (t' := s.toks) (ch := [it]) (fun b ob hb e => (sb.2 b (fun q => hb (List.mem_singleton.mpr q))).trans (hk b ob (fun q => hb (List.mem_singleton.mpr q)) e)) hf (Nat.le_refl _) new
    refine ⟨.ref s.heap.objs.size, _, I1, rfl, ⟨_, k, v, a, hkv, rfl, I.hok.fresh (Nat.le_refl _), hdp, rfl⟩, ⟨es[i].key, es[i].val, ?_⟩, fun b hb => ?_⟩
    · rw [← hsz]
      exact he'
    · rw [List.mem_singleton.mp hb, upd_ne (Nat.ne_of_lt hlt)]
      exact (hf it (List.mem_singleton.mpr rfl)).1
  done := by
    intro X eP ew eK hc i pins s σ H E I hf st ⟨hl, hi⟩
    subst eP ew eK
    obtain ⟨g0, g1, g2, g3, g4, g5⟩ := hf it (List.mem_singleton.mpr rfl)
    obtain ⟨hs, hgd, hx, es', ep', hdt, hsz, hraw, ent⟩ := lkd_of I hl
    obtain ⟨rfl, rfl⟩ := same_data hod hdt
    obtain ⟨ok, ov, he⟩ := st
    rw [← hsz] at he
    exact wpAny_pyNext_items_end_raw (I.ok.hd hc) he hraw (by omega) fun h' eb => ⟨rfl, I.turned (t' := s.toks) (fun b ob hb e => eb b ob hb e) g0 g1 g3 g4 g5⟩
  self := fun A i s Q E st h => let ⟨_, _, e⟩ := st; PySem.W.kcp_self e h
def iDk (K : PySem.W.Frag) (w : World) (td : L2.TE) : TI := fun σ H R => td σ H fun x H1 => ∃ d o kvs, x = .ref d ∧ LkD K w H1 d o kvs ∧ R (ItDk K w d o kvs) H1
def iDi (K : PySem.W.Frag) (w : World) (td : L2.TE) : TI := fun σ H R => td σ H fun x H1 => ∃ d o kvs, x = .ref d ∧ LkD K w H1 d o kvs ∧ R (ItDi K w d o kvs) H1
theorem pi_dk {tg e : Expr} {td : L2.TE} (he : PE X e td) : PI X tg e (iDk X.K X.w td) := by
  refine ⟨fun pins s σ H R I h => ?_⟩
  refine thn (he.run pins s σ H _ I h) fun u s1 ⟨x, H1, I1, rx, d, o, kvs, ex, hl, q⟩ => ?_
  subst ex
  obtain rfl : u = Value.ref d := rx
  obtain ⟨hs, hgd, hx, es, ep, hdt, hsz, _, _⟩ := lkd_of I1 hl
  refine iter_keys hs hgd hx hdt (pi_one (tk := s1.toks) I1 _ (turn_dk _ hdt) ⟨_, Heap.get?_push_size _ rfl, rfl, ?_⟩ q)
  rw [hsz]
  rfl
theorem pi_di {elts : List Expr} {kk : Nat} {tpos apos cpos : Pos} {e : Expr} {td : L2.TE} (he : PE X e td) (hbase : attributeBase e "items" X.env (eval e X.env) = eval e X.env := by rfl) (hline : (apos.endLine == cpos.line) = true := by rfl) :
    PI X (.Tuple elts kk tpos) (.Call (.Attribute e "items" apos) [] [] cpos) (iDi X.K X.w td) := by
  refine ⟨fun pins s σ H R I h => ?_⟩
  refine wpAny_Call_method (T := "dict") (id := "dict.items") hbase rfl hline PySem.F.plainAttrs_dict PySem.F.slot_dict_items PySem.F.type_dict_items (thn (he.run pins s σ H _ I h) fun u s1 ⟨x, H1, I1, rx, d, o, kvs, ex, hl, q⟩ => ?_)
  subst ex
  obtain rfl : u = Value.ref d := rx
  obtain ⟨hs, hgd, hx, es, ep, hdt, hsz, hraw, _⟩ := lkd_of I1 hl
  refine ⟨hraw.typeIs, fun b q => by cases q; exact ⟨o, hgd, hx.2.1⟩, ?_⟩
  have I2 : Inv X pins σ H1 { s1 with heap := s1.heap.push { cls := .type "dict_items", data := .fields #[.ref d] } } := I1.kept (t' := s1.toks) fun b ob q => Heap.get?_push_of_some _ q
  have fin : wpAny (model X.prog X.w) X.A (pyIter (.ref s1.heap.objs.size)) (PIE X pins σ (.Tuple elts kk tpos) R) X.xe { s1 with heap := s1.heap.push { cls := .type "dict_items", data := .fields #[.ref d] } } := by
    refine wpAny_pyIter_items_raw (d := d) ⟨_, Heap.get?_push_size _ rfl, rfl, rfl⟩ (hraw.push _) (pi_one (tk := s1.toks) I2 _ (turn_di _ hdt) ⟨.none, .none, ?_⟩ q)
    rw [← hsz]
    exact Heap.get?_push_size _ rfl
  show wpAny _ _ (callWith cpos (.builtin "dict.items") [.ref d] [] []) _ X.xe s1
  exact method_meetsIn PySem.F.slot_dict_items PySem.F.entry_dict_items rfl (PySem.evalArgs_none ⟨rfl, hraw.typeIs, PySem.F.args_dict_items_1 _, _, meets_dict_items_raw d hs, ⟨es, ep, hraw⟩, fin⟩)
theorem walk_dk {K : PySem.W.Frag} {w : World} {o : Obj} : Walk (ItDk K w d o kvs) kvs.length (fun H => LkD K w H d o kvs) (fun i H x H' => H' = H ∧ ∃ k v a, kvs[i]? = some (k, v) ∧ x = .ref a ∧ Dp K H (.ref a) k) :=
  ⟨fun i H hi q => ⟨q, hi⟩, fun H q => ⟨q, Nat.le_refl _⟩, fun i H x H' _ _ y => y⟩
theorem walk_di {K : PySem.W.Frag} {w : World} {o : Obj} : Walk (ItDi K w d o kvs) kvs.length (fun H => LkD K w H d o kvs) (fun i H x H' => ∃ T k v a, kvs[i]? = some (k, v) ∧ x = .ref T ∧ H T = none ∧ Dp K H (.ref a) k ∧ H' = upd H T (.tup [.ref a, v])) :=
  ⟨fun i H hi q => ⟨q, hi⟩, fun H q => ⟨q, Nat.le_refl _⟩, fun i H x H' _ _ y => y⟩
/-- a dict is locked: what is known of it then -/
theorem lkd_lock {K : PySem.W.Frag} {w : World} {o : Obj} (e : H d = some (DcO w d xs)) (r : DcR K H kvs xs) : LkD K w (upd H d (.frz o (DcO w d xs))) d o kvs :=
  ⟨xs, upd_same, r.keep fun _ _ q => tup_upd (by rw [e]; exact dcO_not) q⟩
theorem dc_unlock {K : PySem.W.Frag} {w : World} {o : Obj} (e : H d = some (.frz o (DcO w d xs))) (r : DcR K H kvs xs) : DcAt K w (upd H d (DcO w d xs)) d kvs :=
  ⟨xs, upd_same, r.keep fun _ _ q => tup_frz (fun _ z => by unfold DcO at z; cases z) e q⟩
end
end TE

set_option Elab.async false
set_option linter.all false
set_option maxRecDepth 100000
set_option maxHeartbeats 4000000
/-! Dict comprehensions with such keys; len, list, dict of such a dict. -/
namespace TE
open PySem PySem.Spec PyProof.Rows L2
section
variable {X : Cx}
/-- the turn's end: a new key is stored -/
def DcPut (K : PySem.W.Frag) (w : World) (D : Addr) (Nx : Hp → Prop) (y z : V) (H : Hp) : Prop := ∃ a kvs k, y = .ref a ∧ DcAt K w H D kvs ∧ Dp K H (.ref a) k ∧ KeyOk k ∧ lk kvs k = none ∧ kvs.length < sizeLine ∧
  ∀ xs, DcAt K w (upd H D (DcO w D xs)) D (kvs ++ [(k, z)]) → Nx (upd H D (DcO w D xs))
def tDcc (K : PySem.W.Frag) (w : World) (wi : TI) (g : TG) (tt : TT) (tk tv : L2.TE) (vs : List Nat) : L2.TE := fun σ H Q => wi σ H fun J H1 => ∀ D, H1 D = none → ∃ W : Nat → Nat → Hp → Prop, (∃ m, W 0 m (upd H1 D (DcO w D []))) ∧ ∀ i m H, W i m H →
  (J.stop i H ∧ Q (.ref D) H) ∨ (J.go i H ∧ ∃ Nx : Hp → Prop, (∀ H', Nx H' → ∃ m', m' < m ∧ W (i + 1) m' H') ∧ ∀ x H', J.yld i H x H' → g x (wipe σ vs) H' fun σ2 H2 => wipe σ2 vs = wipe σ vs ∧ tt σ2 H2 fun b H3 =>
    if b = true then tk σ2 H3 fun y H4 => tv σ2 H4 fun z H5 => DcPut K w D Nx y z H5 else Nx H3)
theorem dcc_core {pins : List (Addr × Obj)} {s : Shared} {σ : L2.St} {H : Hp} {Q : VK} {kx vx tg iter : Expr} {ifs : List Expr} {scope : Scope} {own : List (Str × Nat)} {pos pos' : Pos} {wi : TI} {g : TG} {tt : TT} {tk tv : L2.TE} {use : Option (Value → Sem Unit)} {Qf : Value → Shared → Prop}
    (hu : X.A.units + 64 < cLine) (hc : X.calm = true) (hN : X.N.Nodup) (I : Inv X pins σ H s) (hi : PI X tg iter wi) (ok : BlkOk X.N X.env.scope scope own)
    (hg : ∀ (s : Shared) (H : Hp) (C : Addr) (cl : List (Str × Addr)) (fp : List Addr), PG (X.blk s H scope (compEnvC scope cl C X.env) fp) tg g) (ht : ∀ (s : Shared) (H : Hp) (C : Addr) (cl : List (Str × Addr)) (fp : List Addr), PTs (X.blk s H scope (compEnvC scope cl C X.env) fp) ifs tt)
    (hk : ∀ (s : Shared) (H : Hp) (C : Addr) (cl : List (Str × Addr)) (fp : List Addr), PE (X.blk s H scope (compEnvC scope cl C X.env) fp) kx tk)
    (he : ∀ (s : Shared) (H : Hp) (C : Addr) (cl : List (Str × Addr)) (fp : List Addr), PE (X.blk s H scope (compEnvC scope cl C X.env) fp) vx tv) (hs : ∀ x, foldedSetIterable iter X.env x = pure x)
    (h : tDcc X.K X.w wi g tt tk tv (own.map (·.2)) σ H Q)
    (hRR : ∀ D C s' m H', Inv X pins σ H' s' → Q (.ref D) H' → s'.heap.Ns C m → FpOk X pins H' C → compPost (model X.prog X.w) X.A X.xe use Qf (.ref D) C (.ok .next) s') :
    wpAny (model X.prog X.w) X.A (comprehension (.DictComp kx vx [⟨tg, iter, ifs, 0⟩] scope pos) scope X.env pos' newDict false (eval iter X.env) use) Qf X.xe s := by
  have free : ∀ y ∈ scope.names, y.2 = .free → ∃ c, X.env.cells.lookup y.1 = some c := fun y hy e => (ok.free y hy e).elim (fun k => I.ok.has _ (.inl k)) fun k => I.ok.has _ (.inr k)
  refine wpAny_comprehension_free (use := use) rfl hs (closure_ok free) ok.kind (fun y hy e => by rw [ok.uniq y hy, e])
    (thn (hi.run pins s σ H _ I h) fun xv s1 hx => thn hx fun itv s2 h2 => ?_)
  obtain ⟨it, fp, tn, J, H2, e, I2, T, st2, f2, q⟩ := h2
  subst e
  refine wpAny_newObj_type (newEnv_comp ?_)
  generalize hD : s2.heap.objs.size = D
  obtain ⟨W, ⟨m0, w0⟩, turn⟩ := q D (I2.hok.fresh (Nat.le_of_eq hD))
  generalize hs3 : ({ s2 with heap := s2.heap.push { cls := .type "dict", data := .dict #[] } } : Shared) = s3
  have I3 : Inv X pins σ (upd H2 D (DcO X.w D [])) s3 := by
    subst hs3 hD
    exact I2.laid (t' := s2.toks) (fun b o e => Heap.get?_push_of_some _ e) (Nat.le_refl _) (dc_empty (X := X) s2.heap I2.big)
  have h3 : s3.heap = s2.heap.push { cls := .type "dict", data := .dict #[] } := by rw [← hs3]
  have f3 : ∀ b ∈ fp, FpOk X pins (upd H2 D (DcO X.w D [])) b ∧ b < s3.heap.objs.size := fun b hb => by
    obtain ⟨o, eo, _⟩ := T.obj _ _ st2 b hb
    have lt := Heap.lt_size eo
    refine ⟨⟨?_, (f2 b hb).2⟩, by rw [h3, Heap.size_push]; exact Nat.lt_succ_of_lt lt⟩
    rw [upd_ne (by rw [← hD]; exact Nat.ne_of_lt lt)]
    exact (f2 b hb).1
  have st3 : tn 0 s3.heap := T.keep _ _ _ st2 fun b _ o e => by rw [h3]; exact Heap.get?_push_of_some _ e
  have I4 := block_start I3 ok hN f3
  show codeAny _ _ (.compStart (.DictComp kx vx [⟨tg, iter, ifs, 0⟩] scope pos) 0 (.ref it) (.ref D) (compEnvC scope (cellsFrom (s3.heap.objs.size + 1) scope.names (cloFrom X.env.cells scope.names [])) s3.heap.objs.size X.env)) (compPost (model X.prog X.w) X.A X.xe use Qf (.ref D) s3.heap.objs.size) { s3 with heap := pushCells (s3.heap.push { cls := .type "dict", data := .dict #[] }) scope.names }
  generalize hcl : cellsFrom (s3.heap.objs.size + 1) scope.names (cloFrom X.env.cells scope.names []) = cl at I4 ⊢
  have pg := hg s3 (upd H2 D (DcO X.w D [])) s3.heap.objs.size cl fp
  have pt := ht s3 (upd H2 D (DcO X.w D [])) s3.heap.objs.size cl fp
  have pk := hk s3 (upd H2 D (DcO X.w D [])) s3.heap.objs.size cl fp
  have pv := he s3 (upd H2 D (DcO X.w D [])) s3.heap.objs.size cl fp
  generalize hce : compEnvC scope cl s3.heap.objs.size X.env = ce at I4 pg pt pk pv ⊢
  have cL : ce.locals = s3.heap.objs.size := by subst hce; rfl
  generalize hH3 : upd H2 D (DcO X.w D []) = H3 at I3 I4 pg pt pk pv w0 f3
  generalize hs4 : ({ s3 with heap := pushCells (s3.heap.push { cls := .type "dict", data := .dict #[] }) scope.names } : Shared) = s4 at I4 ⊢
  have st4 : tn 0 s4.heap := T.keep _ _ _ st3 fun b _ o e => by rw [← hs4]; exact pushCells_keeps _ _ _ _ (Heap.get?_push_of_some _ e)
  have foot : ∀ {σ' : L2.St} {H' : Hp} {s' : Shared}, Inv (X.blk s3 H3 scope ce fp) [] σ' H' s' → (∀ b ∈ fp, H' b = none) → ∀ b ∈ fp, FpOk (X.blk s3 H3 scope ce fp) [] H' b := fun {σ' H' s'} I' hn b hb =>
    ⟨hn b hb, (I'.ok.exf b hb).1, I'.ok.exfs b hb, .inl hb, fun x c e => (I'.ok.exf b hb).2 x c e, fun p hp => absurd (show p ∈ ([] : List (Addr × Obj)) ++ [] from hp) (by simp)⟩
  have loop : codeAny (model X.prog X.w) X.A (.compLoop (.DictComp kx vx [⟨tg, iter, ifs, 0⟩] scope pos) 0 (.ref it) (.ref D) ce) (compPost (model X.prog X.w) X.A X.xe use Qf (.ref D) s3.heap.objs.size) s4 := by
    refine compLoop_anyD (fun n s' => ∃ i H', Inv (X.blk s3 H3 scope ce fp) [] (wipe σ (own.map (·.2))) H' s' ∧ tn i s'.heap ∧ (∀ b ∈ fp, H' b = none) ∧ W i n H') ?_ m0 ⟨0, H3, I4, st4, fun b hb => (f3 b hb).1.1, w0⟩
    rintro n s5 ⟨i, H5, I5, st5, n5, w5⟩
    rcases turn i n H5 w5 with ⟨stop, qq⟩ | ⟨go, Nx, hNx, step⟩
    · refine thnF (T.done (X.blk s3 H3 scope ce fp) rfl rfl rfl hc i [] s5 _ H5 (fun _ _ => False) I5 (foot I5 n5) st5 stop) fun r s6 ⟨hr, I6⟩ => ?_
      subst hr
      have I7 : Inv X pins σ H5 s6 := I3.call' (ch := fp) I6.os I6.base I6.hok I6.bare fun b hb => ⟨(f3 b hb).1.2.2.2.1, (f3 b hb).1.2.1, (f3 b hb).1.2.2.2.2.1, (f3 b hb).1.2.2.2.2.2⟩
      have nC : H5 s3.heap.objs.size = none := by
        rw [← cL]
        exact I6.free
      obtain ⟨m, hn, _⟩ := I6.loc
      exact hRR D s3.heap.objs.size s6 m H5 I7 qq (by rw [← cL]; exact hn) (I3.fpOk (Nat.le_refl _) nC)
    · refine thnF (T.item (X.blk s3 H3 scope ce fp) rfl rfl rfl hc i [] s5 _ H5 (fun _ _ => False) I5 (foot I5 n5) st5 go) fun r s6 ⟨u, hr, h6⟩ => ?_
      subst hr
      refine thnF h6 fun _ s7 ⟨x, H7, I7, r7, y7, st7, n7⟩ => ?_
      have I7' := I7.pinned (foot I7 n7) (T.obj _ _ st7)
      refine thnF (pg.run _ s7 _ H7 x u _ I7' r7 (step x H7 y7)) fun _ s8 ⟨σ8, H8, I8, hw8, q8⟩ => ?_
      refine thnF (pt.run _ s8 σ8 H8 _ I8 q8) fun b s9 ⟨H9, I9, q9⟩ => ?_
      have fin : ∀ {s' : Shared} {H' : Hp}, Inv (X.blk s3 H3 scope ce fp) ([] ++ pinsAt fp s7.heap) σ8 H' s' → Nx H' → ∃ m, m < n ∧ ∃ i H', Inv (X.blk s3 H3 scope ce fp) [] (wipe σ (own.map (·.2))) H' s' ∧ tn i s'.heap ∧ (∀ b ∈ fp, H' b = none) ∧ W i m H' := fun {s' H'} I' nx => by
        obtain ⟨m', hm, w'⟩ := hNx H' nx
        have pin' : ∀ b ∈ fp, ∀ o, s7.heap.get? b = some o → s'.heap.get? b = some o ∧ H' b = none := fun b hb o e =>
          have z := I'.pin (b, o) (List.mem_append_right _ (List.mem_append_right _ (mem_pinsAt hb e)))
          ⟨z.1, z.2.1⟩
        refine ⟨m', hm, i + 1, H', (I'.unpinned (pins := [])).weak (by rw [← hw8, wipe_length]) (fun j v e => ?_), T.keep _ _ _ st7 fun b hb o e => (pin' b hb o e).1, fun b hb => ?_, w'⟩
        · rw [← hw8] at e
          exact (wipe_some e).1
        · obtain ⟨o, e, _⟩ := T.obj _ _ st7 b hb
          exact (pin' b hb o e).2
      cases b with
      | false =>
        simp only [Bool.false_eq_true, if_false] at q9 ⊢
        exact fin I9 q9
      | true =>
        simp only [if_true] at q9 ⊢
        refine thnF (pk.run _ s9 σ8 H9 _ I9 q9) fun z s10 ⟨yk, H10, I10, r10, q10⟩ => ?_
        refine thnF (pv.run _ s10 σ8 H10 _ I10 q10) fun z2 s11 ⟨yv, H11, I11, r11, a, kvs, k, ek, dc, dp, kok, hn, hz, nx⟩ => ?_
        subst ek
        obtain rfl : z = Value.ref a := r10
        exact dc_dictSet (X := X.blk s3 H3 scope ce fp) hu I11 dc dp kok hn hz r11 fun xs s12 I12 D12 => fin I12 (nx xs D12)
  exact codeAny_compStart_dict loop (T.self X.A 0 _ _ _ st4 loop)
theorem pe_dcc {kx vx tg iter : Expr} {ifs : List Expr} {scope : Scope} {own : List (Str × Nat)} {pos : Pos} {wi : TI} {g : TG} {tt : TT} {tk tv : L2.TE} (hu : X.A.units + 64 < cLine) (hc : X.calm = true) (hN : X.N.Nodup) (hi : PI X tg iter wi) (ok : BlkOk X.N X.env.scope scope own)
    (hg : ∀ (s : Shared) (H : Hp) (C : Addr) (cl : List (Str × Addr)) (fp : List Addr), PG (X.blk s H scope (compEnvC scope cl C X.env) fp) tg g) (ht : ∀ (s : Shared) (H : Hp) (C : Addr) (cl : List (Str × Addr)) (fp : List Addr), PTs (X.blk s H scope (compEnvC scope cl C X.env) fp) ifs tt)
    (hk : ∀ (s : Shared) (H : Hp) (C : Addr) (cl : List (Str × Addr)) (fp : List Addr), PE (X.blk s H scope (compEnvC scope cl C X.env) fp) kx tk)
    (he : ∀ (s : Shared) (H : Hp) (C : Addr) (cl : List (Str × Addr)) (fp : List Addr), PE (X.blk s H scope (compEnvC scope cl C X.env) fp) vx tv) (hs : ∀ x, foldedSetIterable iter X.env x = pure x := by intro _; rfl) :
    PE X (.DictComp kx vx [⟨tg, iter, ifs, 0⟩] scope pos) (tDcc X.K X.w wi g tt tk tv (own.map (·.2))) := by
  refine ⟨fun pins s σ H Q I h => ?_⟩
  rw [arm_eval_DictComp]
  refine dcc_core hu hc hN I hi ok hg ht hk he hs h fun D C s' m H' I' q hn f => ⟨m, hn, fun h'' sb => ?_⟩
  obtain ⟨f0, f1, f2, f3, f4, f5⟩ := f
  exact ⟨.ref D, H', I'.turned (t' := s'.toks) (fun b o hb e => (sb.2 b hb).trans e) f0 f1 f3 f4 f5, rfl, q⟩
/-- the reading over any walk: Pv by the turn and the heap (the new dict at D within) -/
theorem dcc_it {K : PySem.W.Frag} {w : World} {J : It} {n : Nat} {G : Hp → Prop} {Y : Nat → Hp → V → Hp → Prop} (wk : Walk J n G Y) {g : TG} {tt : TT} {tk tv : L2.TE} {vs : List Nat} {σ : L2.St} {H1 : Hp} {D : Addr} {Qd : Hp → Prop} (Pv : Nat → Hp → Prop) (h0 : Pv 0 (upd H1 D (DcO w D []))) (hG : ∀ i H, i ≤ n → Pv i H → G H)
    (hs : ∀ i x H H', i < n → Pv i H → Y i H x H' → g x (wipe σ vs) H' fun σ2 H2 => wipe σ2 vs = wipe σ vs ∧ tt σ2 H2 fun b H3 =>
      if b = true then tk σ2 H3 fun y H4 => tv σ2 H4 fun z H5 => DcPut K w D (Pv (i + 1)) y z H5 else Pv (i + 1) H3) (hd : ∀ H, Pv n H → Qd H) :
    ∃ W : Nat → Nat → Hp → Prop, (∃ m, W 0 m (upd H1 D (DcO w D []))) ∧ ∀ i m H, W i m H →
      (J.stop i H ∧ Qd H) ∨ (J.go i H ∧ ∃ Nx : Hp → Prop, (∀ H', Nx H' → ∃ m', m' < m ∧ W (i + 1) m' H') ∧ ∀ x H', J.yld i H x H' → g x (wipe σ vs) H' fun σ2 H2 => wipe σ2 vs = wipe σ vs ∧ tt σ2 H2 fun b H3 =>
        if b = true then tk σ2 H3 fun y H4 => tv σ2 H4 fun z H5 => DcPut K w D Nx y z H5 else Nx H3) := by
  refine ⟨fun i m H => m = n - i ∧ i ≤ n ∧ Pv i H, ⟨n, rfl, Nat.zero_le _, h0⟩, fun i m H ⟨em, hi, p⟩ => ?_⟩
  subst em
  have q := hG i H hi p
  by_cases hlt : i < n
  · exact .inr ⟨wk.goes i H hlt q, Pv (i + 1), fun H' p' => ⟨n - (i + 1), by omega, rfl, hlt, p'⟩, fun x H' y => hs i x H H' hlt p (wk.yields i H x H' hlt q y)⟩
  · have e : i = n := by omega
    subst e
    exact .inl ⟨wk.stops H q, hd H p⟩
/-! ### len(d), list(d), dict(d) -/
theorem call_dcLen : CallR X (.builtin "len") (fun vs H Q => ∃ d kvs, vs = [.ref d] ∧ DcAt X.K X.w H d kvs ∧ Q (.int kvs.length) H) := by
  intro pins s σ H vs us Q I r ⟨d, kvs, ev, ⟨xs, e, rr⟩, q⟩
  subst ev
  obtain ⟨u, eu, rx⟩ := vals1 r
  subst eu
  obtain rfl : u = Value.ref d := rx
  obtain ⟨h1, h2, ys, rel, dd⟩ := dc_of I (Rd.of e) rr
  have l1 : kvs.length = xs.length := Paired.length rr.rel
  have l2 : xs.length = ys.length := Paired.length rel
  have l3 : (pairsH ys).length = kvs.length := by rw [pairsH_length]; omega
  have h2' := h2
  rw [sizeLine_eq] at h2'
  refine PyProof.Rows.call_len_slot (n := (pairsH ys).length) dd.typeIs PySem.F.slot_dict_len (fun Q' hq => len_keyed (knd := KndN X) h1 ⟨ys, dd, rfl⟩ hq) (by omega) (by omega) ?_
  rw [l3]
  exact ⟨.int kvs.length, H, I.tok _, ⟨_, rfl⟩, q⟩
/-- the keys, in their order -/
theorem call_dcList (hc : X.calm = true) : CallR X (.type "list") (fun vs H Q => ∃ d kvs, vs = [.ref d] ∧ DcAt X.K X.w H d kvs ∧ ∀ l xs, H l = none → DpAll X.K (upd H l (.lst xs)) xs (kvs.map (·.1)) → Q (.ref l) (upd H l (.lst xs))) := by
  intro pins s σ H vs us Q I r ⟨d, kvs, ev, ⟨xs, e, rr⟩, q⟩
  subst ev
  obtain ⟨u, eu, rx⟩ := vals1 r
  subst eu
  obtain rfl : u = Value.ref d := rx
  obtain ⟨h1, h2, ys, rel, dd⟩ := dc_of I (Rd.of e) rr
  obtain ⟨es, ep, hraw, hsz, hent⟩ := dd.raw
  have l1 : kvs.length = xs.length := Paired.length rr.rel
  have l2 : xs.length = ys.length := Paired.length rel
  refine PySem.W.kdl_call (KdlSrc.rawDict h1) (I.ok.hd hc) hraw (by omega) fun h' tk acc c' hk hD hacc => ?_
  have nw : H s.heap.objs.size = none := I.hok.fresh (Nat.le_refl _)
  have hl : acc.toList.length = kvs.length := by rw [Array.length_toList, hacc.1]; omega
  have key : ∀ (n : Nat) (kvs' : List (PyData × V)) (us' : List Value), us'.length = kvs'.length → (∀ (j : Nat) (u : Value), us'[j]? = some u → ∃ (k : PyData) (v : V) (a : Addr), kvs'[j]? = some (k, v) ∧ u = .ref a ∧ Dp X.K H (.ref a) k ∧ flt k = true) →
      ∃ zs : List V, Vals zs us' ∧ zs.length = kvs'.length ∧ ∀ o, DpAll X.K (upd H s.heap.objs.size o) zs (kvs'.map (·.1)) := by
    intro n kvs'
    induction kvs' with
    | nil =>
      intro us' h _
      cases us' with
      | nil => exact ⟨[], .nil, rfl, fun _ => .nil⟩
      | cons _ _ => cases h
    | cons p r ih =>
      intro us' h hh
      cases us' with
      | nil => cases h
      | cons u0 us' =>
        obtain ⟨k, v, a, e1, e2, e3, e4⟩ := hh 0 u0 rfl
        have e1' : p = (k, v) := Option.some.inj e1
        obtain ⟨zs, z1, z2, z3⟩ := ih us' (Nat.succ.inj h) fun j u hj => hh (j + 1) u hj
        refine ⟨.ref a :: zs, .cons e2 z1, congrArg Nat.succ z2, fun o => .cons ?_ (z3 o)⟩
        rw [e1']
        exact dp_upd (by rw [nw]; exact True.intro) e4 e3
  obtain ⟨zs, z1, z2, z3⟩ := key 0 kvs acc.toList hl fun j u hj => by
    have hj' : acc[j]? = some u := by rw [← Array.getElem?_toList]; exact hj
    obtain ⟨hje, eu⟩ := hacc.2 j u hj'
    obtain ⟨y, hy, k1, k2, k3⟩ := hent j hje
    have hjk : j < kvs.length := by omega
    obtain ⟨x, hx, x1, x2, x3, x4⟩ := paired_at rr.rel (List.getElem?_eq_getElem hjk)
    obtain ⟨y', hy', y1, y2, y3⟩ := paired_at rel hx
    rw [hy'] at hy
    have ey : y' = y := Option.some.inj hy
    refine ⟨kvs[j].1, kvs[j].2, x.2.1, List.getElem?_eq_getElem hjk, ?_, x3, x4.flat⟩
    rw [eu, k1, y2, ey]
  refine ⟨.ref s.heap.objs.size, upd H s.heap.objs.size (.lst zs), I.laid (t' := tk) hk (Nat.le_refl _) ⟨by omega, acc.toList, c', z1, by rw [Array.toArray_toList]; exact hD⟩, rfl, q _ zs nw (z3 _)⟩
/-- dict(o), o of keys that are tuples, no two of which hash alike -/
theorem dict_of_H {prog : Program} {w : World} {K : Type} [DecidableEq K] {knd : HeapKind prog w K} {A : Around} {E : Value → Shared → Prop} {s : Shared} {o : Addr} {more : List (K × Addr × Value)} {Q : Value → Shared → Prop} (hu : knd.room A.in1.in1) (hoS : (o == sysModules) = false)
    (ho : s.heap.DictOfH knd o more) (hst : ∀ h', (∀ b ob, s.heap.get? b = some ob → h'.get? b = some ob) → h'.DictOfH knd o more ∧ ∀ x ∈ more, knd.is h' x.1 x.2.1) (hty : ∀ x ∈ more, s.TypeIs (.ref x.2.1) "tuple") (hap : (more.map fun x => knd.hash x.1).Nodup) (hsz : more.length ≤ sizeLine)
    (h : ∀ h', h'.DictOfH knd s.heap.objs.size more → (∀ b ob, s.heap.get? b = some ob → h'.get? b = some ob) → Q (.ref s.heap.objs.size) { s with heap := h' }) :
    wpAny (model prog w) A (call (.type "dict") [.ref o]) Q E s := by
  refine callType_codes (Q₁ := fun obj s₁ => obj = .ref s.heap.objs.size ∧ s₁ = { s with heap := s.heap.push { cls := .type "dict", data := .dict #[] } }) PySem.F.kt_called_dict (PySem.F.kt_typeCall_dict_1 _) PySem.F.entry_dict_init (kt_code_dict_new _ ⟨rfl, rfl⟩) ?_
  rintro obj s₁ ⟨rfl, rfl⟩
  have kp : ∀ b ob, s.heap.get? b = some ob → (s.heap.push { cls := .type "dict", data := .dict #[] }).get? b = some ob := fun b ob e => Heap.get?_push_of_some _ e
  have new : (s.heap.push { cls := .type "dict", data := .dict #[] }).DictOfH knd s.heap.objs.size [] := Heap.DictOfH.new s.heap
  have there := (hst _ kp).1
  have apart : s.heap.objs.size ≠ o := by
    obtain ⟨_, _, _, hg, _⟩ := ho
    exact fun e => absurd (Heap.lt_size hg) (by rw [e]; exact Nat.lt_irrefl _)
  refine ⟨new.typeIs, PySem.F.args_dict_init_2 _ _, ?_⟩
  unfold Builtin.«dict.__init__»
  refine wpAny_bind ?_
  unfold Builtin.Dict.selfAndRest
  refine wpAny_bind (wpAny_notOrdered_dict new.typeIs ?_)
  show wpAny _ _ (pure (s.heap.objs.size, [Value.ref o])) _ _ _
  refine wpAny_pure ?_
  refine updateFrom_dictH .none hu apart hoS new there (.inr ⟨fun x hx => ?_, hap⟩) (by simpa using hsz) fun h' hd' _ hs' => ?_
  · obtain ⟨ob, e1, e2⟩ := hty x hx
    exact ⟨ob, kp _ _ e1, e2⟩
  · have nd := ho.nodup
    rw [storedAllH_nil_of_nodup more nd] at hd'
    exact ⟨rfl, h h' hd' fun b ob e => (hs'.2 b (Nat.ne_of_lt (Heap.lt_size e))).trans (kp b ob e)⟩
theorem call_dcDict (hu : X.A.units + 64 < cLine) : CallR X (.type "dict") (fun vs H Q => ∃ d kvs, vs = [.ref d] ∧ DcAt X.K X.w H d kvs ∧ (∀ q ∈ kvs, ∃ ds, q.1 = .tuple ds) ∧ (kvs.map fun q => (nk q.1).hash X.w).Nodup ∧
    ∀ p xs, H p = none → DcAt X.K X.w (upd H p (DcO X.w p xs)) p kvs → Q (.ref p) (upd H p (DcO X.w p xs))) := by
  intro pins s σ H vs us Q I r ⟨d, kvs, ev, ⟨xs, e, rr⟩, htup, hap, q⟩
  subst ev
  obtain ⟨u, eu, rx⟩ := vals1 r
  subst eu
  obtain rfl : u = Value.ref d := rx
  obtain ⟨h1, h2, ys, rel, dd⟩ := dc_of I (Rd.of e) rr
  have nw : H s.heap.objs.size = none := I.hok.fresh (Nat.le_refl _)
  have l2 : xs.length = ys.length := Paired.length rel
  have ehash : ∀ {kvs : List (PyData × V)} {xs : List Ent} {ys : List (NestedKey × Addr × Value)}, Paired (fun (q : PyData × V) (x : Ent) => x.1 = nk q.1 ∧ x.2.2 = q.2 ∧ Dp X.K H (.ref x.2.1) q.1 ∧ KeyOk q.1) kvs xs →
      Paired (fun (x : Ent) (y : NestedKey × Addr × Value) => x.1 = y.1 ∧ x.2.1 = y.2.1 ∧ RelV x.2.2 y.2.2) xs ys → (ys.map fun y => (KndN X).hash y.1) = kvs.map fun q => (nk q.1).hash X.w := by
    intro kvs xs ys p1 p2
    induction p1 generalizing ys with
    | nil => cases p2; rfl
    | cons g t ih =>
      cases p2 with
      | cons g2 t2 =>
        rw [List.map_cons, List.map_cons, ih t2]
        refine congrArg (· :: _) ?_
        show NestedKey.hash X.w _ = _
        rw [← g2.1, g.1]
  have stay : ∀ h', (∀ b ob, s.heap.get? b = some ob → h'.get? b = some ob) → h'.DictOfH (KndN X) d ys ∧ ∀ x ∈ ys, (KndN X).is h' x.1 x.2.1 := fun h' hk => by
    obtain ⟨_, _, _, _, _, _, _, his, _⟩ := id dd
    have k2 : ∀ x ∈ ys, (KndN X).is h' x.1 x.2.1 := fun x hx => nestedKind_stays.stays (fun b ob vs n eb _ => hk b ob eb) (his x hx)
    exact ⟨dd.at' (fun ob eb => hk d ob eb) k2, k2⟩
  refine dict_of_H (knd := KndN X) (by show X.A.in1.in1.units + 8 < cLine; rw [Around.in1_units, Around.in1_units]; omega) h1 dd stay (keyed_apart nestedKind_stays dd) (by rw [ehash rr.rel rel]; exact hap) (by omega) fun h' dd' hk => ?_
  have lo : (s.heap.objs.size == sysModules) = false := beq_eq_false_iff_ne.mpr (Nat.ne_of_gt I.big)
  refine ⟨.ref s.heap.objs.size, upd H s.heap.objs.size (DcO X.w s.heap.objs.size xs), I.laid (t' := s.toks) hk (Nat.le_refl _) (dc_new h2 lo rel dd'), rfl, q _ xs nw ⟨xs, upd_same, rr.keep fun _ _ z => tup_upd (by rw [nw]; exact True.intro) z⟩⟩
end
end TE

set_option Elab.async false
set_option linter.all false
set_option maxRecDepth 100000
set_option maxHeartbeats 4000000
/-! enumerate of a tuple, of a text. -/
namespace TE
open PySem PySem.Spec PyProof.Rows L2
set_option maxHeartbeats 4000000 in
theorem meets_enumerate_newT (l : Addr) (items : Array Value) (n : Nat) (dct : Option Addr) (sl : Array (Option Value)) :
    Meets (Builtin.«enumerate.__new__» ⟨[.type "enumerate", .ref l], []⟩) (fun _ R s => s.heap.get? l = some { cls := .type "tuple", dict := dct, data := .seq items n, slots := sl } ∧
      R (.ok (.ret (.ref (s.heap.push { cls := .type "tuple_iterator", data := .fields #[.ref l, .int 0 0] }).objs.size)))
        { s with heap := (s.heap.push { cls := .type "tuple_iterator", data := .fields #[.ref l, .int 0 0] }).push { cls := .type "enumerate", data := .fields #[.none, .bool false, .ref s.heap.objs.size, rawInt 0, .none, .none] } }) :=
  .of_wp fun prog w A R s h => by
    obtain ⟨hp, g, d, tk, os⟩ := s
    obtain ⟨hl, h⟩ := h
    have hsub := sub_enumerate
    have q1 : ∀ {A' : Around} {E : Value → Shared → Prop} {Q : Value → Shared → Prop}, Q (.ref hp.objs.size) ⟨hp.push { cls := .type "tuple_iterator", data := .fields #[.ref l, .int 0 0] }, g, d, tk, os⟩ → wpAny (model prog w) A' (pyIter (.ref l)) Q E ⟨hp, g, d, tk, os⟩ :=
      fun q => (begins_tuple l items).iter prog w _ _ ⟨hp, g, d, tk, os⟩ _ ⟨_, hl, rfl, n, rfl⟩ q
    wp_walk using q1
    refine wpAny_stack_any fun st => wpAny_pure ?_
    split
    · rename_i c _ _ _ _ _
      cases (c == Value.type "enumerate")
      · wp_walk using q1
        exact ⟨_, rfl, h⟩
      · wp_walk using q1
        exact ⟨_, rfl, h⟩
    · wp_walk using q1
      exact ⟨_, rfl, h⟩
section
variable {prog : Program} {w : World} {A : Around} {E : Value → Shared → Prop} {s : Shared}
theorem call_enumerate_tuple {l : Addr} {items : Array Value} {Q : Value → Shared → Prop} (hL : s.heap.IsTuple l items)
    (h : ∀ h', IsEnum h' (s.heap.objs.size + 1) s.heap.objs.size 0 .none → h'.IsTupleIter s.heap.objs.size l 0 → h'.objs.size = s.heap.objs.size + 2 →
      (∀ b o, s.heap.get? b = some o → h'.get? b = some o) → Q (.ref (s.heap.objs.size + 1)) { s with heap := h' }) :
    wpAny (model prog w) A (call (.type "enumerate") [.ref l]) Q E s := by
  obtain ⟨⟨c, dct, dt, sl⟩, hl, hc, n, hd⟩ := hL
  replace hc : c = .type "tuple" := hc
  replace hd : dt = .seq items n := hd
  subst hc hd
  refine callType_new PySem.F.called_enumerate (by decide) (PySem.F.typeCall_enumerate_1 _) (PySem.F.newCall_enumerate_1 _) (fun obj => PySem.F.args_object_init_2 obj _) PySem.F.entry_enumerate_new
    (meets_enumerate_newT l items n dct sl) ⟨hl, ?_⟩
  have hz : (s.heap.push { cls := .type "tuple_iterator", data := .fields #[.ref l, .int 0 0] }).objs.size = s.heap.objs.size + 1 := Heap.size_push ..
  show _ ∧ _
  rw [hz]
  have he : IsEnum ((s.heap.push { cls := .type "tuple_iterator", data := .fields #[.ref l, .int 0 0] }).push
      { cls := .type "enumerate", data := .fields #[.none, .bool false, .ref s.heap.objs.size, rawInt 0, .none, .none] }) (s.heap.objs.size + 1) s.heap.objs.size 0 .none := by
    have q := Heap.get?_push_size (s.heap.push { cls := .type "tuple_iterator", data := .fields #[.ref l, .int 0 0] })
      (o := { cls := .type "enumerate", data := .fields #[.none, .bool false, .ref s.heap.objs.size, rawInt 0, .none, .none] }) rfl
    rw [hz] at q
    exact q
  exact ⟨⟨_, he, rfl⟩, h _ he ⟨_, Heap.get?_push_of_some _ (Heap.get?_push_size _ rfl), rfl, rfl⟩ (by rw [Heap.size_push, hz]) fun b o x => Heap.get?_push_of_some _ (Heap.get?_push_of_some _ x)⟩
end
/-- the items of the tuple at a, each in a new pair with its number -/
def ItEt (K : PySem.W.Frag) (a : Addr) : It :=
  ⟨fun i H => ∃ (xs : List V) (x : V), SqT K H a xs ∧ xs[i]? = some x, fun i H v H' => ∃ T x, v = .ref T ∧ H T = none ∧ H' = upd H T (.tup [.int (i : Nat), x]) ∧ ∀ xs, SqT K H a xs → xs[i]? = some x, fun i H => ∃ xs : List V, SqT K H a xs ∧ xs.length = i⟩
/-- the signs of a text -/
def ItEs (z : Str) : It :=
  ⟨fun i H => i < z.cps.size, fun i H v H' => ∃ T c, v = .ref T ∧ H T = none ∧ H' = upd H T (.tup [.int (i : Nat), .str ⟨#[c]⟩]) ∧ z.cps[i]? = some c, fun i H => z.cps.size = i⟩
theorem two_mem {b e it : Addr} (h : b ∈ [e, it]) : b = e ∨ b = it := by
  rcases List.mem_cons.mp h with q | q
  · exact .inl q
  · exact .inr (List.mem_singleton.mp q)
theorem turn_et {P : Program} {w : World} {K : PySem.W.Frag} {elts : List Expr} {kk : Nat} {tpos : Pos} (a e it : Addr) :
    Turn P w K (.Tuple elts kk tpos) (ItEt K a) [e, it] e (fun i h => (∃ old, IsEnum h e it ((i : Nat) : Int) old) ∧ h.IsTupleIter it a i ∧ e ≠ it) where
  mem := List.mem_cons_self
  obj := fun i h st b hb => by
    obtain ⟨⟨old, he⟩, ⟨o, ho, hc, hd⟩, _⟩ := st
    rcases two_mem hb with z | z
    · rw [z]; exact ⟨_, he, fun v q => nomatch q⟩
    · rw [z]; exact ⟨o, ho, fun v q => by rw [hd] at q; cases q⟩
  keep := fun i h h' st k => let ⟨⟨old, he⟩, hi, hne⟩ := st; ⟨⟨old, k e List.mem_cons_self _ he⟩, hi.at fun o q => k it (List.mem_cons_of_mem _ List.mem_cons_self) o q, hne⟩
  item := by
    intro X eP ew eK hc i pins s σ H E I hf st ⟨xs, x, hq, hx⟩
    subst eP ew eK
    obtain ⟨⟨old, he⟩, hit, hne⟩ := st
    obtain ⟨its, rv, p, hz⟩ := I.tuple hq
    have hil : i < its.toArray.size := by
      have := (List.getElem?_eq_some_iff.mp hx).1
      have := rv.length
      rw [List.size_toArray]
      omega
    have hel : e < s.heap.objs.size := Heap.lt_size he
    have hitl : it < s.heap.objs.size := by obtain ⟨_, q, _⟩ := hit; exact Heap.lt_size q
    have nei : a ≠ it := by
      rintro rfl
      obtain ⟨o1, e1, c1, _⟩ := p
      obtain ⟨o2, e2, c2, _⟩ := hit
      rw [e1] at e2
      cases e2
      rw [c1] at c2
      injection c2 with c3
      exact absurd c3 (by decide)
    have nee : a ≠ e := by
      rintro rfl
      obtain ⟨o1, e1, c1, _⟩ := p
      have e2 := he
      unfold IsEnum at e2
      rw [e1] at e2
      rw [Option.some.inj e2] at c1
      injection c1 with c3
      exact absurd c3 (by decide)
    refine wpAny_pyNext_enum_itemD (Draws.tuple (prog := X.prog) (w := X.w) (A := X.A.in1) (show X.A.in1.handled = none from I.ok.hd hc) it a nei its.toArray) he ⟨hit, p⟩ hil hne (fun z => (two_mem z).elim hne fun q => nee q.symm) fun u h' tk hu ho hst hT hsz hk => ?_
    refine ⟨_, rfl, wpAny_letOwnedTupleGo_enum (s := { s with heap := h', toks := tk + 1 }) ho fun h'' he' sb => ?_⟩
    have hT2 : h''.get? s.heap.objs.size = some { cls := .type "tuple", data := .seq #[.int i tk, u] } := (sb.2 _ (Nat.ne_of_gt hel)).trans hT
    obtain ⟨u', hu', ru⟩ := rv.get hx
    have eu : u' = u := by
      have q : its.toArray[i]? = some u := hu
      rw [List.getElem?_toArray, hu'] at q
      exact Option.some.inj q
    rw [eu] at ru
    have new : ObjOk X.prog X.w (upd H s.heap.objs.size (.tup [.int (i : Nat), x])) h'' s.heap.objs.size (.tup [.int (i : Nat), x]) :=
      ⟨by show 2 ≤ sizeLine; decide, [.int i tk, u], .cons ⟨_, rfl⟩ (.cons ru .nil), ⟨_, hT2, rfl, _, rfl⟩⟩
    have I1 : Inv X pins σ (upd H s.heap.objs.size (.tup [.int (i : Nat), x])) { s with heap := h'', toks := tk + 1 } :=
      I.turnedNew (ch := [e, it]) (fun b ob hb q => (sb.2 b (fun z => hb (by rw [z]; exact List.mem_cons_self))).trans (hk b ob (fun z => hb (by rw [z]; exact List.mem_cons_self)) (fun z => hb (by rw [z]; exact List.mem_cons_of_mem _ List.mem_cons_self)) q)) hf (Nat.le_refl _) new
    refine ⟨.ref s.heap.objs.size, _, I1, rfl, ⟨_, x, rfl, I.hok.fresh (Nat.le_refl _), rfl, fun ys hy => by rw [I.tuple_inj hy hq]; exact hx⟩, ⟨⟨u, ?_⟩, hst.1.at fun o q => (sb.2 it (Ne.symm hne)).trans q, hne⟩, fun b hb => ?_⟩
    · have e1 : ((i + 1 : Nat) : Int) = (i : Int) + 1 := by omega
      rw [e1]
      exact he'
    · have hb' : b < s.heap.objs.size := by
        rcases two_mem hb with z | z
        · rw [z]; exact hel
        · rw [z]; exact hitl
      rw [upd_ne (Nat.ne_of_lt hb')]
      exact (hf b hb).1
  done := by
    intro X eP ew eK hc i pins s σ H E I hf st ⟨xs, hq, hx⟩
    subst eP ew eK
    obtain ⟨⟨old, he⟩, hit, hne⟩ := st
    obtain ⟨its, rv, p, hz⟩ := I.tuple hq
    obtain ⟨g0, g1, g2, g3, g4, g5⟩ := hf it (List.mem_cons_of_mem _ List.mem_cons_self)
    have hl := rv.length
    have nei : a ≠ it := by
      rintro rfl
      obtain ⟨o1, e1, c1, _⟩ := p
      obtain ⟨o2, e2, c2, _⟩ := hit
      rw [e1] at e2
      cases e2
      rw [c1] at c2
      injection c2 with c3
      exact absurd c3 (by decide)
    have ei : i = its.toArray.size := by rw [List.size_toArray]; omega
    exact wpAny_pyNext_enum_endD (Draws.tuple (prog := X.prog) (w := X.w) (A := X.A.in1) (show X.A.in1.handled = none from I.ok.hd hc) it a nei its.toArray) he ⟨by rw [← ei]; exact hit, p⟩ fun h' eb => ⟨rfl, I.turned (t' := s.toks) (fun b o hb q => eb b o hb q) g0 g1 g3 g4 g5⟩
  self := fun A i s Q E st h => let ⟨⟨_, he⟩, _⟩ := st; wpAny_pyIter_enum he h
theorem turn_es {P : Program} {w : World} {K : PySem.W.Frag} {elts : List Expr} {kk : Nat} {tpos : Pos} (z : Str) (t : Tok) (e it : Addr) :
    Turn P w K (.Tuple elts kk tpos) (ItEs z) [e, it] e (fun i h => (∃ old, IsEnum h e it ((i : Nat) : Int) old) ∧ h.IsStrIter it (strIterType z) z t i ∧ e ≠ it) where
  mem := List.mem_cons_self
  obj := fun i h st b hb => by
    obtain ⟨⟨old, he⟩, ⟨o, ho, hc, hd⟩, _⟩ := st
    rcases two_mem hb with q | q
    · rw [q]; exact ⟨_, he, fun v q => nomatch q⟩
    · rw [q]; exact ⟨o, ho, fun v q => by rw [hd] at q; cases q⟩
  keep := fun i h h' st k => let ⟨⟨old, he⟩, ⟨o, ho, r⟩, hne⟩ := st; ⟨⟨old, k e List.mem_cons_self _ he⟩, ⟨o, k it (List.mem_cons_of_mem _ List.mem_cons_self) _ ho, r⟩, hne⟩
  item := by
    intro X eP ew eK hc i pins s σ H E I hf st hx
    subst eP ew eK
    have hil : i < z.cps.size := hx
    obtain ⟨⟨old, he⟩, hit, hne⟩ := st
    have hel : e < s.heap.objs.size := Heap.lt_size he
    have hitl : it < s.heap.objs.size := by obtain ⟨_, q, _⟩ := hit; exact Heap.lt_size q
    refine wpAny_pyNext_enum_itemD (Draws.text (prog := X.prog) (w := X.w) (A := X.A.in1) (show X.A.in1.handled = none from I.ok.hd hc) it z t) he hit hil hne (fun q => hne (List.mem_singleton.mp q)) fun u h' tk hu ho hst hT hsz hk => ?_
    refine ⟨_, rfl, wpAny_letOwnedTupleGo_enum (s := { s with heap := h', toks := tk + 1 }) ho fun h'' he' sb => ?_⟩
    have hT2 : h''.get? s.heap.objs.size = some { cls := .type "tuple", data := .seq #[.int i tk, u] } := (sb.2 _ (Nat.ne_of_gt hel)).trans hT
    obtain ⟨c, v, hu', eu⟩ := hu
    subst eu
    have new : ObjOk X.prog X.w (upd H s.heap.objs.size (.tup [.int (i : Nat), .str ⟨#[c]⟩])) h'' s.heap.objs.size (.tup [.int (i : Nat), .str ⟨#[c]⟩]) :=
      ⟨by show 2 ≤ sizeLine; decide, [.int i tk, .str ⟨#[c]⟩ v], .cons ⟨_, rfl⟩ (.cons ⟨_, rfl⟩ .nil), ⟨_, hT2, rfl, _, rfl⟩⟩
    have I1 : Inv X pins σ (upd H s.heap.objs.size (.tup [.int (i : Nat), .str ⟨#[c]⟩])) { s with heap := h'', toks := tk + 1 } :=
      I.turnedNew (ch := [e, it]) (fun b ob hb q => (sb.2 b (fun z => hb (by rw [z]; exact List.mem_cons_self))).trans (hk b ob (fun z => hb (by rw [z]; exact List.mem_cons_self)) (fun z => hb (by rw [z]; exact List.mem_cons_of_mem _ List.mem_cons_self)) q)) hf (Nat.le_refl _) new
    refine ⟨.ref s.heap.objs.size, _, I1, rfl, ⟨_, c, rfl, I.hok.fresh (Nat.le_refl _), rfl, hu'⟩, ⟨⟨.str ⟨#[c]⟩ v, ?_⟩, ?_, hne⟩, fun b hb => ?_⟩
    · have e1 : ((i + 1 : Nat) : Int) = (i : Int) + 1 := by omega
      rw [e1]
      exact he'
    · obtain ⟨o, ho2, r⟩ := hst
      exact ⟨o, (sb.2 it (Ne.symm hne)).trans ho2, r⟩
    · have hb' : b < s.heap.objs.size := by
        rcases two_mem hb with z | z
        · rw [z]; exact hel
        · rw [z]; exact hitl
      rw [upd_ne (Nat.ne_of_lt hb')]
      exact (hf b hb).1
  done := by
    intro X eP ew eK hc i pins s σ H E I hf st hx
    subst eP ew eK
    have ei : z.cps.size = i := hx
    obtain ⟨⟨old, he⟩, hit, hne⟩ := st
    obtain ⟨g0, g1, g2, g3, g4, g5⟩ := hf it (List.mem_cons_of_mem _ List.mem_cons_self)
    exact wpAny_pyNext_enum_endD (Draws.text (prog := X.prog) (w := X.w) (A := X.A.in1) (show X.A.in1.handled = none from I.ok.hd hc) it z t) he (by rw [ei]; exact hit) fun h' eb => ⟨rfl, I.turned (t' := s.toks) (fun b o hb q => eb b o hb q) g0 g1 g3 g4 g5⟩
  self := fun A i s Q E st h => let ⟨⟨_, he⟩, _⟩ := st; wpAny_pyIter_enum he h
def iEt (K : PySem.W.Frag) (ta : TA) : TI := fun σ H R => ta σ H fun vs H1 => ∃ a xs, vs = [.ref a] ∧ SqT K H1 a xs ∧ R (ItEt K a) H1
def iEs (ta : TA) : TI := fun σ H R => ta σ H fun vs H1 => ∃ z, vs = [.str z] ∧ R (ItEs z) H1
section
variable {X : Cx} {e : Expr} {ta : TA} {p pos tpos : Pos} {elts : List Expr} {kk : Nat}
theorem pi_enumT (hg : Gl X "enumerate") (hm : X.mg "enumerate" = none) (ha : PA X [e] ta) (hs : starEach [e] X.env = [(false, eval e X.env)] := by rfl) :
    PI X (.Tuple elts kk tpos) (.Call (.Name "enumerate" p) [e] [] pos) (iEt X.K ta) := by
  refine ⟨fun pins s σ H R I h => ?_⟩
  refine Call_ (ld_blt I hg hm boot_enumerate (PyProof.Rows.callWith_type1 (thn (ha.run pos pins s σ H _ I h) fun us s1 ⟨vs, H1, I1, r1, a, xs, ex, hq, q⟩ => ?_) hs rfl))
  subst ex
  obtain ⟨u, eu, rx⟩ := vals1 r1
  subst eu
  obtain rfl : u = Value.ref a := rx
  obtain ⟨its, rv, p', hz⟩ := I1.tuple hq
  refine call_enumerate_tuple p' fun h' he hit hsz hk => wpAny_pyIter_enum he ?_
  have I2 : Inv X pins σ H1 { s1 with heap := h' } := I1.kept (t' := s1.toks) hk
  refine ⟨s1.heap.objs.size + 1, [s1.heap.objs.size + 1, s1.heap.objs.size], _, _, H1, rfl, I2, turn_et a (s1.heap.objs.size + 1) s1.heap.objs.size, ⟨⟨.none, he⟩, hit, Nat.succ_ne_self _⟩, fun b hb => ?_, q⟩
  have hle : s1.heap.objs.size ≤ b := by
    rcases two_mem hb with z | z
    · rw [z]; exact Nat.le_add_right _ _
    · rw [z]; exact Nat.le_refl _
  exact I1.fpOk hle (I1.hok.fresh hle)
theorem pi_enumS (hg : Gl X "enumerate") (hm : X.mg "enumerate" = none) (ha : PA X [e] ta) (hs : starEach [e] X.env = [(false, eval e X.env)] := by rfl) :
    PI X (.Tuple elts kk tpos) (.Call (.Name "enumerate" p) [e] [] pos) (iEs ta) := by
  refine ⟨fun pins s σ H R I h => ?_⟩
  refine Call_ (ld_blt I hg hm boot_enumerate (PyProof.Rows.callWith_type1 (thn (ha.run pos pins s σ H _ I h) fun us s1 ⟨vs, H1, I1, r1, z, ex, q⟩ => ?_) hs rfl))
  subst ex
  obtain ⟨u, eu, rx⟩ := vals1 r1
  subst eu
  obtain ⟨t, rfl⟩ := (show ∃ t, u = Value.str z t from rx)
  refine call_enumerate_str fun h' he hit hsz hk => wpAny_pyIter_enum he ?_
  have I2 : Inv X pins σ H1 { s1 with heap := h' } := I1.kept (t' := s1.toks) hk
  refine ⟨s1.heap.objs.size + 1, [s1.heap.objs.size + 1, s1.heap.objs.size], _, _, H1, rfl, I2, turn_es z t (s1.heap.objs.size + 1) s1.heap.objs.size, ⟨⟨.none, he⟩, hit, Nat.succ_ne_self _⟩, fun b hb => ?_, q⟩
  have hle : s1.heap.objs.size ≤ b := by
    rcases two_mem hb with z | z
    · rw [z]; exact Nat.le_add_right _ _
    · rw [z]; exact Nat.le_refl _
  exact I1.fpOk hle (I1.hok.fresh hle)
end
theorem walk_et {K : PySem.W.Frag} {a : Addr} {xs : List V} : Walk (ItEt K a) xs.length (fun H => SqT K H a xs) (YPair (fun i => some (.int (i : Nat))) (fun i => xs[i]?)) := by
  refine ⟨fun i _ hi q => ⟨xs, xs[i], q, List.getElem?_eq_getElem hi⟩, fun _ q => ⟨xs, q, rfl⟩, fun i H v H' _ q y => ?_⟩
  obtain ⟨T, x, h1, h2, h3, h4⟩ := y
  exact ⟨T, .int (i : Nat), x, h1, h2, h3, rfl, h4 xs q⟩
theorem walk_es {z : Str} : Walk (ItEs z) z.cps.size (fun _ => True) (fun i H v H' => ∃ T c, v = .ref T ∧ H T = none ∧ H' = upd H T (.tup [.int (i : Nat), .str ⟨#[c]⟩]) ∧ z.cps[i]? = some c) :=
  ⟨fun _ _ hi _ => hi, fun _ _ => rfl, fun _ _ _ _ _ _ y => y⟩
theorem walk_zipT {K : PySem.W.Frag} {a b : Addr} {xs ys : List V} {n : Nat} (hn : n = min xs.length ys.length) : Walk (RZ.ItzT K a b) n (fun H => SqT K H a xs ∧ SqT K H b ys) (YPair (fun i => xs[i]?) (fun i => ys[i]?)) := by
  subst hn
  refine ⟨fun i _ hi q => ?_, fun _ q => ⟨xs, ys, q.1, q.2, by omega⟩, fun i H v H' _ q y => ?_⟩
  · have h1 : i < xs.length := by omega
    have h2 : i < ys.length := by omega
    exact ⟨xs, ys, xs[i], ys[i], q.1, q.2, List.getElem?_eq_getElem h1, List.getElem?_eq_getElem h2⟩
  · obtain ⟨T, x, z, h1, h2, h3, h4, h5⟩ := y
    exact ⟨T, x, z, h1, h2, h3, h4 xs q.1, h5 ys q.2⟩
end TE

set_option Elab.async false
set_option linter.all false
set_option maxRecDepth 100000
set_option maxHeartbeats 4000000
/-! Lots as data, sorted by (length, lot). -/
namespace TE
open PySem PySem.Spec PyProof.Rows L2
def lotD (l : List Nat) : PyData := .tuple (l.map fun n => .int (n : Nat))
def lotKey (l : List Nat) : PyData := .tuple [.int (l.length : Nat), lotD l]
def sortLots (ls : List (List Nat)) : List (List Nat) := ls.mergeSort (PySem.W.dataLe false lotKey)
theorem sortLots_perm (ls : List (List Nat)) : (sortLots ls).Perm ls := List.mergeSort_perm _ _
mutual
/-- data as the library reads it -/
theorem dp_reads {X : Cx} {pins : List (Addr × Obj)} {σ : L2.St} {H : Hp} {s : Shared} (I : Inv X pins σ H s) : ∀ (d : PyData) (v : V) (u : Value), Dp X.K H v d → flt d = true → RelV v u → Reads s.heap u d []
  | .none, _, _, h, _, r => by cases h; cases r; exact .none
  | .bool b, _, _, h, _, r => by cases h; cases r; exact .bool b
  | .int i, _, _, h, _, r => by cases h; obtain ⟨t, rfl⟩ := r; exact .int i t
  | .str x, _, _, h, _, r => by cases h; obtain ⟨t, rfl⟩ := r; exact .str x t
  | .list _, _, _, _, f, _ => by cases f
  | .dict _, _, _, _, f, _ => by cases f
  | .tuple ds, _, _, h, f, r => by
    cases h with
    | tup hs ha =>
      cases r
      obtain ⟨its, rv, ⟨o, ho, hc, n, hd⟩, _⟩ := I.tuple hs
      exact .tuple ho hc hd (by simpa using dp_readsAll I ds _ its ha f rv)
theorem dp_readsAll {X : Cx} {pins : List (Addr × Obj)} {σ : L2.St} {H : Hp} {s : Shared} (I : Inv X pins σ H s) : ∀ (ds : List PyData) (vs : List V) (us : List Value), DpAll X.K H vs ds → flts ds = true → Vals vs us → ReadsAll s.heap us ds []
  | [], _, _, h, _, r => by cases h; cases r; exact .nil
  | d :: ds, _, _, h, f, r => by
    have f' : flt d = true ∧ flts ds = true := Bool.and_eq_true_iff.mp f
    cases h with
    | cons h1 h2 =>
      cases r with
      | cons r1 r2 => exact .cons (as := []) (bs := []) (dp_reads I d _ _ h1 f'.1 r1) (dp_readsAll I ds _ _ h2 f'.2 r2)
end
theorem flt_ints (l : List Nat) : flts (l.map fun n => PyData.int (n : Nat)) = true := by
  induction l with
  | nil => rfl
  | cons a l ih => exact Bool.and_eq_true_iff.mpr ⟨rfl, ih⟩
theorem flt_lot (l : List Nat) : flt (lotD l) = true := flt_ints l
/-- the lambda called -/
theorem lam_turn {P : Program} {w : World} {A : Around} {s : Shared} {f t c' : Addr} {name qual : Str} {params : Arguments} {scope : Scope} {pm ctv : Value} {p1 p2 p3 p4 p5 : Pos} {k : Nat} {its : Array Value} {l : List Nat} {mg mb : Str → Option Value}
    (ho : s.heap.get? f = some (PySem.W.kla_obj name qual params (.Tuple [.Call (.Name "len" p1) [.Name "lot" p2] [] p3, .Name "lot" p4] k p5) scope [] pm c' ctv))
    (hcd : s.heap.CodeRec (.ref c') qual) (lim : s.heap.NoLimit) (hroom : A.depth < recursionLimit) (hg : s.heap.Ns mainGlobals mg) (hb : s.heap.Ns builtinsNs mb) (hm : mg "len" = none) (hv : mb "len" = some (.builtin "len"))
    (hbind : bindArgs (PySem.W.kla_fn name qual params (.Tuple [.Call (.Name "len" p1) [.Name "lot" p2] [] p3, .Name "lot" p4] k p5) scope [] pm (.ref c') ctv) ⟨[.ref t], []⟩ = pure [(("lot" : Str), Value.ref t)])
    (hs : scope.names.lookup ("lot" : Str) = some .local) (hs2 : scope.names.lookup ("len" : Str) = some .globalImplicit) (hcell : ∀ x ∈ scope.names, x.2 ≠ .cell) (hk : scope.kind = .function) (hco : scope.isCoroutine = false) (hgen : scope.isGenerator = false)
    (ht : IsTup s.heap t its) (hz : its.size ≤ sizeLine) (hl : its.size = l.length) (rd : ∀ h : Heap, (∀ b o, s.heap.get? b = some o → h.get? b = some o) → Reads h (.ref t) (lotD l) []) :
    wpAny (model P w) A (call (.ref f) [.ref t]) (PySem.W.KeyPure (lotKey l) s) (fun _ _ => False) s := by
  have hz2 : (its.size : Int) < 2 ^ 63 := by
    have := sizeLine_eq
    omega
  refine wpAny_call ?_
  refine PySem.W.kla_callFunE hroom ho rfl hco hgen rfl hcd ?_
  rw [hbind]
  refine wpAny_pure (wpAny_newFunctionEnv hcell (fun y hy => ?_) (fun h₁ hns hsb => ⟨lim.fresh _ hsb, ?_⟩) hk)
  · rw [List.mem_singleton.mp hy]
    exact hs
  have kp : ∀ b o, s.heap.get? b = some o → h₁.get? b = some o := fun b o e => hsb.extBut b o (Nat.ne_of_lt (Heap.lt_size e)) (Heap.get?_push_of_some _ e)
  show codeAny _ _ (.expr _ (PySem.W.envX qual scope s.heap.objs.size f (.ref c') [])) _ _
  refine PySem.W.kla_codeExpr ?_
  generalize hE : PySem.W.envX qual scope s.heap.objs.size f (.ref c') [] = env
  have ek : env.scope.kind = .function := by rw [← hE]; exact hk
  have el : env.kindOf "lot" = some .local := by rw [← hE]; exact hs
  have el2 : env.kindOf "len" = some .globalImplicit := by rw [← hE]; exact hs2
  have eg : env.globals = mainGlobals := by rw [← hE]
  have eb : env.builtins = builtinsNs := by rw [← hE]
  have elo : env.locals = s.heap.objs.size := by rw [← hE]
  have kp2 : ∀ b o, s.heap.get? b = some o → (h₁.push { cls := .type "tuple", data := .seq #[.int its.size (s.toks + 1 + 1), .ref t] }).get? b = some o := fun b o e => Heap.get?_push_of_some _ (kp b o e)
  refine wpAny_Tuple (args_cons (Call_ (Calls.Name_function_global ek el2 (Calls.loadGlobal_builtin (by rw [eg]; exact hg.keeps kp) hm (by rw [eb]; exact hb.keeps kp) hv ?_))) rfl)
  refine PyProof.Rows.callWith_builtin1 (args_cons (wpAny_Name (wpAny_loadName_local ek el (by rw [elo]; exact hns) rfl ?_)) rfl) rfl rfl
  refine args_nil ?_
  have ht1 : IsTup h₁ t its := ht.keeps kp
  refine len_tuple ht1 hz2 ?_
  refine args_cons (wpAny_Name (wpAny_loadName_local ek el (by rw [elo]; exact hns) rfl ?_)) rfl
  refine args_nil ⟨by show 2 ≤ sizeLine; decide, ?_⟩
  refine ⟨_, _, rfl, kp2, ?_⟩
  refine .tuple (Heap.get?_push_size _ rfl) rfl rfl ?_
  rw [hl]
  exact .cons (as := []) (bs := []) (.int _ _) (.cons (as := []) (bs := []) (rd _ fun b o e => Heap.get?_push_of_some _ (kp b o e)) .nil)
def lotsD (ls : List (List Nat)) : PyData := .list (ls.map lotD)
def tSrt (K : PySem.W.Frag) (T : List (Addr × Str)) (te : L2.TE) : L2.TE := fun σ H Q => te σ H fun x H1 => ∃ lots, Dp K H1 x (lotsD lots) ∧ lots.length ≤ sizeLine ∧ LamX.Tabs T H1 ∧
  ∀ H2 p, LamX.ExtN H1 H2 → LamX.Tabs T H2 → (∃ vs, H2 p = some (.lst vs) ∧ DpAll K H2 vs ((sortLots lots).map lotD)) → Q (.ref p) H2
theorem lotKey_depth (l : List Nat) : (lotKey l).depth ≤ 3 := by
  have h : ∀ l : List Nat, PyData.depthAll (l.map fun n => PyData.int (n : Nat)) ≤ 1 := fun l => by
    induction l with
    | nil => simp [PyData.depthAll]
    | cons a l ih => simp [PyData.depthAll, PyData.depth] at ih ⊢ <;> omega
  have := h l
  simp only [lotKey, lotD, PyData.depth, PyData.depthAll] at *
  omega
theorem alike_lot : ∀ a b : List Nat, PySem.W.alikeAll (a.map fun n => PyData.int (n : Nat)) (b.map fun n => PyData.int (n : Nat)) = true
  | [], _ => by simp [PySem.W.alikeAll]
  | _ :: _, [] => by simp [PySem.W.alikeAll]
  | x :: a, y :: b => by
    simp only [List.map_cons, PySem.W.alikeAll, PySem.W.alike, Bool.true_and]
    exact alike_lot a b
theorem ExtN.tup {K : PySem.W.Frag} {H H' : Hp} {a : Addr} {xs : List V} (e : LamX.ExtN H H') (h : SqT K H a xs) : SqT K H' a xs := by
  rcases h with (h | ⟨o, h⟩) | h
  · exact .inl (.inl (e _ _ h fun _ z => nomatch z))
  · exact .inl (.inr ⟨o, e _ _ h fun _ z => nomatch z⟩)
  · exact .inr h
theorem ExtN.lst {K : PySem.W.Frag} {H H' : Hp} {a : Addr} {xs : List V} (e : LamX.ExtN H H') (h : SqL K H a xs) : SqL K H' a xs := by
  rcases h with (h | ⟨o, h⟩) | h
  · exact .inl (.inl (e _ _ h fun _ z => nomatch z))
  · exact .inl (.inr ⟨o, e _ _ h fun _ z => nomatch z⟩)
  · exact .inr h
theorem ExtN.dp {K : PySem.W.Frag} {H H' : Hp} {v : V} {d : PyData} (e : LamX.ExtN H H') (h : Dp K H v d) : Dp K H' v d := dp_at (fun _ _ q => ExtN.tup e q) (fun _ _ q => ExtN.lst e q) d v h
theorem ExtN.dpAll {K : PySem.W.Frag} {H H' : Hp} {v : List V} {d : List PyData} (e : LamX.ExtN H H') (h : DpAll K H v d) : DpAll K H' v d := dpAll_at (fun _ _ q => ExtN.tup e q) (fun _ _ q => ExtN.lst e q) d v h
/-- the items of a list of lots, by their values -/
def LotV (K : PySem.W.Frag) (H : Hp) (u : Value) (l : List Nat) : Prop := ∃ t : Addr, u = .ref t ∧ Dp K H (.ref t) (lotD l)
theorem lots_each {K : PySem.W.Frag} {H : Hp} : ∀ {vs : List V} {us : List Value} {lots : List (List Nat)}, DpAll K H vs (lots.map lotD) → Vals vs us → PySem.W.EachIs (LotV K H) us lots
  | _, _, [], h, r => by
    cases h
    cases r
    exact .nil
  | _, _, l :: lots, h, r => by
    cases h with
    | cons h1 h2 =>
      cases r with
      | cons r1 r2 =>
        cases id h1 with
        | tup hs ha =>
          rename_i a xs
          obtain rfl : _ = Value.ref a := r1
          exact .cons ⟨a, rfl, h1⟩ (lots_each h2 r2)
theorem each_lots {K : PySem.W.Frag} {H : Hp} : ∀ {us : List Value} {lots : List (List Nat)}, PySem.W.EachIs (LotV K H) us lots → ∃ vs, Vals vs us ∧ DpAll K H vs (lots.map lotD)
  | _, _, .nil => ⟨[], .nil, .nil⟩
  | _, _, .cons ⟨t, e, h⟩ r => by
    obtain ⟨vs, h1, h2⟩ := each_lots r
    subst e
    exact ⟨.ref t :: vs, .cons rfl h1, .cons h h2⟩
theorem pe_sortLots {X : Cx} {e : Expr} {te : L2.TE} {T : List (Addr × Str)} {c P : Addr} {params : Arguments} {scope : Scope} {q1 p1 p2 p3 p4 p5 lp kp pos : Pos} {k : Nat} (hr : Room 3 X.A) (TB : LamX.TabB X.base X.mg c P) (hcode : X.env.code = .ref c)
    (hm : (P, X.env.qual ++ "<lambda>") ∈ T) (hu : ∀ p ∈ T, p.1 = P → p.2 = X.env.qual ++ "<lambda>") (hg : Gl X "sorted") (hms : X.mg "sorted" = none) (hml : X.mg "len" = none)
    (hdef : defaultsOf params X.env = ([], []))
    (hbind : ∀ (q : Str) (t c' : Addr) (pm ctv : Value), bindArgs (PySem.W.kla_fn "<lambda>" q params (.Tuple [.Call (.Name "len" p1) [.Name "lot" p2] [] p3, .Name "lot" p4] k p5) scope [] pm (.ref c') ctv) ⟨[.ref t], []⟩ = pure [(("lot" : Str), Value.ref t)])
    (hcl : cloFrom X.env.cells scope.names [] = []) (hfree : ∀ y ∈ scope.names, y.2 ≠ .free)
    (hs : scope.names.lookup ("lot" : Str) = some .local) (hs2 : scope.names.lookup ("len" : Str) = some .globalImplicit) (hcell : ∀ x ∈ scope.names, x.2 ≠ .cell) (hk : scope.kind = .function) (hco : scope.isCoroutine = false) (hgen : scope.isGenerator = false)
    (he : PE X e te)
    (a0 : starEach [e] X.env = (false, eval e X.env) :: starEach [] X.env := by rfl) (a1 : backTo pos (starEach [e] X.env) = (false, eval e X.env) :: backTo pos (starEach [] X.env) := by rfl) (a2 : (backTo pos (starEach [e] X.env)).any (·.1) = false := by rfl)
    (a3 : (backToKw pos (keywordEach [⟨some "key", .Lambda params (.Tuple [.Call (.Name "len" p1) [.Name "lot" p2] [] p3, .Name "lot" p4] k p5) scope lp, kp⟩] X.env)).all (·.1.isSome) = true := by rfl)
    (a4 : (backToKw pos (keywordEach [⟨some "key", .Lambda params (.Tuple [.Call (.Name "len" p1) [.Name "lot" p2] [] p3, .Name "lot" p4] k p5) scope lp, kp⟩] X.env)).any (·.1.isNone) = false := by rfl)
    (a5 : (backToKw pos (keywordEach [⟨some "key", .Lambda params (.Tuple [.Call (.Name "len" p1) [.Name "lot" p2] [] p3, .Name "lot" p4] k p5) scope lp, kp⟩] X.env)).filterMap (·.1) = [Str.ofString "key"] := by rfl) :
    PE X (.Call (.Name "sorted" q1) [e] [⟨some "key", .Lambda params (.Tuple [.Call (.Name "len" p1) [.Name "lot" p2] [] p3, .Name "lot" p4] k p5) scope lp, kp⟩] pos) (tSrt X.K T te) := by
  refine ⟨fun pins s σ H Q I h => ?_⟩
  refine wpAny_Call_Name_kw (ld_blt I hg hms boot_sorted ?_)
  refine PyProof.Rows.callWith_kw (args_cons (thn (he.run pins s σ H _ I h) fun u s1 ⟨x, H1, I1, rx, lots, hd, hlen, hT, q⟩ => args_nil ?_) a0) a1 a2 a3 a4
  show wpAny _ _ (evalAll ((do let v ← eval (.Lambda params _ scope lp) X.env; standAt pos; pure v) :: [])) _ _ s1
  refine wpAny_evalAll_cons (wpAny_bind ?_)
  refine LamX.lam_make2 I1 TB hcode hm hu hT hdef (fun y hy z => absurd z (hfree y hy)) fun f c' pm ctv H2 s2 I2 ext T2 ho hn hfr hco' => ?_
  refine wpAny_bind (wpAny_standAt (wpAny_pure (wpAny_evalAll_nil ?_)))
  rw [a5]
  rw [hcl] at ho
  have hd2 := ExtN.dp ext hd
  cases hd2 with
  | lst hsq hall =>
    rename_i a vs
    obtain rfl : u = Value.ref a := rx
    obtain ⟨its, rv, pl, hz⟩ := I2.list hsq
    have hez : PySem.W.EachIs (LotV X.K H2) its lots := lots_each hall rv
    obtain ⟨mb, b1, b2⟩ := I2.mod.blt
    obtain ⟨⟨oc, fs, tt, hoc, hdc, hvc⟩, _, _⟩ := I2.hok c' _ hco'
    show wpAny _ _ (call (.builtin "sorted") [.ref a] [(Str.ofString "key", .ref f)]) _ _ s2
    refine PySem.W.sorted_key_data (b := false) lotKey pl.isList hez (PySem.W.AllAlike.of fun b b' => ?_) (PySem.W.Sortable.tuples fun _ => ⟨_, _, rfl⟩) hlen (fun l _ => ?_) (ksk_s1 _ _) (fun _ => ksk_l1 _ _) (fun _ => PyProof.Rows.ksk_t1 _ _)
      (fun v l hR _ h' tk kk => ?_) fun out cc h' tk kk hf0 hob hol hEo => ?_
    · show (true && (PySem.W.alike (lotD b) (lotD b') && true)) = true
      rw [Bool.true_and, Bool.and_true]
      exact alike_lot b b'
    · have h1 := lotKey_depth l
      have h2 := hr.un
      omega
    · obtain ⟨t, rfl, hdt⟩ := hR
      have I3 : Inv X pins σ H2 { s2 with heap := h', toks := tk } := I2.kept (t' := tk) kk
      cases id hdt with
      | tup hst hat =>
        rename_i zs
        obtain ⟨its2, rv2, p2, hz2⟩ := I3.tuple hst
        have hl2 : its2.length = l.length := by
          have e1 := rv2.length
          have e2 : ∀ {zs : List V} {ds : List PyData}, DpAll X.K H2 zs ds → zs.length = ds.length := by
            intro zs ds hh
            induction ds generalizing zs with
            | nil => cases hh; rfl
            | cons d ds ih =>
              cases hh with
              | cons _ h2 => rw [List.length_cons, List.length_cons, ih h2]
          have e3 := e2 hat
          rw [List.length_map] at e3
          omega
        refine lam_turn (mb := mb) (mg := X.mg) (kk _ _ ho) ⟨c', oc, fs, tt, rfl, kk _ _ hoc, hdc, hvc⟩ I3.nolimit ?_ (I3.mod.glob.keeps I3.bk) (b1.keeps I3.bk) hml ((b2 "len" (by decide)).trans boot_len) (hbind _ _ _ _ _) hs hs2 hcell hk hco hgen p2 ?_ ?_ ?_
        · have h1 := hr.dp
          show X.A.depth < _
          omega
        · rw [List.size_toArray, ← rv2.length]
          exact hz2
        · rw [List.size_toArray]
          exact hl2
        · intro h2 k2
          have I4 : Inv X pins σ H2 { s2 with heap := h2, toks := tk } := I3.kept (t' := tk) k2
          exact dp_reads I4 _ _ _ hdt (flt_lot l) rfl
    · obtain ⟨vs2, r2, d2⟩ := each_lots hEo
      have hn2 : H2 (s2.heap.objs.size + 1) = none := I2.hok.fresh (Nat.le_succ _)
      have hl3 : vs2.length ≤ sizeLine := by
        have e1 := r2.length
        omega
      have sm : Same H2 (upd H2 (s2.heap.objs.size + 1) (.lst vs2)) := same_new hn2
      refine ⟨.ref (s2.heap.objs.size + 1), upd H2 (s2.heap.objs.size + 1) (.lst vs2), I2.laid (t' := tk) kk (Nat.le_succ _) ⟨hl3, out, cc, r2, hob⟩, rfl, q _ _ (fun b o e n => sm _ _ (ext b o e n)) (T2.ext fun b o e => sm _ _ e) ⟨vs2, upd_same, Same.dpAll sm d2⟩⟩
end TE

set_option Elab.async false
set_option linter.all false
set_option maxRecDepth 100000
set_option maxHeartbeats 4000000
/-! set(xs) of a list of ints, ready to be sorted. -/
namespace TE
open PySem PySem.Spec PyProof.Rows L2
abbrev emptySet (w : World) : Obj := { cls := .type "set", dict := none, data := .set #[] 0 (.fresh 0 0 (!w.params.followText "set-order")) }
section
variable {P : Program} {w : World} {A : Around} {E : Value → Shared → Prop} {s : Shared}
/-- what is left behind set.__init__ -/
def Filled (w : World) (s : Shared) (ns : List Int) (s2 : Shared) : Prop := ∃ h tk c, s2 = { s with heap := h, toks := tk } ∧ SetR w h s.heap.objs.size (fun j => decide (j ∈ ns)) c ∧ c ≤ ns.length ∧ ∀ b o, s.heap.get? b = some o → h.get? b = some o
set_option maxHeartbeats 8000000 in
theorem set_of_list {l : Addr} {xs : Array Value} {ns : List Int} {Q : Value → Shared → Prop} (hh : A.handled = none) (hl : s.heap.IsList l xs) (hi : IntsAre xs.toList ns) (hb : ns.length + 1 < scanBound) (q : ∀ s2, Filled w s ns s2 → Q (.ref s.heap.objs.size) s2) :
    wpAny (model P w) A (call (.type "set") [.ref l]) Q E s := by
  have sz : xs.size = ns.length := (Array.length_toList ..).symm.trans hi.length
  obtain ⟨c0, tl, hmro⟩ := F.called_set.mro
  have z1 := F.called_set.made
  have z2 := F.called_set.sub
  have z3 := F.called_set.notType
  have z4 := F.called_set.canCreate
  have z5 := F.typeCall_set_1 (.ref l)
  apply wpAny_call
  apply codeAny_of_tree
  show wpAny _ _ (callAny (.type "set") _) _ _ _
  refine wpAny_pure ⟨Code.quiet_builtin _ (by decide +kernel), codeAny_builtin F.entry_type_call ?_⟩
  rw [Around.under_plain (weight_type_call_type "set" [.ref l] []) rfl]
  repeat (any_goals (first | assumption | wp_step))
  refine codeAny_mono (code_set_led1 (.ref l) (E := E) (Q₁ := fun v s1 => v = .ref s.heap.objs.size ∧ s1 = { s with heap := s.heap.push (emptySet w) }) ⟨rfl, rfl⟩) fun r s1 hr => ?_
  match r, hr with
  | .error e, hr => exact hr
  | .ok .next, hr => exact hr.elim
  | .ok .brk, hr => exact hr.elim
  | .ok .cont, hr => exact hr.elim
  | .ok (.ret v), hr =>
    obtain ⟨rfl, rfl⟩ := hr
    have at0 : (s.heap.push (emptySet w)).get? s.heap.objs.size = some (emptySet w) := Heap.get?_push_size _ rfl
    have ty0 : Shared.TypeIs { s with heap := s.heap.push (emptySet w) } (.ref s.heap.objs.size) "set" := ⟨_, at0, rfl⟩
    have z6 := F.called_set.init.lookup
    have z7 := F.called_set.init.bind (.ref s.heap.objs.size)
    repeat (any_goals (first | assumption | wp_step))
    refine codeAny_mono (codeAny_call_builtin (R := wants (fun v s2 => v = .none ∧ Filled w s ns s2) E) F.called_set.init.plain F.entry_set_init (check_set_init_1 ty0 ?_)) fun r2 s2 hr2 => ?_
    · obtain ⟨⟨lc, ld, lD, lsl⟩, ho, e1, n, e2⟩ := hl
      obtain rfl : lc = _ := e1
      obtain rfl : lD = _ := e2
      have ho2 : (s.heap.push (emptySet w)).get? l = some { cls := .type "list", dict := ld, data := .seq xs n, slots := lsl } := Heap.get?_push_of_some _ ho
      have y1 := F.sub_list_set
      have y2 := F.sub_list_frozenset
      have y3 : (Value.type "list" == Value.type "dict") = false := by decide
      have il : (s.heap.push (emptySet w)).IsList l xs := ⟨_, ho2, rfl, n, rfl⟩
      have llt : l < s.heap.objs.size := Heap.lt_size ho
      have zz : (s.heap.push (emptySet w)).objs.size = s.heap.objs.size + 1 := Heap.size_push ..
      have n1 : l ≠ (s.heap.push (emptySet w)).objs.size := fun z => Nat.ne_of_lt (Nat.lt_succ_of_lt llt) (z.trans zz)
      have n2 : s.heap.objs.size ∉ [(s.heap.push (emptySet w)).objs.size, l] := fun z => by
        rcases List.mem_cons.mp z with z | z
        · exact Nat.ne_of_lt (Nat.lt_succ_self _) (z.trans zz)
        · exact Nat.ne_of_gt llt (List.mem_singleton.mp z)
      unfold Builtin.«set.__init__» noKeywords Builtin.Frozenset.updateFrom
      generalize hPI : pyIter = PI
      wp_walk
      subst hPI
      refine wpAny_pyIter_list il (wpAny_bind (wpAny_runValue ?_))
      refine set_update_ints ((Walks.list (by simp [hh]) _ l n1 xs).toS) s.heap.objs.size n2 ns sz hb (fun i v hv => ?_) (xs.size - 0) 0 _ (by omega) (Nat.zero_le _) ⟨⟨_, Heap.get?_push_size _ rfl, rfl, rfl⟩, il.push _⟩ ⟨0, Nat.le_refl 0, setR_new_at (Heap.get?_push_of_some _ at0)⟩ fun s3 c hm hc hS => ?_
      · have hlt : i < ns.length := by rw [← sz]; exact (Array.getElem?_eq_some_iff.mp hv).1
        obtain ⟨t, e⟩ := hi.int_at i v (by rw [Array.getElem?_toList]; exact hv)
        refine ⟨ns[i], t, List.getElem?_eq_getElem hlt, ?_⟩
        rw [e, List.getD_eq_getElem?_getD, List.getElem?_eq_getElem hlt]
        rfl
      · obtain ⟨h3, g3, d3, t3, o3⟩ := s3
        obtain rfl : g3 = s.gens := hm.gens
        obtain rfl : d3 = s.drawn := hm.drawn
        obtain rfl : o3 = s.os := hm.os
        show wpAny _ _ _ _ _ _
        refine wpAny_pure ?_
        show wpAny _ _ (ret Value.none) _ _ _
        refine wpAny_pure ⟨rfl, h3, t3, c, rfl, hS, by omega, fun b o e => ?_⟩
        have hb0 : b < s.heap.objs.size := Heap.lt_size e
        refine hm.heap b o (fun z => ?_) (Heap.get?_push_of_some _ (Heap.get?_push_of_some _ e))
        rcases List.mem_cons.mp z with z | z
        · exact Nat.ne_of_lt hb0 z
        · exact Nat.ne_of_lt (Nat.lt_succ_of_lt hb0) ((List.mem_singleton.mp z).trans zz)
    · match r2, hr2 with
      | .error e, hr2 => exact hr2
      | .ok .next, hr2 => exact hr2.elim
      | .ok .brk, hr2 => exact hr2.elim
      | .ok .cont, hr2 => exact hr2.elim
      | .ok (.ret v2), hr2 =>
        obtain ⟨rfl, hF⟩ := hr2
        repeat (any_goals (first | assumption | wp_step))
        exact q _ hF
end
/-- set(xs) -/
def rSetL (K : PySem.W.Frag) (w : World) : List V → Hp → VK → Prop := fun vs H Q => ∃ (a : Addr) (ns : List Int), vs = [.ref a] ∧ SqL K H a (ns.map V.int) ∧ ns.length < 60 ∧
  ∀ p c, H p = none → c ≤ ns.length → Q (.ref p) (upd H p (SetO w p (fun j => decide (j ∈ ns)) c))
theorem call_setL {X : Cx} (hc : X.calm = true) : CallR X (.type "set") (rSetL X.K X.w) := by
  intro pins s σ H vs us Q I r h
  obtain ⟨a, ns, rfl, hs, hl, q⟩ := h
  rw [Vals.ref1 r]
  obtain ⟨its, rv, pl, hz⟩ := I.list hs
  refine set_of_list (ns := ns) (I.ok.hd hc) pl.isList (by simpa using rv.ints) (by unfold scanBound; omega) fun s2 ⟨h2, tk, c, e, R, hc2, kp⟩ => ?_
  subst e
  exact ⟨.ref s.heap.objs.size, upd H s.heap.objs.size (SetO X.w s.heap.objs.size (fun j => decide (j ∈ ns)) c), I.laid (t' := tk) kp (Nat.le_refl _) (setO_new R), rfl, q _ c (I.hok.fresh (Nat.le_refl _)) hc2⟩
end TE

set_option Elab.async false
set_option linter.all false
set_option maxRecDepth 100000
set_option maxHeartbeats 4000000
/-! The program's data. -/
namespace TE
open PySem PySem.Spec PyProof.Rows L2 TM
def sgC : Sg → Nat
  | .a => 97
  | .n => 110
  | .r => 114
def txS (t : Tx) : Str := ⟨(t.map sgC).toArray⟩
abbrev sgS (s : Sg) : Str := txS [s]
theorem sgC_inj {x y : Sg} (h : sgC x = sgC y) : x = y := by
  revert h
  cases x <;> cases y <;> decide
theorem map_inj {α β : Type} {f : α → β} (h : ∀ x y, f x = f y → x = y) : ∀ {l m : List α}, l.map f = m.map f → l = m
  | [], [], _ => rfl
  | [], _ :: _, e => by cases e
  | _ :: _, [], e => by cases e
  | x :: l, y :: m, e => by
    rw [List.map_cons, List.map_cons] at e
    injection e with e1 e2
    rw [h _ _ e1, map_inj h e2]
theorem txS_inj {x y : Tx} (h : txS x = txS y) : x = y := by
  have e : (x.map sgC).toArray = (y.map sgC).toArray := congrArg Str.cps h
  exact map_inj (fun _ _ => sgC_inj) (by simpa using congrArg Array.toList e)
theorem txS_app (x y : Tx) : txS x ++ txS y = txS (x ++ y) := by
  show Str.append _ _ = _
  unfold Str.append txS
  rw [List.map_append]
  simp
theorem txS_len (x : Tx) : (txS x).length = x.length := by
  show (x.map sgC).toArray.size = _
  rw [List.size_toArray, List.length_map]
theorem txS_nil : txS [] = ("" : Str) := by decide +kernel
theorem txS_a : txS [.a] = ("a" : Str) := by decide +kernel
theorem txS_n : txS [.n] = ("n" : Str) := by decide +kernel
theorem txS_r : txS [.r] = ("r" : Str) := by decide +kernel
theorem txS_rn : txS [.r, .n] = ("rn" : Str) := by decide +kernel
theorem txS_anr : txS [.a, .n, .r] = ("anr" : Str) := by decide +kernel
theorem tx_eq (x y : Tx) : decide (V.str (txS x) = V.str (txS y)) = decide (x = y) := by
  by_cases h : x = y
  · rw [h, decide_eq_true rfl, decide_eq_true rfl]
  · rw [decide_eq_false h, decide_eq_false]
    intro e
    injection e with e
    exact h (txS_inj e)
/-- a sign of a text -/
theorem tx_at {t : Tx} {i c : Nat} (h : (txS t).cps[i]? = some c) : ∃ s, t[i]? = some s ∧ (⟨#[c]⟩ : Str) = sgS s := by
  have e : ((t.map sgC).toArray)[i]? = some c := h
  rw [List.getElem?_toArray, List.getElem?_map] at e
  cases q : t[i]? with
  | none => rw [q] at e; cases e
  | some s =>
    rw [q] at e
    refine ⟨s, rfl, ?_⟩
    rw [← Option.some.inj e]
    rfl
theorem tx_cps (t : Tx) : (txS t).cps.toList = t.map sgC := rfl
theorem tx_size (t : Tx) : (txS t).cps.size = t.length := txS_len t
def cvS : Cv → Str
  | .all => "all"
  | .both => "both"
  | .care => "care"
  | .lone => "lone"
  | .lones => "lones"
  | .pairs => "pairs"
theorem cvS_inj {x y : Cv} (h : cvS x = cvS y) : x = y := by
  revert h
  cases x <;> cases y <;> decide +kernel
theorem cv_eq (x y : Cv) : decide (V.str (cvS x) = V.str (cvS y)) = decide (x = y) := by
  by_cases h : x = y
  · rw [h, decide_eq_true rfl, decide_eq_true rfl]
  · rw [decide_eq_false h, decide_eq_false]
    intro e
    injection e with e
    exact h (cvS_inj e)
def kdS : Kd → Str
  | .any => "any"
  | .bare => "bare"
  | .lone => "lone"
  | .paired => "paired"
theorem kdS_inj {x y : Kd} (h : kdS x = kdS y) : x = y := by
  revert h
  cases x <;> cases y <;> decide +kernel
theorem kd_eq (x y : Kd) : decide (V.str (kdS x) = V.str (kdS y)) = decide (x = y) := by
  by_cases h : x = y
  · rw [h, decide_eq_true rfl, decide_eq_true rfl]
  · rw [decide_eq_false h, decide_eq_false]
    intro e
    injection e with e
    exact h (kdS_inj e)
/-! ### data -/
def wayD (w : List Cv) : PyData := .tuple (w.map fun c => .str (cvS c))
def bitsD (l : List Bool) : PyData := .tuple (l.map .bool)
def rowD (r : TM.Row) : PyData := .tuple [bitsD r.s1, bitsD r.s2, .bool r.o, .str (txS r.m), .str (txS r.t)]
def rowO : Option TM.Row → PyData
  | none => .none
  | some r => rowD r
def placeD (p : TM.Place) : PyData := .tuple [.bool p.1, rowO p.2]
theorem nks_map (ds : List PyData) : nks ds = ds.map nk := by
  induction ds with
  | nil => rfl
  | cons d ds ih => rw [nks, ih, List.map_cons]
theorem flts_all : ∀ {ds : List PyData}, (∀ d ∈ ds, flt d = true) → flts ds = true
  | [], _ => rfl
  | d :: ds, h => Bool.and_eq_true_iff.mpr ⟨h d List.mem_cons_self, flts_all fun x hx => h x (List.mem_cons_of_mem _ hx)⟩
theorem flt_map {α : Type} {f : α → PyData} (h : ∀ x, flt (f x) = true) (l : List α) : flts (l.map f) = true := flts_all fun d hd => by
  obtain ⟨x, _, rfl⟩ := List.mem_map.mp hd
  exact h x
theorem flt_way (w : List Cv) : flt (wayD w) = true := flt_map (fun _ => rfl) w
theorem flt_bits (l : List Bool) : flt (bitsD l) = true := flt_map (fun _ => rfl) l
theorem flt_row (r : TM.Row) : flt (rowD r) = true := by
  show (flt (bitsD r.s1) && (flt (bitsD r.s2) && (true && (true && (true && true))))) = true
  rw [flt_bits, flt_bits]
  rfl
theorem flt_rowO (r : Option TM.Row) : flt (rowO r) = true := by
  cases r with
  | none => rfl
  | some r => exact flt_row r
theorem flt_place (p : TM.Place) : flt (placeD p) = true := by
  show (true && (flt (rowO p.2) && true)) = true
  rw [flt_rowO]
  rfl
theorem depths_le {n : Nat} : ∀ {l : List NestedKey}, (∀ k ∈ l, k.depth ≤ n) → NestedKey.depthAll l ≤ n
  | [], _ => by simp [NestedKey.depthAll]
  | k :: l, h => by
    have h1 := h k List.mem_cons_self
    have h2 := depths_le (l := l) fun x hx => h x (List.mem_cons_of_mem _ hx)
    simp only [NestedKey.depthAll]
    omega
end TE

set_option Elab.async false
set_option linter.all false
set_option maxRecDepth 100000
set_option maxHeartbeats 4000000
/-! More of the program's data: keys, equality, items. -/
namespace TE
open PySem PySem.Spec PyProof.Rows L2 TM
section
variable {K : PySem.W.Frag} {H : Hp}
theorem dp_bool {v : V} {b : Bool} (h : Dp K H v (.bool b)) : v = .bl b := by cases h; rfl
theorem dp_int {v : V} {i : Int} (h : Dp K H v (.int i)) : v = .int i := by cases h; rfl
theorem dp_str {v : V} {x : Str} (h : Dp K H v (.str x)) : v = .str x := by cases h; rfl
theorem dp_none {v : V} (h : Dp K H v .none) : v = .non := by cases h; rfl
theorem dp_tup {v : V} {ds : List PyData} (h : Dp K H v (.tuple ds)) : ∃ a xs, v = .ref a ∧ SqT K H a xs ∧ DpAll K H xs ds := by
  cases h with
  | tup h1 h2 => exact ⟨_, _, rfl, h1, h2⟩
theorem dp_lst {v : V} {ds : List PyData} (h : Dp K H v (.list ds)) : ∃ a xs, v = .ref a ∧ SqL K H a xs ∧ DpAll K H xs ds := by
  cases h with
  | lst h1 h2 => exact ⟨_, _, rfl, h1, h2⟩
theorem dpAll_len : ∀ {ds : List PyData} {vs : List V}, DpAll K H vs ds → vs.length = ds.length
  | [], _, h => by cases h; rfl
  | d :: ds, _, h => by
    cases h with
    | cons h1 h2 => rw [List.length_cons, List.length_cons, dpAll_len h2]
theorem dpAll_get : ∀ {ds : List PyData} {vs : List V}, DpAll K H vs ds → ∀ {i : Nat} {v : V}, vs[i]? = some v → ∃ d, ds[i]? = some d ∧ Dp K H v d
  | [], _, h, i, v, e => by cases h; simp at e
  | d :: ds, _, h, i, v, e => by
    cases h with
    | cons h1 h2 =>
      cases i with
      | zero => exact ⟨d, rfl, by rw [← Option.some.inj e]; exact h1⟩
      | succ i => exact dpAll_get h2 (by simpa using e)
theorem dpAll_get2 : ∀ {ds : List PyData} {vs : List V}, DpAll K H vs ds → ∀ {i : Nat} {d : PyData}, ds[i]? = some d → ∃ v, vs[i]? = some v ∧ Dp K H v d
  | [], _, h, i, v, e => by simp at e
  | d :: ds, _, h, i, v, e => by
    cases h with
    | cons h1 h2 =>
      cases i with
      | zero => exact ⟨_, rfl, by rw [← Option.some.inj e]; exact h1⟩
      | succ i => exact dpAll_get2 h2 (by simpa using e)
theorem dpAll_app : ∀ {ds es : List PyData} {vs us : List V}, DpAll K H vs ds → DpAll K H us es → DpAll K H (vs ++ us) (ds ++ es)
  | [], es, _, us, h, g => by cases h; exact g
  | d :: ds, es, _, us, h, g => by
    cases h with
    | cons h1 h2 => exact .cons h1 (dpAll_app h2 g)
theorem dpAll_snoc {ds : List PyData} {vs : List V} {d : PyData} {v : V} (h : DpAll K H vs ds) (g : Dp K H v d) : DpAll K H (vs ++ [v]) (ds ++ [d]) := dpAll_app h (.cons g .nil)
theorem dpAll_bools : ∀ {bs : List Bool} {vs : List V}, DpAll K H vs (bs.map .bool) → vs = bs.map V.bl
  | [], _, h => by cases h; rfl
  | b :: bs, _, h => by
    cases h with
    | cons h1 h2 => rw [dp_bool h1, dpAll_bools h2] <;> rfl
theorem bools_dpAll : ∀ (bs : List Bool), DpAll K H (bs.map V.bl) (bs.map .bool)
  | [] => .nil
  | b :: bs => .cons (.bl b) (bools_dpAll bs)
theorem dpAll_strs {α : Type} {f : α → Str} : ∀ {bs : List α} {vs : List V}, DpAll K H vs (bs.map fun x => .str (f x)) → vs = bs.map fun x => V.str (f x)
  | [], _, h => by cases h; rfl
  | b :: bs, _, h => by
    cases h with
    | cons h1 h2 => rw [dp_str h1, dpAll_strs h2] <;> rfl
theorem strs_dpAll {α : Type} {f : α → Str} : ∀ (bs : List α), DpAll K H (bs.map fun x => V.str (f x)) (bs.map fun x => .str (f x))
  | [] => .nil
  | b :: bs => .cons (.str _) (strs_dpAll bs)
theorem dpAll_ints : ∀ {bs : List Nat} {vs : List V}, DpAll K H vs (bs.map fun n => .int (n : Nat)) → vs = bs.map fun n => V.int (n : Nat)
  | [], _, h => by cases h; rfl
  | b :: bs, _, h => by
    cases h with
    | cons h1 h2 => rw [dp_int h1, dpAll_ints h2] <;> rfl
theorem ints_dpAll : ∀ (bs : List Nat), DpAll K H (bs.map fun n => V.int (n : Nat)) (bs.map fun n => .int (n : Nat))
  | [] => .nil
  | b :: bs => .cons (.int _) (ints_dpAll bs)
/-- a way -/
theorem dp_way {v : V} {w : List Cv} (h : Dp K H v (wayD w)) : ∃ a, v = .ref a ∧ SqT K H a (w.map fun c => V.str (cvS c)) := by
  obtain ⟨a, xs, h1, h2, h3⟩ := dp_tup h
  rw [dpAll_strs h3] at h2
  exact ⟨a, h1, h2⟩
theorem way_dp {a : Addr} {w : List Cv} (h : SqT K H a (w.map fun c => V.str (cvS c))) : Dp K H (.ref a) (wayD w) := .tup h (strs_dpAll w)
theorem dp_bits {v : V} {l : List Bool} (h : Dp K H v (bitsD l)) : ∃ a, v = .ref a ∧ SqT K H a (l.map V.bl) := by
  obtain ⟨a, xs, h1, h2, h3⟩ := dp_tup h
  rw [dpAll_bools h3] at h2
  exact ⟨a, h1, h2⟩
theorem bits_dp {a : Addr} {l : List Bool} (h : SqT K H a (l.map V.bl)) : Dp K H (.ref a) (bitsD l) := .tup h (bools_dpAll l)
theorem dp_lot {v : V} {l : List Nat} (h : Dp K H v (lotD l)) : ∃ a, v = .ref a ∧ SqT K H a (l.map fun n => V.int (n : Nat)) := by
  obtain ⟨a, xs, h1, h2, h3⟩ := dp_tup h
  rw [dpAll_ints h3] at h2
  exact ⟨a, h1, h2⟩
theorem lot_dp {a : Addr} {l : List Nat} (h : SqT K H a (l.map fun n => V.int (n : Nat))) : Dp K H (.ref a) (lotD l) := .tup h (ints_dpAll l)
/-- a row's items -/
theorem dp_row {v : V} {r : TM.Row} (h : Dp K H v (rowD r)) : ∃ a b c, v = .ref a ∧ SqT K H a [.ref b, .ref c, .bl r.o, .str (txS r.m), .str (txS r.t)] ∧ Dp K H (.ref b) (bitsD r.s1) ∧ Dp K H (.ref c) (bitsD r.s2) := by
  obtain ⟨a, xs, h1, h2, h3⟩ := dp_tup h
  cases h3 with
  | cons g1 t1 =>
    cases t1 with
    | cons g2 t2 =>
      cases t2 with
      | cons g3 t3 =>
        cases t3 with
        | cons g4 t4 =>
          cases t4 with
          | cons g5 t5 =>
            cases t5
            rw [dp_bool g3, dp_str g4, dp_str g5] at h2
            obtain ⟨b, e1, _⟩ := dp_bits g1
            obtain ⟨c, e2, _⟩ := dp_bits g2
            rw [e1, e2] at h2
            exact ⟨a, b, c, h1, h2, by rw [← e1]; exact g1, by rw [← e2]; exact g2⟩
theorem row_dp {a b c : Addr} {r : TM.Row} (h : SqT K H a [.ref b, .ref c, .bl r.o, .str (txS r.m), .str (txS r.t)]) (h1 : Dp K H (.ref b) (bitsD r.s1)) (h2 : Dp K H (.ref c) (bitsD r.s2)) : Dp K H (.ref a) (rowD r) :=
  .tup h (.cons h1 (.cons h2 (.cons (.bl _) (.cons (.str _) (.cons (.str _) .nil)))))
theorem dp_place {v : V} {p : TM.Place} (h : Dp K H v (placeD p)) : ∃ a x, v = .ref a ∧ SqT K H a [.bl p.1, x] ∧ Dp K H x (rowO p.2) := by
  obtain ⟨a, xs, h1, h2, h3⟩ := dp_tup h
  cases h3 with
  | cons g1 t1 =>
    cases t1 with
    | cons g2 t2 =>
      cases t2
      rw [dp_bool g1] at h2
      exact ⟨a, _, h1, h2, g2⟩
theorem place_dp {a : Addr} {x : V} {p : TM.Place} (h : SqT K H a [.bl p.1, x]) (h1 : Dp K H x (rowO p.2)) : Dp K H (.ref a) (placeD p) := .tup h (.cons (.bl _) (.cons h1 .nil))
end
/-! ### keys -/
theorem nk_bits {a b : List Bool} (h : nk (bitsD a) = nk (bitsD b)) : a = b := by
  have e : nks (a.map .bool) = nks (b.map .bool) := by
    have h' : NestedKey.tup (nks (a.map .bool)) = NestedKey.tup (nks (b.map .bool)) := h
    injection h'
  rw [nks_map, nks_map, List.map_map, List.map_map] at e
  refine map_inj (f := nk ∘ PyData.bool) (fun x y z => ?_) e
  have z' : NestedKey.num (if x = true then 1 else 0) = NestedKey.num (if y = true then 1 else 0) := z
  injection z' with z'
  cases x <;> cases y <;> first | rfl | (exfalso; revert z'; decide)
theorem nk_lot {a b : List Nat} (h : nk (lotD a) = nk (lotD b)) : a = b := by
  have e : nks (a.map fun n => .int (n : Nat)) = nks (b.map fun n => .int (n : Nat)) := by
    have h' : NestedKey.tup (nks (a.map fun n => .int (n : Nat))) = NestedKey.tup (nks (b.map fun n => .int (n : Nat))) := h
    injection h'
  rw [nks_map, nks_map, List.map_map, List.map_map] at e
  refine map_inj (f := nk ∘ fun n : Nat => PyData.int (n : Nat)) (fun x y z => ?_) e
  have z' : NestedKey.num (x : Int) = NestedKey.num (y : Int) := z
  injection z' with z'
  omega
theorem nk_row {a b : TM.Row} (h : nk (rowD a) = nk (rowD b)) : a = b := by
  obtain ⟨a1, a2, a3, a4, a5⟩ := a
  obtain ⟨b1, b2, b3, b4, b5⟩ := b
  have h' : NestedKey.tup [nk (bitsD a1), nk (bitsD a2), .num (if a3 = true then 1 else 0), .text (txS a4), .text (txS a5)] = NestedKey.tup [nk (bitsD b1), nk (bitsD b2), .num (if b3 = true then 1 else 0), .text (txS b4), .text (txS b5)] := h
  injection h' with h'
  injection h' with e1 h'
  injection h' with e2 h'
  injection h' with e3 h'
  injection h' with e4 h'
  injection h' with e5 _
  injection e3 with e3
  injection e4 with e4
  injection e5 with e5
  have z3 : a3 = b3 := by cases a3 <;> cases b3 <;> first | rfl | (exfalso; revert e3; decide)
  rw [nk_bits e1, nk_bits e2, z3, txS_inj e4, txS_inj e5]
theorem nk_rowO {a b : Option TM.Row} (h : nk (rowO a) = nk (rowO b)) : a = b := by
  cases a with
  | none =>
    cases b with
    | none => rfl
    | some b => cases h
  | some a =>
    cases b with
    | none => cases h
    | some b => rw [nk_row h]
theorem nk_place {a b : TM.Place} (h : nk (placeD a) = nk (placeD b)) : a = b := by
  obtain ⟨a1, a2⟩ := a
  obtain ⟨b1, b2⟩ := b
  have h' : NestedKey.tup [.num (if a1 = true then 1 else 0), nk (rowO a2)] = NestedKey.tup [.num (if b1 = true then 1 else 0), nk (rowO b2)] := h
  injection h' with h'
  injection h' with e1 h'
  injection h' with e2 _
  injection e1 with e1
  have z1 : a1 = b1 := by cases a1 <;> cases b1 <;> first | rfl | (exfalso; revert e1; decide)
  rw [z1, nk_rowO e2]
theorem dep_flat {α : Type} {f : α → PyData} (h : ∀ x, (nk (f x)).depth ≤ 0) (l : List α) : (nk (.tuple (l.map f))).depth ≤ 1 := by
  show (NestedKey.tup (nks (l.map f))).depth ≤ 1
  have := depths_le (n := 0) (l := nks (l.map f)) (by
    rw [nks_map, List.map_map]
    intro k hk
    obtain ⟨x, _, rfl⟩ := List.mem_map.mp hk
    exact h x)
  simp only [NestedKey.depth]
  omega
theorem dep_bits (l : List Bool) : (nk (bitsD l)).depth ≤ 1 := dep_flat (fun _ => by simp [nk, NestedKey.depth]) l
theorem dep_lot (l : List Nat) : (nk (lotD l)).depth ≤ 1 := dep_flat (fun _ => by simp [nk, NestedKey.depth]) l
theorem dep_row (r : TM.Row) : (nk (rowD r)).depth ≤ 2 := by
  have h1 := dep_bits r.s1
  have h2 := dep_bits r.s2
  show (NestedKey.tup [nk (bitsD r.s1), nk (bitsD r.s2), .num (if r.o = true then 1 else 0), .text (txS r.m), .text (txS r.t)]).depth ≤ 2
  simp only [NestedKey.depth, NestedKey.depthAll]
  omega
theorem dep_place (p : TM.Place) : (nk (placeD p)).depth ≤ 3 := by
  have h : (nk (rowO p.2)).depth ≤ 2 := by
    cases p.2 with
    | none => simp [rowO, nk, NestedKey.depth]
    | some r => exact dep_row r
  show (NestedKey.tup [.num (if p.1 = true then 1 else 0), nk (rowO p.2)]).depth ≤ 3
  simp only [NestedKey.depth, NestedKey.depthAll]
  omega
theorem ok_row (r : TM.Row) : KeyOk (rowD r) := ⟨flt_row r, by have := dep_row r; omega⟩
theorem ok_place (p : TM.Place) : KeyOk (placeD p) := ⟨flt_place p, by have := dep_place p; omega⟩
theorem ok_lot (l : List Nat) : KeyOk (lotD l) := ⟨flt_lot l, by have := dep_lot l; omega⟩
/-! ### equality of data -/
theorem eqv_self : ∀ d : PyData, d.canLay0 = true → PyData.eqv d d = true := fun d h => SeqAt.eqv_refl d h
theorem eqv_ints : ∀ a b : List Nat, PyData.eqvAll (a.map fun n => .int (n : Nat)) (b.map fun n => .int (n : Nat)) = decide (a = b)
  | [], [] => by simp [PyData.eqvAll]
  | [], _ :: _ => by simp [PyData.eqvAll]
  | _ :: _, [] => by simp [PyData.eqvAll]
  | x :: a, y :: b => by
    rw [List.map_cons, List.map_cons, PyData.eqvAll, eqv_ints a b, PyData.eqv, Bool.eq_iff_iff, Bool.and_eq_true, decide_eq_true_eq, decide_eq_true_eq, List.cons.injEq]
    simp
    intro _
    omega
theorem eqv_lot (a b : List Nat) : PyData.eqv (lotD a) (lotD b) = decide (a = b) := eqv_ints a b
theorem lay_map {α : Type} {f : α → PyData} (h : ∀ x, (f x).canLay0 = true) : ∀ l : List α, PyData.canLayAll0 (l.map f) = true
  | [] => by simp [PyData.canLayAll0]
  | x :: l => by simp [PyData.canLayAll0, h x, lay_map h l]
theorem deps_map {α : Type} {f : α → PyData} {n : Nat} (h : ∀ x, (f x).depth ≤ n) : ∀ l : List α, PyData.depthAll (l.map f) ≤ n
  | [] => by simp [PyData.depthAll]
  | x :: l => by
    have h1 := h x
    have h2 := deps_map h l
    simp only [List.map_cons, PyData.depthAll]
    omega
theorem shaped_of {d : PyData} (h : d.canLay0 = true) (h2 : d.depth ≤ 64) : SeqAt.shaped d = true := by
  show (d.canLay0 && decide (d.depth ≤ 64)) = true
  rw [h, decide_eq_true h2]
  rfl
theorem lay_lot (l : List Nat) : (lotD l).canLay0 = true := by
  show PyData.canLay0 (.tuple _) = true
  simp only [PyData.canLay0]
  exact lay_map (fun _ => by simp [PyData.canLay0]) l
theorem dp_lot_depth (l : List Nat) : (lotD l).depth ≤ 2 := by
  have := deps_map (f := fun n : Nat => PyData.int (n : Nat)) (n := 1) (fun _ => by simp [PyData.depth]) l
  show PyData.depth (.tuple _) ≤ 2
  simp only [PyData.depth]
  omega
theorem sh_lot (l : List Nat) : SeqAt.shaped (lotD l) = true := shaped_of (lay_lot l) (by have := dp_lot_depth l; omega)
theorem lay_lots (l : List (List Nat)) : (lotsD l).canLay0 = true := by
  show PyData.canLay0 (.list _) = true
  simp only [PyData.canLay0]
  exact lay_map lay_lot l
theorem sh_lots (l : List (List Nat)) : SeqAt.shaped (lotsD l) = true := shaped_of (lay_lots l) (by
  have := deps_map (f := lotD) (n := 2) dp_lot_depth l
  show PyData.depth (.list _) ≤ 64
  simp only [PyData.depth]
  omega)
theorem lay_way (w : List Cv) : (wayD w).canLay0 = true := by
  show PyData.canLay0 (.tuple _) = true
  simp only [PyData.canLay0]
  exact lay_map (fun c => by cases c <;> decide +kernel) w
theorem sh_way (w : List Cv) : SeqAt.shaped (wayD w) = true := shaped_of (lay_way w) (by
  have := deps_map (f := fun c : Cv => PyData.str (cvS c)) (n := 1) (fun _ => by simp [PyData.depth]) w
  show PyData.depth (.tuple _) ≤ 64
  simp only [PyData.depth]
  omega)
theorem eqv_in {lots : List (List Nat)} {l : List Nat} : ((lots.map lotD).any fun z => PyData.eqv z (lotD l)) = decide (l ∈ lots) := by
  rw [List.any_map, Bool.eq_iff_iff, List.any_eq_true, decide_eq_true_eq]
  constructor
  · rintro ⟨x, hx, e⟩
    have e' : PyData.eqv (lotD x) (lotD l) = true := e
    rw [eqv_lot, decide_eq_true_eq] at e'
    rw [← e']
    exact hx
  · intro h
    refine ⟨l, h, ?_⟩
    show PyData.eqv (lotD l) (lotD l) = true
    rw [eqv_lot, decide_eq_true rfl]
end TE

set_option Elab.async false
set_option linter.all false
set_option maxRecDepth 100000
set_option maxHeartbeats 4000000
/-! Further rules: t * 0, t * 1, list of a text, comprehensions that give plain data. -/
namespace TE
open PySem PySem.Spec PyProof.Rows L2
theorem tuple_mul_none (l : Addr) (items : Array Value) (n : Nat) (dd : Option Addr) (sl : Array (Option Value)) (u : Tok) (hne : items.isEmpty = false) :
    Meets (Builtin.«tuple.__mul__» ⟨[.ref l, .int 0 u], []⟩) (fun _ R s => s.heap.get? l = some { cls := .type "tuple", dict := dd, data := .seq items n, slots := sl } ∧
      R (.ok (.ret (Value.ref s.heap.objs.size))) { s with heap := s.heap.push { cls := Value.type "tuple", data := Data.seq #[] }, toks := s.toks }) :=
  .of_wp fun prog w A R s h => by
    obtain ⟨hp, g, d, tk, os⟩ := s
    obtain ⟨hl, h⟩ := h
    have f1 := AutoSeq1.idx_int
    wp_walk using wpAny_loadPart' hl
    repeat (first
      | (refine wpAny_ite_false (decide_eq_false (by rw [hne]; decide)) ?_; wp_walk using wpAny_loadPart' hl)
      | (refine wpAny_ite_true (decide_eq_true (by simp)) ?_; wp_walk using wpAny_loadPart' hl))
    exact ⟨_, rfl, h⟩
theorem tuple_mul_one (l : Addr) (items : Array Value) (n : Nat) (dd : Option Addr) (sl : Array (Option Value)) (u : Tok) :
    Meets (Builtin.«tuple.__mul__» ⟨[.ref l, .int 1 u], []⟩) (fun _ R s => s.heap.get? l = some { cls := .type "tuple", dict := dd, data := .seq items n, slots := sl } ∧
      R (.ok (.ret (Value.ref l))) s) :=
  .of_wp fun prog w A R s h => by
    obtain ⟨hp, g, d, tk, os⟩ := s
    obtain ⟨hl, h⟩ := h
    have f1 := AutoSeq1.idx_int
    wp_walk using wpAny_loadPart' hl
    exact ⟨_, rfl, h⟩
section
variable {X : Cx}
/-- t * n, n any small number that is not negative -/
def rRepN (K : PySem.W.Frag) : R2 := fun x y H Q => ∃ (l : Addr) (n : Nat) (xs : List V), x = .ref l ∧ y = .int n ∧ SqT K H l xs ∧ xs ≠ [] ∧ n ≤ 1000 ∧ xs.length ≤ 1000 ∧
  ∀ H' p, Same H H' → SqT K H' p (List.replicate n xs).flatten → Q (.ref p) H'
theorem op_repN : OpR X (binaryOp .Mult) (rRepN X.K) := by
  intro pins s σ H x y v u Q I rx ry h
  obtain ⟨l, n, xs, rfl, rfl, hT, hne, h1, hz, q⟩ := h
  by_cases h2 : 2 ≤ n
  · refine op_repT pins s σ H _ _ v u Q I rx ry ⟨l, n, xs, rfl, rfl, hT, hne, by omega, by omega, hz, fun p hp => q _ p (same_new hp) (.inl (.inl ?_))⟩
    exact upd_same
  · cases rx
    obtain ⟨t, rfl⟩ := ry
    obtain ⟨its, r, ⟨⟨cls, dd, data, sl⟩, ho, hc, m, hd⟩, hs⟩ := I.tuple hT
    obtain rfl : cls = _ := hc
    obtain rfl : data = _ := hd
    have hi : its.toArray.isEmpty = false := by
      cases r with
      | nil => exact absurd rfl hne
      | cons _ _ => rfl
    by_cases h0 : n = 0
    · subst h0
      refine wpAny_binaryOp_repeat_ref (T := "tuple") (U := "int") (by decide) ⟨_, ho, rfl⟩ (fun s' => typeIs_int s' 0 t) noFill_tuple_mul F.fills_int_mul F.slot_int_rmul repeat_tuple F.slot_int_index.lookup
        (call_meets F.slot_int_rmul (typeIs_int s 0 t) F.entry_int_rmul (F.args_int_rmul_2 _ _) (int_rmul_tuple 0 t l its.toArray m dd sl)
          ⟨ho, rfl, ⟨_, ho, rfl⟩, call_meets F.slot_tuple_mul ⟨_, ho, rfl⟩ F.entry_tuple_mul (F.args_tuple_mul_2 _ _) (tuple_mul_none l its.toArray m dd sl t hi) ⟨ho, ?_⟩⟩)
      have hn := I.hok.fresh (Nat.le_refl s.heap.objs.size)
      refine ⟨.ref s.heap.objs.size, _, I.laid (t' := s.toks) (o := .tup []) (fun b ob q => Heap.get?_push_of_some _ q) (Nat.le_refl _) ⟨Nat.zero_le _, [], .nil, IsTup.new _ _⟩, rfl, q _ _ (same_new hn) (.inl (.inl upd_same))⟩
    · have h3 : n = 1 := by omega
      subst h3
      refine wpAny_binaryOp_repeat_ref (T := "tuple") (U := "int") (by decide) ⟨_, ho, rfl⟩ (fun s' => typeIs_int s' 1 t) noFill_tuple_mul F.fills_int_mul F.slot_int_rmul repeat_tuple F.slot_int_index.lookup
        (call_meets F.slot_int_rmul (typeIs_int s 1 t) F.entry_int_rmul (F.args_int_rmul_2 _ _) (int_rmul_tuple 1 t l its.toArray m dd sl)
          ⟨ho, rfl, ⟨_, ho, rfl⟩, call_meets F.slot_tuple_mul ⟨_, ho, rfl⟩ F.entry_tuple_mul (F.args_tuple_mul_2 _ _) (tuple_mul_one l its.toArray m dd sl t) ⟨ho, ?_⟩⟩)
      exact ⟨.ref l, H, I, rfl, q H l (fun _ _ e => e) (by simpa using hT)⟩
/-- list(text) -/
theorem call_listTx (hc : X.calm = true) : CallR X (.type "list") (fun vs H Q => ∃ t : TM.Tx, vs = [.str (txS t)] ∧ t.length ≤ sizeLine ∧ ∀ p, H p = none → Q (.ref p) (upd H p (.lst (t.map fun s => V.str (sgS s))))) := by
  intro pins s σ H vs us Q I r h
  obtain ⟨t, rfl, hz, q⟩ := h
  obtain ⟨u, rfl, k, rfl⟩ := vals1 r
  refine PySem.call_list_str (I.ok.hd hc) (txS t) k (fun h' tk acc c' kk e hi => ?_) (by rw [tx_size]; exact hz)
  refine ⟨.ref s.heap.objs.size, upd H s.heap.objs.size (.lst (t.map fun s => V.str (sgS s))), I.laid (t' := tk) kk (Nat.le_refl _) ⟨by rw [List.length_map]; exact hz, acc.toList, c', ?_, by rw [Array.toArray_toList]; exact e⟩, rfl, q _ (I.hok.fresh (Nat.le_refl _))⟩
  have hl : acc.toList.length = t.length := by
    rw [Array.length_toList, hi.1, tx_size]
  refine vals_of_idx _ _ (by rw [List.length_map]; exact hl.symm ▸ rfl) fun j v hj => ?_
  obtain ⟨c, u, h1, h2⟩ := hi.2 j v (by rw [← Array.getElem?_toList]; exact hj)
  obtain ⟨s1, e1, e2⟩ := tx_at h1
  refine ⟨.str (sgS s1), by rw [List.getElem?_map, e1] <;> rfl, u, ?_⟩
  rw [h2, e2]
/-! ### comprehensions -/
section
variable {K : PySem.W.Frag} {J : It} {α : Type} {L : List α} {G : Hp → Prop} {Y : Nat → Hp → V → Hp → Prop} {g : TG} {tt : TT} {te : L2.TE} {vs : List Nat} {σ : L2.St} {H1 : Hp} {D : Addr} {Qd : Hp → Prop}
theorem same_trans {H H' H'' : Hp} (a : Same H H') (b : Same H' H'') : Same H H'' := fun p u e => b p u (a p u e)
/-- what has been made when the turn is over -/
structure LcAt (K : PySem.W.Frag) (H1 : Hp) (D : Addr) (ds : List PyData) (H : Hp) : Prop where
  same : Same H1 H
  at_ : ∃ ys, H D = some (.lst ys) ∧ DpAll K H ys ds
theorem LcAt.ext {H H' : Hp} {ds : List PyData} (h : LcAt K H1 D ds H) (e : Same H H') : LcAt K H1 D ds H' :=
  let ⟨ys, h1, h2⟩ := h.at_
  ⟨same_trans h.same e, ys, e _ _ h1, Same.dpAll e h2⟩
theorem LcAt.push {H : Hp} {ds : List PyData} {d : PyData} {y : V} (nD : H1 D = none) (hf : flts ds = true) (fd : flt d = true) (h : LcAt K H1 D ds H) (hd : Dp K H y d) : ∃ acc, H D = some (.lst acc) ∧ acc.length = ds.length ∧ LcAt K H1 D (ds ++ [d]) (upd H D (.lst (acc ++ [y]))) := by
  obtain ⟨ys, h1, h2⟩ := h.at_
  have nt : NoT (H D) := by
    rw [h1]
    exact True.intro
  refine ⟨ys, h1, dpAll_len h2, same_upd h.same nD, ys ++ [y], upd_same, dpAll_snoc (dpAll_keep (fun _ _ q => tup_upd nt q) ds ys hf h2) (dp_upd nt fd hd)⟩
/-- a comprehension that gives plain data: turn i looks at the i-th of L; the items are f of those that sel takes -/
theorem lc_data {f : α → PyData} {sel : α → Bool} (w : Walk J L.length G Y) (nD : H1 D = none) (hf : ∀ x, flt (f x) = true) (hz : L.length ≤ sizeLine) (hG : ∀ H, Same H1 H → G H)
    (hs : ∀ i a x H H' (Nx : Hp → Prop), L[i]? = some a → Same H1 H → Y i H x H' →
      (sel a = true → ∀ H4 y, Same H H4 → Dp K H4 y (f a) → ∃ acc, H4 D = some (.lst acc) ∧ acc.length < sizeLine ∧ Nx (upd H4 D (.lst (acc ++ [y])))) → (sel a = false → ∀ H3, Same H H3 → Nx H3) →
      g x (wipe σ vs) H' fun σ2 H2 => wipe σ2 vs = wipe σ vs ∧ tt σ2 H2 fun b H3 => if b = true then te σ2 H3 fun y H4 => ∃ acc, H4 D = some (.lst acc) ∧ acc.length < sizeLine ∧ Nx (upd H4 D (.lst (acc ++ [y]))) else Nx H3)
    (hd : ∀ H ys, Same H1 H → H D = some (.lst ys) → DpAll K H ys ((L.filter sel).map f) → Qd H) :
    ∃ W : Nat → Nat → Hp → Prop, (∃ m, W 0 m (upd H1 D (.lst []))) ∧ ∀ i m H, W i m H →
      (J.stop i H ∧ Qd H) ∨ (J.go i H ∧ ∃ Nx : Hp → Prop, (∀ H', Nx H' → ∃ m', m' < m ∧ W (i + 1) m' H') ∧ ∀ x H', J.yld i H x H' → g x (wipe σ vs) H' fun σ2 H2 => wipe σ2 vs = wipe σ vs ∧ tt σ2 H2 fun b H3 =>
        if b = true then te σ2 H3 fun y H4 => ∃ acc, H4 D = some (.lst acc) ∧ acc.length < sizeLine ∧ Nx (upd H4 D (.lst (acc ++ [y]))) else Nx H3) := by
  refine lc_it w (fun i H => LcAt K H1 D (((L.take i).filter sel).map f) H) ⟨same_new nD, [], upd_same, .nil⟩ (fun i H _ p => hG H p.same) (fun i x H H' hi p y => ?_) fun H p => ?_
  · have ha : L[i]? = some L[i] := List.getElem?_eq_getElem hi
    have step : (L.take (i + 1)).filter sel = (L.take i).filter sel ++ (if sel L[i] = true then [L[i]] else []) := by
      rw [List.take_add_one, ha, List.filter_append]
      congr 1
      show List.filter sel [L[i]] = _
      cases h : sel L[i] with
      | true => rw [List.filter_cons_of_pos h]; rfl
      | false => rw [List.filter_cons_of_neg (by rw [h]; decide)]; rfl
    refine hs i L[i] x H H' _ ha p.same y (fun h H4 z e dz => ?_) fun h H3 e => ?_
    · obtain ⟨acc, a1, a2, a3⟩ := (p.ext e).push nD (flt_map hf _) (hf L[i]) dz
      refine ⟨acc, a1, ?_, ?_⟩
      · have l1 : ((L.take i).filter sel).length ≤ (L.take i).length := List.length_filter_le _ _
        rw [List.length_take] at l1
        rw [List.length_map] at a2
        omega
      · rw [step, if_pos h, List.map_append]
        exact a3
    · show LcAt K H1 D _ H3
      rw [step, if_neg (by rw [h]; decide), List.append_nil]
      exact p.ext e
  · rw [List.take_length] at p
    obtain ⟨ys, h1, h2⟩ := p.at_
    exact hd H ys p.same h1 h2
/-- without tests, bools -/
theorem lc_bools {p : α → Bool} (w : Walk J L.length G Y) (nD : H1 D = none) (hz : L.length ≤ sizeLine) (hG : ∀ H, Same H1 H → G H)
    (hs : ∀ i a x H H' (Nx : Hp → Prop), L[i]? = some a → Same H1 H → Y i H x H' →
      (∀ H4, Same H H4 → ∃ acc, H4 D = some (.lst acc) ∧ acc.length < sizeLine ∧ Nx (upd H4 D (.lst (acc ++ [V.bl (p a)])))) →
      g x (wipe σ vs) H' fun σ2 H2 => wipe σ2 vs = wipe σ vs ∧ te σ2 H2 fun y H4 => ∃ acc, H4 D = some (.lst acc) ∧ acc.length < sizeLine ∧ Nx (upd H4 D (.lst (acc ++ [y]))))
    (hm : ∀ x σ' H' (P Q : L2.St → Hp → Prop), (∀ σ2 H2, P σ2 H2 → Q σ2 H2) → g x σ' H' P → g x σ' H' Q)
    (hd : ∀ H, Same H1 H → SqL K H D ((L.map p).map V.bl) → Qd H) :
    ∃ W : Nat → Nat → Hp → Prop, (∃ m, W 0 m (upd H1 D (.lst []))) ∧ ∀ i m H, W i m H →
      (J.stop i H ∧ Qd H) ∨ (J.go i H ∧ ∃ Nx : Hp → Prop, (∀ H', Nx H' → ∃ m', m' < m ∧ W (i + 1) m' H') ∧ ∀ x H', J.yld i H x H' → g x (wipe σ vs) H' fun σ2 H2 => wipe σ2 vs = wipe σ vs ∧ tYes σ2 H2 fun b H3 =>
        if b = true then te σ2 H3 fun y H4 => ∃ acc, H4 D = some (.lst acc) ∧ acc.length < sizeLine ∧ Nx (upd H4 D (.lst (acc ++ [y]))) else Nx H3) := by
  refine lc_data (K := K) (f := fun a => .bool (p a)) (sel := fun _ => true) w nD (fun _ => rfl) hz hG (fun i a x H H' Nx ha e y h1 _ => ?_) fun H ys e h1 h2 => hd H e (.inl (.inl ?_))
  · refine hm _ _ _ _ _ (fun σ2 H2 ⟨q1, q2⟩ => ⟨q1, by
      show if true = true then (te σ2 H2 fun y H4 => ∃ acc, H4 D = some (.lst acc) ∧ acc.length < sizeLine ∧ Nx (upd H4 D (.lst (acc ++ [y])))) else Nx H2
      rw [if_pos rfl]
      exact q2⟩) (hs i a x H H' Nx ha e y fun H4 e4 => h1 rfl H4 _ e4 (.bl _))
  · have e2 : (L.filter fun _ => true).map (fun a => PyData.bool (p a)) = (L.map p).map .bool := by
      rw [List.filter_eq_self.mpr fun _ _ => rfl, List.map_map]
      rfl
    rw [e2] at h2
    rw [← dpAll_bools h2]
    exact h1
end
theorem gName_mono {i : Nat} : ∀ (x : V) (σ' : L2.St) (H' : Hp) (P Q : L2.St → Hp → Prop), (∀ σ2 H2, P σ2 H2 → Q σ2 H2) → gName i x σ' H' P → gName i x σ' H' Q := fun x σ' H' P Q h q => h _ _ q
theorem all_map {α : Type} (p : α → Bool) : ∀ L : List α, (L.map p).all id = L.all p
  | [] => rfl
  | x :: l => by rw [List.map_cons, List.all_cons, List.all_cons, all_map p l] <;> rfl
theorem any_map {α : Type} (p : α → Bool) : ∀ L : List α, (L.map p).any id = L.any p
  | [] => rfl
  | x :: l => by rw [List.map_cons, List.any_cons, List.any_cons, any_map p l] <;> rfl
/-- name = {..} on one line, the name a local -/
theorem ps_setDcc {i : Nat} {y : Str} {py : Pos} {kx vx tg iter : Expr} {ifs : List Expr} {scope : Scope} {own : List (Str × Nat)} {pos spos : Pos} {wi : TI} {g : TG} {tt : TT} {tk tv : L2.TE} (hu : X.A.units + 64 < cLine) (hc : X.calm = true) (hN : X.N.Nodup) (hy : X.N[i]? = some y) (hyl : X.env.scope.names.lookup y = some .local)
    (hsw : swapsWith (.DictComp kx vx [⟨tg, iter, ifs, 0⟩] scope pos) (some (.Name y py)) spos.line X.env = pure true) (hi : PI X tg iter wi) (ok : BlkOk X.N X.env.scope scope own)
    (hg : ∀ (s : Shared) (H : Hp) (C : Addr) (cl : List (Str × Addr)) (fp : List Addr), PG (X.blk s H scope (compEnvC scope cl C X.env) fp) tg g) (ht : ∀ (s : Shared) (H : Hp) (C : Addr) (cl : List (Str × Addr)) (fp : List Addr), PTs (X.blk s H scope (compEnvC scope cl C X.env) fp) ifs tt)
    (hk : ∀ (s : Shared) (H : Hp) (C : Addr) (cl : List (Str × Addr)) (fp : List Addr), PE (X.blk s H scope (compEnvC scope cl C X.env) fp) kx tk)
    (he : ∀ (s : Shared) (H : Hp) (C : Addr) (cl : List (Str × Addr)) (fp : List Addr), PE (X.blk s H scope (compEnvC scope cl C X.env) fp) vx tv) (hs : ∀ x, foldedSetIterable iter X.env x = pure x := by intro _; rfl) :
    PS X (.Assign [.Name y py] (.DictComp kx vx [⟨tg, iter, ifs, 0⟩] scope pos) spos) (tAsg (tDcc X.K X.w wi g tt tk tv (own.map (·.2))) (gName i)) := by
  refine ⟨fun pins s σ H D I h => ?_⟩
  rw [exec_Assign_Name_used _ _ _ _ hsw]
  refine wpAny_bind (wpAny_standAt (wpAny_bind ?_))
  show wpAny _ X.A (do let _ ← comprehension (.DictComp kx vx [⟨tg, iter, ifs, 0⟩] scope pos) scope X.env (firstIterPos [⟨tg, iter, ifs, 0⟩] pos) newDict false (eval iter X.env) (some (assign (.Name y py) X.env))) _ _ s
  have h : tDcc X.K X.w wi g tt tk tv (own.map (·.2)) σ H (fun x H1 => gName i x σ H1 D.nx) := h
  refine wpAny_bind (thn (dcc_core (Qf := fun _ s' => SP X pins D .next s') hu hc hN I hi ok hg ht hk he hs h fun L C s' m H' I' q hn f => ?_) fun _ s' hq => wpAny_pure (wpAny_pure hq))
  show wpAny _ _ (assign (.Name y py) X.env (.ref L)) _ _ _
  refine wpAny_assign_Name (store_ok2 (v := V.ref L) I' hN hy (.inl hyl) rfl (fun s2 I2 ⟨a, sb, ha⟩ => ?_) (.inr hyl))
  obtain ⟨f0, f1, f2, f3, f4, f5⟩ := f
  have haC : C ≠ a := by
    rcases ha with z | z
    · exact fun e => f1 (e.trans z ▸ rfl)
    · exact fun e => f4 y a z e.symm
  refine ⟨m, hn.sameBut sb haC, fun h3 sb3 => ⟨_, H', I2.turned (t' := s2.toks) (fun b o hb e => (sb3.2 b hb).trans e) f0 f1 f3 f4 f5, q⟩⟩
theorem sw_trueD {kx vx : Expr} {gs : List Comprehension} {scope : Scope} {pos py : Pos} {y : Str} {l : Nat} {env : Env} (hk : env.scope.kind = .function) (hy : env.scope.names.lookup y = some .local) (hl : (py.line == pos.line) = true)
    (ha : (scope.names.any fun (n, k) => n == y && (k == .local || k == .cell)) = false) : swapsWith (.DictComp kx vx gs scope pos) (some (.Name y py)) l env = pure true := by
  have k1 : env.kindOf y = some .local := hy
  have k2 : env.blockKind = .function := by unfold Env.blockKind; rw [hk]; rfl
  unfold swapsWith
  simp only [k2, k1, ha, Expr.pos, hl]
  rfl
end
end TE

set_option Elab.async false
set_option linter.all false
set_option maxRecDepth 100000
set_option maxHeartbeats 0
namespace TE
open PySem PySem.Spec PyProof.Rows L2
def top (i : Nat) : Stmt := PySem.Challenge.pw_turnedends_k32_whole_spared.main.body.getD i (.Pass ⟨0, 0, 0, 0⟩)
def d_is_number : He.DefD := ⟨("is_number", none), "is_number", "is_number", defArgs (top 9), defBody (top 9), defScope (top 9), [], []⟩
def d_check_kind : He.DefD := ⟨("check_kind", none), "check_kind", "check_kind", defArgs (top 10), defBody (top 10), defScope (top 10), [], []⟩
def d_can_come : He.DefD := ⟨("can_come", none), "can_come", "can_come", defArgs (top 11), defBody (top 11), defScope (top 11), [], []⟩
def d_is_open_behind : He.DefD := ⟨("is_open_behind", none), "is_open_behind", "is_open_behind", defArgs (top 12), defBody (top 12), defScope (top 12), [], []⟩
def d_goes_on : He.DefD := ⟨("goes_on", none), "goes_on", "goes_on", defArgs (top 13), defBody (top 13), defScope (top 13), [], []⟩
def d_is_kind_of : He.DefD := ⟨("is_kind_of", none), "is_kind_of", "is_kind_of", defArgs (top 14), defBody (top 14), defScope (top 14), [], []⟩
def d_check_way : He.DefD := ⟨("check_way", none), "check_way", "check_way", defArgs (top 19), defBody (top 19), defScope (top 19), [], []⟩
def d_start_of : He.DefD := ⟨("start_of", none), "start_of", "start_of", defArgs (top 20), defBody (top 20), defScope (top 20), [], []⟩
def d_left : He.DefD := ⟨("left", none), "left", "left", defArgs (top 21), defBody (top 21), defScope (top 21), [], []⟩
def d_sign_by : He.DefD := ⟨("sign_by", none), "sign_by", "sign_by", defArgs (top 22), defBody (top 22), defScope (top 22), [], []⟩
def d_text_by : He.DefD := ⟨("text_by", none), "text_by", "text_by", defArgs (top 23), defBody (top 23), defScope (top 23), [], []⟩
def d_read_by : He.DefD := ⟨("read_by", none), "read_by", "read_by", defArgs (top 24), defBody (top 24), defScope (top 24), [], []⟩
def d_ended : He.DefD := ⟨("ended", none), "ended", "ended", defArgs (top 25), defBody (top 25), defScope (top 25), [], []⟩
def d_made : He.DefD := ⟨("made", none), "made", "made", defArgs (top 26), defBody (top 26), defScope (top 26), [], []⟩
def d_without_common : He.DefD := ⟨("without_common", none), "without_common", "without_common", defArgs (top 28), defBody (top 28), defScope (top 28), [], []⟩
def d_start_row : He.DefD := ⟨("start_row", none), "start_row", "start_row", defArgs (top 29), defBody (top 29), defScope (top 29), [], []⟩
def d_row_behind : He.DefD := ⟨("row_behind", none), "row_behind", "row_behind", defArgs (top 30), defBody (top 30), defScope (top 30), [], []⟩
def d_is_even : He.DefD := ⟨("is_even", none), "is_even", "is_even", defArgs (top 31), defBody (top 31), defScope (top 31), [], []⟩
def d_are_rows : He.DefD := ⟨("are_rows", none), "are_rows", "are_rows", defArgs (top 32), defBody (top 32), defScope (top 32), [], []⟩
def d_is_parting : He.DefD := ⟨("is_parting", none), "is_parting", "is_parting", defArgs (top 33), defBody (top 33), defScope (top 33), [], []⟩
def d_Alike_init : He.DefD := ⟨("Alike", some "__init__"), "__init__", "Alike.__init__", defArgs (inClass (top 34) 0), defBody (inClass (top 34) 0), defScope (inClass (top 34) 0), [], []⟩
def d_Alike_shows : He.DefD := ⟨("Alike", some "shows"), "shows", "Alike.shows", defArgs (inClass (top 34) 2), defBody (inClass (top 34) 2), defScope (inClass (top 34) 2), [], []⟩
def d_Parted_init : He.DefD := ⟨("Parted", some "__init__"), "__init__", "Parted.__init__", defArgs (inClass (top 35) 0), defBody (inClass (top 35) 0), defScope (inClass (top 35) 0), [], []⟩
def d_Parted_shows : He.DefD := ⟨("Parted", some "shows"), "shows", "Parted.shows", defArgs (inClass (top 35) 2), defBody (inClass (top 35) 2), defScope (inClass (top 35) 2), [], []⟩
def d_check_both : He.DefD := ⟨("check_both", none), "check_both", "check_both", defArgs (top 36), defBody (top 36), defScope (top 36), [], []⟩
def d_compared : He.DefD := ⟨("compared", none), "compared", "compared", defArgs (top 37), defBody (top 37), defScope (top 37), [], []⟩
def d_compare : He.DefD := ⟨("compare", none), "compare", "compare", defArgs (top 38), defBody (top 38), defScope (top 38), [], []⟩
def d_are_alike : He.DefD := ⟨("are_alike", none), "are_alike", "are_alike", defArgs (top 39), defBody (top 39), defScope (top 39), [], []⟩
def d_are_indices : He.DefD := ⟨("are_indices", none), "are_indices", "are_indices", defArgs (top 42), defBody (top 42), defScope (top 42), [], []⟩
def d_check_offers : He.DefD := ⟨("check_offers", none), "check_offers", "check_offers", defArgs (top 43), defBody (top 43), defScope (top 43), [], []⟩
def d_check_three : He.DefD := ⟨("check_three", none), "check_three", "check_three", defArgs (top 44), defBody (top 44), defScope (top 44), [], []⟩
def d_lots_of : He.DefD := ⟨("lots_of", none), "lots_of", "lots_of", defArgs (top 45), defBody (top 45), defScope (top 45), [], []⟩
def d_left_of : He.DefD := ⟨("left_of", none), "left_of", "left_of", defArgs (top 46), defBody (top 46), defScope (top 46), [], []⟩
def d_is_within : He.DefD := ⟨("is_within", none), "is_within", "is_within", defArgs (top 47), defBody (top 47), defScope (top 47), [], []⟩
def d_Spared_init : He.DefD := ⟨("Spared", some "__init__"), "__init__", "Spared.__init__", defArgs (inClass (top 48) 0), defBody (inClass (top 48) 0), defScope (inClass (top 48) 0), [], []⟩
def d_Spared_shows : He.DefD := ⟨("Spared", some "shows"), "shows", "Spared.shows", defArgs (inClass (top 48) 2), defBody (inClass (top 48) 2), defScope (inClass (top 48) 2), [], []⟩
def d_lots : He.DefD := ⟨("lots", none), "lots", "lots", defArgs (top 49), defBody (top 49), defScope (top 49), [], []⟩
def d_without : He.DefD := ⟨("without", none), "without", "without", defArgs (top 50), defBody (top 50), defScope (top 50), [], []⟩
def d_spare : He.DefD := ⟨("spare", none), "spare", "spare", defArgs (top 51), defBody (top 51), defScope (top 51), [], []⟩
def d_text_in : He.DefD := ⟨("text_in", none), "text_in", "text_in", defArgs (top 52), defBody (top 52), defScope (top 52), [], []⟩
def d_greatest_lots : He.DefD := ⟨("greatest_lots", none), "greatest_lots", "greatest_lots", defArgs (top 53), defBody (top 53), defScope (top 53), [], []⟩
def d__law_number : He.DefD := ⟨("_law_number", none), "_law_number", "_law_number", defArgs (top 55), defBody (top 55), defScope (top 55), [], []⟩
def d__law_take : He.DefD := ⟨("_law_take", none), "_law_take", "_law_take", defArgs (top 56), defBody (top 56), defScope (top 56), [], []⟩
def d__law_pick : He.DefD := ⟨("_law_pick", none), "_law_pick", "_law_pick", defArgs (top 57), defBody (top 57), defScope (top 57), [], []⟩
def d__law_way : He.DefD := ⟨("_law_way", none), "_law_way", "_law_way", defArgs (top 58), defBody (top 58), defScope (top 58), [], []⟩
def d__law_by : He.DefD := ⟨("_law_by", none), "_law_by", "_law_by", defArgs (top 60), defBody (top 60), defScope (top 60), [], []⟩
def d__law_made : He.DefD := ⟨("_law_made", none), "_law_made", "_law_made", defArgs (top 61), defBody (top 61), defScope (top 61), [], []⟩
def d__law_is_of : He.DefD := ⟨("_law_is_of", none), "_law_is_of", "_law_is_of", defArgs (top 62), defBody (top 62), defScope (top 62), [], []⟩
def d__law_parts : He.DefD := ⟨("_law_parts", none), "_law_parts", "_law_parts", defArgs (top 64), defBody (top 64), defScope (top 64), [], []⟩
def d__law_lots : He.DefD := ⟨("_law_lots", none), "_law_lots", "_law_lots", defArgs (top 65), defBody (top 65), defScope (top 65), [], []⟩
def d__law_in : He.DefD := ⟨("_law_in", none), "_law_in", "_law_in", defArgs (top 66), defBody (top 66), defScope (top 66), [], []⟩
def d__law_left : He.DefD := ⟨("_law_left", none), "_law_left", "_law_left", defArgs (top 67), defBody (top 67), defScope (top 67), [], []⟩
def d__law_offers : He.DefD := ⟨("_law_offers", none), "_law_offers", "_law_offers", defArgs (top 68), defBody (top 68), defScope (top 68), [], []⟩
def d_law : He.DefD := ⟨("law", none), "law", "law", defArgs (top 69), defBody (top 69), defScope (top 69), [], []⟩
def fn : List He.DefD := [d_is_number, d_check_kind, d_can_come, d_is_open_behind, d_goes_on, d_is_kind_of, d_check_way, d_start_of, d_left, d_sign_by, d_text_by, d_read_by, d_ended, d_made, d_without_common, d_start_row, d_row_behind, d_is_even, d_are_rows, d_is_parting, d_Alike_init, d_Alike_shows, d_Parted_init, d_Parted_shows, d_check_both, d_compared, d_compare, d_are_alike, d_are_indices, d_check_offers, d_check_three, d_lots_of, d_left_of, d_is_within, d_Spared_init, d_Spared_shows, d_lots, d_without, d_spare, d_text_in, d_greatest_lots, d__law_number, d__law_take, d__law_pick, d__law_way, d__law_by, d__law_made, d__law_is_of, d__law_parts, d__law_lots, d__law_in, d__law_left, d__law_offers, d_law]
def fa : List He.Fa := ([.glo "is_number", .glo "check_kind", .glo "can_come", .glo "is_open_behind", .glo "goes_on", .glo "is_kind_of", .glo "check_way", .glo "start_of", .glo "left", .glo "sign_by", .glo "text_by", .glo "read_by", .glo "ended", .glo "made", .glo "without_common", .glo "start_row", .glo "row_behind", .glo "is_even", .glo "are_rows", .glo "is_parting", .glo "check_both", .glo "compared", .glo "compare", .glo "are_alike", .glo "are_indices", .glo "check_offers", .glo "check_three", .glo "lots_of", .glo "left_of", .glo "is_within"] : List He.Fa) ++ ([.glo "lots", .glo "without", .glo "spare", .glo "text_in", .glo "greatest_lots", .glo "_law_number", .glo "_law_take", .glo "_law_pick", .glo "_law_way", .glo "_law_by", .glo "_law_made", .glo "_law_is_of", .glo "_law_parts", .glo "_law_lots", .glo "_law_in", .glo "_law_left", .glo "_law_offers", .glo "law", .glo "KINDS", .glo "BARRED", .glo "CONVERSIONS", .glo "HOLDING", .glo "Alike", .glo "Parted", .glo "Spared", .glo "BadKind", .glo "BadWay", .glo "BadOffers", .free "isinstance", .free "len"] : List He.Fa) ++ ([.free "all", .free "any", .free "zip", .free "tuple", .free "list", .free "enumerate", .free "sorted", .free "set", .free "sum", .free "int", .free "str", .free "bool", .free "min", .free "range", .free "dict", .int "MOST_CONVERSIONS" 6, .int "MOST_OFFERS" 4, .str "SIGNS" "anr", .cls "Alike", .mkr "Alike", .meth "Alike" "shows", .noat "Alike" "rows", .cls "Parted", .mkr "Parted", .meth "Parted" "shows", .noat "Parted" "text", .cls "Spared", .mkr "Spared", .meth "Spared" "shows", .noat "Spared" "good"] : List He.Fa) ++ ([.noat "Spared" "fails"] : List He.Fa)
def dB (K : PySem.W.Frag) : PySem.W.Frag → Addr := fun K => He.ga K "BARRED"
def ts : List He.Tab := [(fun K => He.ga K "BARRED", ["any", "bare", "lone", "paired"])]
def tf : List He.Defn := [("lots_of", none), ("_law_lots", none)]
def clsB (K : PySem.W.Frag) (x : Str) : Bool := He.eqO (PySem.W.findIn K (.ref (He.ga K x)) "__class__") (some (some (.builtin "object.__class__"))) && decide (PySem.W.mroIn K (He.ga K x) (.type "object") = some true)
def kitBo (K : PySem.W.Frag) (x y : Str) (b : Bool) : Bool := decide (PySem.W.kitOne K (.ref (He.ga K x)) (.ref (He.ga K y)) = some b)
def ex (K : PySem.W.Frag) : Bool :=
  He.tupB K "KINDS" [.str "any", .str "bare", .str "lone", .str "paired"] && (He.tupB K "CONVERSIONS" [.str "all", .str "both", .str "care", .str "lone", .str "lones", .str "pairs"] && (He.tupB K "HOLDING" [.str "both", .str "lones", .str "pairs"] &&
  (He.valsB K (He.ga K "BARRED") [("any", .str ""), ("bare", .str "r"), ("lone", .str "n"), ("paired", .str "")] && (clsB K "Alike" && (clsB K "Parted" && (clsB K "Spared" &&
  (He.eqO (PySem.W.specialIn K (.builtin "object.__class__") "__get__") (some (some (.builtin "getset_descriptor.__get__"))) && (decide (PySem.W.takesIn K (.builtin "object.__class__") = some true) &&
  (kitBo K "Alike" "Alike" true && (kitBo K "Parted" "Alike" false && (kitBo K "Spared" "Spared" true && decide ((He.cT K ("lots_of", none)).2 ≠ (He.cT K ("_law_lots", none)).2))))))))))))
abbrev R : PySem.W.OpenRow := PySem.W.OpenLaw.row PySem.Challenge.rw_turnedends_k32_whole_spared
abbrev hk : PySem.W.Hook := He.hookX 5 fa fn ts tf ex
def ob (s : PySem.W.SharedT) : He.AlX := He.obsX 5 fa fn ts tf ex (HandSHeadRun.getT s)
theorem ob_eq (s : PySem.W.SharedT) : ob s = hk.obs s.abs := He.obsX_eq (HandSHeadRun.getT_eq s)
def loose : List PySem.Str := (["is_number", "check_kind", "can_come", "is_open_behind", "goes_on", "is_kind_of", "check_way", "start_of", "left", "sign_by", "text_by", "read_by", "ended", "made", "without_common", "start_row", "row_behind", "is_even", "are_rows", "is_parting", "check_both", "compared", "compare", "are_alike", "are_indices", "check_offers", "check_three", "lots_of", "left_of", "is_within"] : List PySem.Str) ++ (["lots", "without", "spare", "text_in", "greatest_lots", "_law_number", "_law_take", "_law_pick", "_law_way", "_law_by", "_law_made", "_law_is_of", "_law_parts", "_law_lots", "_law_in", "_law_left", "_law_offers", "KINDS", "BARRED", "CONVERSIONS", "HOLDING", "Alike", "Parted", "Spared", "BadKind", "BadWay", "BadOffers", "MOST_CONVERSIONS", "MOST_OFFERS", "SIGNS"] : List PySem.Str) ++ (["TurnError", "_law_text", "_law_texts"] : List PySem.Str)
abbrev RunP (w : World) : Prop := HandSHeadRun.RunEq R (PySem.W.view R.prog [69]) hk ob 4000 loose w
theorem runF (w : World) : RunP (w.withFollow "special-get-raises" false) := by
  intro os
  kernel_rfl
theorem runT (w : World) : RunP (w.withFollow "special-get-raises" true) := by
  intro os
  kernel_rfl
theorem run (w : World) : RunP w := PySem.W.byRow2 "special-get-raises" (P := RunP) runF runT w
end TE

set_option Elab.async false
set_option linter.all false
set_option maxRecDepth 100000
set_option maxHeartbeats 4000000
/-! What stands around the program's defs. -/
namespace TE
open PySem PySem.Spec PyProof.Rows L2
abbrev FnP (K : PySem.W.Frag) (d : He.DefD) (f : Addr) (fd : FuncData) : Prop := FunD K d.name d.qual d.params d.body d.scope [] [] f fd
/-- a def that keeps its promise, by its name -/
structure Cal (P : Program) (w : World) (K : PySem.W.Frag) (mg : Str → Option Value) (base : Heap) (k : Nat) (x : Str) (N : List Str) (sp : Sp) : Prop where
  ex : ∃ f fd, FnOk P w K mg base CX0 k f fd N sp ∧ PySem.W.keepIn K (.ref f) = true ∧ mg x = some (.ref f) ∧ Binds K fd N []
section
variable {X : Cx} {k j : Nat} {x : Str} {N : List Str} {sp : Sp} {E : XK} {e : Expr} {es : List Expr} {t : TA} {p pos : Pos}
theorem pe_cal (c : Cal X.prog X.w X.K X.mg X.base k x N sp) (hr : Room j X.A) (hl : k ≤ j) (hg : Gl X x) (ha : PA X (e :: es) t) (hd : (x == ("__debug__" : Str)) = false := by decide)
    (he : starEach (e :: es) X.env = (false, eval e X.env) :: starEach es X.env := by rfl) (hpl : (backTo pos (starEach es X.env)).any (·.1) = false := by rfl) : PE X (.Call (.Name x p) (e :: es) [] pos) (tCall sp [] E0 t) := by
  obtain ⟨f, fd, G, kp, m, b⟩ := c.ex
  exact pe_call G (hr.mono hl) hg m kp b .nil pass0 ha hd he hpl
end
/-- the built-ins by their names, the program's constants -/
structure Glb (K : PySem.W.Frag) (w : World) (mg : Str → Option Value) : Prop where
  isinstance : mg "isinstance" = none
  len : mg "len" = none
  all : mg "all" = none
  any : mg "any" = none
  zip : mg "zip" = none
  tuple : mg "tuple" = none
  list : mg "list" = none
  enumerate : mg "enumerate" = none
  sorted : mg "sorted" = none
  set : mg "set" = none
  sum : mg "sum" = none
  int : mg "int" = none
  str : mg "str" = none
  bool : mg "bool" = none
  min : mg "min" = none
  range : mg "range" = none
  dict : mg "dict" = none
  kinds : ∃ a, mg "KINDS" = some (.ref a) ∧ ∀ H, SqT K H a [.str "any", .str "bare", .str "lone", .str "paired"]
  convs : ∃ a, mg "CONVERSIONS" = some (.ref a) ∧ ∀ H, SqT K H a [.str "all", .str "both", .str "care", .str "lone", .str "lones", .str "pairs"]
  hold : ∃ a, mg "HOLDING" = some (.ref a) ∧ ∀ H, SqT K H a [.str "both", .str "lones", .str "pairs"]
  barred : ∃ d, mg "BARRED" = some (.ref d) ∧ KDct K w d "any" (.str "") ∧ KDct K w d "bare" (.str "r") ∧ KDct K w d "lone" (.str "n") ∧ KDct K w d "paired" (.str "")
  signs : ∃ t, mg "SIGNS" = some (.str "anr" t)
  mostC : ∃ t, mg "MOST_CONVERSIONS" = some (.int 6 t)
  mostO : ∃ t, mg "MOST_OFFERS" = some (.int 4 t)
/-! ### rules with the written part told (for the blocks of comprehensions) -/
section
variable {X : Cx} (K : PySem.W.Frag)
theorem c_isi (h : X.K = K := by rfl) : CallR X (.builtin "isinstance") (rIsi K) := by subst h; exact call_isi
theorem o_in (h : X.K = K := by rfl) : OpR X (compareOp .In) (rIn K false) := by subst h; exact op_in_seq
theorem o_notin (h : X.K = K := by rfl) : OpR X (compareOp .NotIn) (rIn K true) := by subst h; exact op_notIn_seq
theorem c_len (h : X.K = K := by rfl) : CallR X (.builtin "len") (fun xs H Q => ∃ p ys, xs = [.ref p] ∧ (SqL K H p ys ∨ SqT K H p ys) ∧ Q (.int ys.length) H) := by subst h; exact call_len_seq
theorem x_tup (h : X.K = K := by rfl) : IxR X (rIxT K) := by subst h; exact ix_tup
theorem x_lst (h : X.K = K := by rfl) : IxR X (rIxL K) := by subst h; exact ix_list
theorem x_dc {w : World} (hu : X.A.units + 64 < cLine) (h : X.K = K := by rfl) (hw : X.w = w := by rfl) : IxR X (rDcGet K w) := by subst h hw; exact ix_dc hu
theorem o_neD (hu : X.A.units + 64 < cLine) (h : X.K = K := by rfl) : OpR X (compareOp .NotEq) (rNeD K) := by subst h; exact op_neD hu
theorem o_eqD (hu : X.A.units + 64 < cLine) (h : X.K = K := by rfl) : OpR X (compareOp .Eq) (rEqD K) := by subst h; exact op_eqD hu
theorem o_inD (hu : X.A.units + 65 < cLine) (h : X.K = K := by rfl) : OpR X (compareOp .In) (rInD K) := by subst h; exact op_inD hu
theorem o_dcIn {w : World} (hu : X.A.units + 64 < cLine) (h : X.K = K := by rfl) (hw : X.w = w := by rfl) : OpR X (compareOp .In) (rDcIn K w false) := by subst h hw; exact op_dcIn hu
theorem o_dcNotIn {w : World} (hu : X.A.units + 64 < cLine) (h : X.K = K := by rfl) (hw : X.w = w := by rfl) : OpR X (compareOp .NotIn) (rDcIn K w true) := by subst h hw; exact op_dcNotIn hu
theorem c_all (hc : X.calm = true) (h : X.K = K := by rfl) : CallR X (.builtin "all") (rAll K) := by subst h; exact cr_all hc
theorem c_any (hc : X.calm = true) (h : X.K = K := by rfl) : CallR X (.builtin "any") (rAny K) := by subst h; exact cr_any hc
theorem o_catA (h : X.K = K := by rfl) : OpR X (binaryOp .Add) (rCatA K) := by subst h; exact op_catA
end
theorem b_isinstance : bootBuiltins "isinstance" = some (.builtin "isinstance") := by decide +kernel
theorem b_len : bootBuiltins "len" = some (.builtin "len") := by decide +kernel
theorem b_all : bootBuiltins "all" = some (.builtin "all") := by decide +kernel
theorem b_any : bootBuiltins "any" = some (.builtin "any") := by decide +kernel
theorem b_sum : bootBuiltins "sum" = some (.builtin "sum") := by decide +kernel
theorem b_min : bootBuiltins "min" = some (.builtin "min") := by decide +kernel
theorem b_sorted : bootBuiltins "sorted" = some (.builtin "sorted") := by decide +kernel
theorem b_tuple : bootBuiltins "tuple" = some (.type "tuple") := by decide +kernel
theorem b_list : bootBuiltins "list" = some (.type "list") := by decide +kernel
theorem b_dict : bootBuiltins "dict" = some (.type "dict") := by decide +kernel
theorem b_set : bootBuiltins "set" = some (.type "set") := by decide +kernel
theorem b_int : bootBuiltins "int" = some (.type "int") := by decide +kernel
theorem b_str : bootBuiltins "str" = some (.type "str") := by decide +kernel
theorem b_bool : bootBuiltins "bool" = some (.type "bool") := by decide +kernel
theorem tyX_tup {K : PySem.W.Frag} {H : Hp} {a : Addr} {xs : List V} (h : SqT K H a xs) : TyX K H (.ref a) (.type "tuple") := by
  rcases h with (h | ⟨o, h⟩) | ⟨o, its, n, h1, h2, _⟩
  · exact .base (.tup h)
  · exact .fTuple h
  · exact .kTuple h1 h2
theorem ite_dec {c : Bool} {A B : Prop} (h1 : c = true → A) (h2 : c = false → B) : if c = true then A else B := by
  cases c with
  | true => exact iteT (h1 rfl)
  | false => exact iteF (h2 rfl)
end TE

set_option Elab.async false
set_option linter.all false
set_option maxRecDepth 100000
set_option maxHeartbeats 4000000
/-! The defs: kinds. -/
namespace TE
open PySem PySem.Spec PyProof.Rows L2 TM
section
variable {P : Program} {w : World} {K : PySem.W.Frag} {mg : Str → Option Value} {base : Heap} {f : Addr} {fd : FuncData}
theorem sc_is_number : FnScope ["thing", "low", "high"] ["thing", "low", "high"] d_is_number.scope := ⟨rfl, rfl, rfl, by decide +kernel, rfl, by decide +kernel, by decide +kernel⟩
def sp_is_number : Sp := fun vs H Q _ => ∃ i lo hi : Int, vs = [.int i, .int lo, .int hi] ∧ Q (.bl (decide (lo ≤ i) && decide (i ≤ hi))) H
theorem ok_is_number (G : Glb K w mg) (F : FnP K d_is_number f fd) : FnOk P w K mg base CX0 1 f fd ["thing", "low", "high"] sp_is_number := by
  refine F.ok sc_is_number (fun vs H Q E h => ?_) (fun cdv A outer s H vs Q E hr h => ?_)
  · obtain ⟨i, lo, hi, rfl, _⟩ := h
    rfl
  · obtain ⟨i, lo, hi, rfl, q⟩ := h
    refine ⟨_, pss_one (ps_ret (pe_and (pe_callB call_isi (by rfl) G.isinstance (by decide +kernel) (pa_cons (pv 0) (pa_cons (pe_bltn (v := .ty "int") (by rfl) G.int boot_int rfl) pa_nil)))
      (pe_and (pe_not (pe_callB call_isi (by rfl) G.isinstance (by decide +kernel) (pa_cons (pv 0) (pa_cons (pe_bltn (v := .ty "bool") (by rfl) G.bool (by decide +kernel) rfl) pa_nil)))) (pe_one (pe_chain op_le op_le (pv 1) (pv 0) (pv 2)))))), ?_⟩
    refine ⟨_, rfl, _, _, _, _, true, rfl, .ty _, .base (.int i), kit_ty (by decide +kernel), _, rfl, iteT ?_⟩
    refine ⟨_, rfl, _, _, _, _, false, rfl, .ty _, .base (.int i), kit_ty (by decide +kernel), _, rfl, _, rfl, iteT ?_⟩
    refine ⟨_, rfl, _, rfl, _, _, rfl, rfl, _, rfl, ite_dec (fun h1 => ?_) (fun h1 => ?_)⟩
    · refine ⟨_, rfl, _, _, rfl, rfl, ?_⟩
      rw [h1, Bool.true_and] at q
      exact q
    · rw [h1, Bool.false_and] at q
      exact q
theorem sc_check_kind : FnScope ["kind"] ["kind"] d_check_kind.scope := ⟨rfl, rfl, rfl, by decide +kernel, rfl, by decide +kernel, by decide +kernel⟩
def sp_check_kind : Sp := fun vs H Q _ => ∃ k : Kd, vs = [.str (kdS k)] ∧ Q .non H
theorem ok_check_kind (G : Glb K w mg) (F : FnP K d_check_kind f fd) : FnOk P w K mg base CX0 1 f fd ["kind"] sp_check_kind := by
  refine F.ok sc_check_kind (fun vs H Q E h => ?_) (fun cdv A outer s H vs Q E hr h => ?_)
  · obtain ⟨k, rfl, _⟩ := h
    rfl
  · obtain ⟨k, rfl, q⟩ := h
    obtain ⟨a, hm, ha⟩ := G.kinds
    refine ⟨_, pss_one (ps_if (PW.pt (pw_or (pt_not (pt_val (pe_callB call_isi (by rfl) G.isinstance (by decide +kernel) (pa_cons (pv 0) (pa_cons (pe_bltn (v := .ty "str") (by rfl) G.str (by decide +kernel) rfl) pa_nil)))))
      (pw_or1 (pt_cmpR op_notIn_seq (pv 0) (pe_glob (v := .ref a) (by rfl) hm rfl) rfl)))) (pss_one ps_never) pss_nil), ?_⟩
    refine ⟨_, rfl, _, _, _, _, true, rfl, .ty _, .base (.str _), kit_ty (by decide +kernel), _, rfl, iteF ?_⟩
    refine ⟨_, rfl, a, _, rfl, .inr (ha H), rfl, rfl, _, rfl, ?_⟩
    have e : inV (.str (kdS k)) [.str "any", .str "bare", .str "lone", .str "paired"] = true := by cases k <;> decide +kernel
    show if (if true = true then !inV _ _ else _) = true then _ else _
    rw [e]
    exact iteF q
theorem sc_can_come : FnScope ["kind", "is_open", "sign"] ["kind", "is_open", "sign"] d_can_come.scope := ⟨rfl, rfl, rfl, by decide +kernel, rfl, by decide +kernel, by decide +kernel⟩
def sp_can_come : Sp := fun vs H Q _ => ∃ (k : Kd) (o : Bool) (s : Sg), vs = [.str (kdS k), .bl o, .str (sgS s)] ∧ Q (.bl (canCome k o s)) H
theorem ok_can_come (G : Glb K w mg) (F : FnP K d_can_come f fd) : FnOk P w K mg base CX0 1 f fd ["kind", "is_open", "sign"] sp_can_come := by
  refine F.ok sc_can_come (fun vs H Q E h => ?_) (fun cdv A outer s H vs Q E hr h => ?_)
  · obtain ⟨k, o, s, rfl, _⟩ := h
    rfl
  · obtain ⟨k, o, s, rfl, q⟩ := h
    obtain ⟨d, hm, b1, b2, b3, b4⟩ := G.barred
    refine ⟨_, pss_cons (ps_if (pt_cmpR op_eq (pv 0) pe_str (nomark _)) (pss_one (ps_ret (pe_cmpR op_eq (pe_cmpR op_eq (pv 2) pe_str (nomark _)) (pv 1) (nomark _)))) pss_nil)
      (pss_one (ps_ret (pe_cmpR op_notIn_sign (pv 2) (pe_ix ix_kdict (pe_glob (v := .ref d) (by rfl) hm rfl) (pv 0) (fun _ _ => rfl)) rfl))), ?_⟩
    refine ⟨_, rfl, rfl, _, rfl, ?_⟩
    show if decide (V.str (kdS k) = V.str (kdS .paired)) = true then _ else _
    rw [kd_eq]
    refine ite_dec (fun h1 => ?_) (fun h1 => ?_)
    · have h2 : k = .paired := of_decide_eq_true h1
      subst h2
      refine ⟨_, rfl, rfl, _, rfl, rfl, ?_⟩
      show Q (.bl (decide (V.bl (decide (V.str (txS [s]) = V.str "n")) = V.bl o))) H
      rw [← txS_n, tx_eq, dec_bl]
      have e : (decide ([s] = [Sg.n]) == o) = canCome .paired o s := by cases s <;> cases o <;> rfl
      rw [e]
      exact q
    · have h2 : k ≠ .paired := of_decide_eq_false h1
      cases k with
      | paired => exact absurd rfl h2
      | any =>
        refine ⟨_, rfl, _, rfl, d, _, _, rfl, rfl, b1, sgC s, _, rfl, rfl, ?_⟩
        have e : (!decide (sgC s ∈ ("" : Str).cps.toList)) = canCome .any o s := by cases o <;> cases s <;> decide +kernel
        rw [e]
        exact q
      | bare =>
        refine ⟨_, rfl, _, rfl, d, _, _, rfl, rfl, b2, sgC s, _, rfl, rfl, ?_⟩
        have e : (!decide (sgC s ∈ ("r" : Str).cps.toList)) = canCome .bare o s := by cases o <;> cases s <;> decide +kernel
        rw [e]
        exact q
      | lone =>
        refine ⟨_, rfl, _, rfl, d, _, _, rfl, rfl, b3, sgC s, _, rfl, rfl, ?_⟩
        have e : (!decide (sgC s ∈ ("n" : Str).cps.toList)) = canCome .lone o s := by cases o <;> cases s <;> decide +kernel
        rw [e]
        exact q
theorem sc_is_open_behind : FnScope ["kind", "sign"] ["kind", "sign"] d_is_open_behind.scope := ⟨rfl, rfl, rfl, by decide +kernel, rfl, by decide +kernel, by decide +kernel⟩
def sp_is_open_behind : Sp := fun vs H Q _ => ∃ (k : Kd) (s : Sg), vs = [.str (kdS k), .str (sgS s)] ∧ Q (.bl (openB k s)) H
theorem ok_is_open_behind (F : FnP K d_is_open_behind f fd) : FnOk P w K mg base CX0 1 f fd ["kind", "sign"] sp_is_open_behind := by
  refine F.ok sc_is_open_behind (fun vs H Q E h => ?_) (fun cdv A outer s H vs Q E hr h => ?_)
  · obtain ⟨k, s, rfl, _⟩ := h
    rfl
  · obtain ⟨k, s, rfl, q⟩ := h
    refine ⟨_, pss_one (ps_ret (pe_and (pe_cmpR op_eq (pv 0) pe_str (nomark _)) (pe_one (pe_cmpR op_eq (pv 1) pe_str (nomark _))))), ?_⟩
    refine ⟨_, rfl, rfl, _, rfl, ?_⟩
    show if decide (V.str (kdS k) = V.str (kdS .paired)) = true then _ else _
    rw [kd_eq]
    refine ite_dec (fun h1 => ?_) (fun h1 => ?_)
    · refine ⟨_, rfl, rfl, ?_⟩
      show Q (.bl (decide (V.str (txS [s]) = V.str "r"))) H
      rw [← txS_r, tx_eq]
      have e : decide ([s] = [Sg.r]) = openB k s := by
        unfold openB
        rw [h1]
        cases s <;> rfl
      rw [e]
      exact q
    · have e : openB k s = false := by
        unfold openB
        rw [h1]
        rfl
      rw [e] at q
      exact q
theorem sc_goes_on : FnScope ["kind", "is_open", "text", "sign"] ["kind", "is_open", "text"] d_goes_on.scope := ⟨rfl, rfl, rfl, by decide +kernel, rfl, by decide +kernel, by decide +kernel⟩
def obV : Option Bool → V
  | none => .non
  | some b => .bl b
def sp_goes_on : Sp := fun vs H Q _ => ∃ (k : Kd) (o : Bool) (t : Tx), vs = [.str (kdS k), .bl o, .str (txS t)] ∧ Q (obV (goesOn k o t)) H
theorem drop_at {α : Type} : ∀ {l : List α} {i : Nat} {a : α}, l[i]? = some a → l.drop i = a :: l.drop (i + 1)
  | [], i, a, h => by simp at h
  | x :: l, 0, a, h => by
    rw [← Option.some.inj h]
    rfl
  | x :: l, i + 1, a, h => drop_at (l := l) (i := i) (by simpa using h)
theorem ok_goes_on (c1 : Cal P w K mg base 1 "can_come" ["kind", "is_open", "sign"] sp_can_come) (c2 : Cal P w K mg base 1 "is_open_behind" ["kind", "sign"] sp_is_open_behind) (F : FnP K d_goes_on f fd) : FnOk P w K mg base CX0 2 f fd ["kind", "is_open", "text"] sp_goes_on := by
  refine F.ok sc_goes_on (fun vs H Q E h => ?_) (fun cdv A outer s H vs Q E hr h => ?_)
  · obtain ⟨k, o, t, rfl, _⟩ := h
    rfl
  · obtain ⟨k, o, t, rfl, q⟩ := h
    refine ⟨_, PSs.nox (pss_cons (ps_for PassesOwn.never rfl (pi_str (pv 2)) (pg_name (i := 3) sc_goes_on.nd rfl (.inl rfl))
        (pss_cons (ps_if (pt_not (pt_val (pe_cal c1 hr (by decide) rfl (pa_cons (pv 0) (pa_cons (pv 1) (pa_cons (pv 3) pa_nil)))))) (pss_one (ps_ret pe_non)) pss_nil)
        (pss_one (ps_set (i := 1) sc_goes_on.nd rfl (.inl rfl) (pe_cal c2 hr (by decide) rfl (pa_cons (pv 0) (pa_cons (pv 3) pa_nil))))))) (pss_one (ps_ret (pv 1)))), ?_⟩
    refine ⟨_, rfl, _, rfl, for_it walk_str (fun i σ H' => ∃ (o' : Bool) (v : Option V), H' = H ∧ σ = [some (.str (kdS k)), some (.bl o'), some (.str (txS t)), v] ∧ goesOn k o t = goesOn k o' (t.drop i))
      ⟨o, none, rfl, rfl, rfl⟩ (fun _ _ _ _ _ => True.intro) ?_ ?_⟩
    · rintro i x σ H1 H2 hi ⟨o', v, rfl, rfl, e⟩ ⟨rfl, c, hc, rfl⟩
      obtain ⟨s1, h1, h2⟩ := tx_at hc
      rw [h2]
      rw [drop_at h1] at e
      refine ⟨_, rfl, _, rfl, _, rfl, k, o', s1, rfl, _, rfl, ?_⟩
      cases hcc : canCome k o' s1 with
      | false =>
        refine iteT ?_
        have e2 : goesOn k o' (s1 :: t.drop (i + 1)) = none := by
          show (if canCome k o' s1 = true then _ else none) = none
          rw [hcc]
          rfl
        rw [e, e2] at q
        exact q
      | true =>
        refine iteF ?_
        refine ⟨_, rfl, _, rfl, k, s1, rfl, openB k s1, _, rfl, rfl, ?_⟩
        rw [e]
        show (if canCome k o' s1 = true then _ else none) = _
        rw [hcc]
        rfl
    · rintro σ H2 ⟨o', v, rfl, rfl, e⟩
      refine ⟨_, rfl, ?_⟩
      rw [tx_size, List.drop_length] at e
      rw [e] at q
      exact q
theorem sc_is_kind_of : FnScope ["text", "kind"] ["text", "kind"] d_is_kind_of.scope := ⟨rfl, rfl, rfl, by decide +kernel, rfl, by decide +kernel, by decide +kernel⟩
def sp_is_kind_of : Sp := fun vs H Q _ => ∃ (t : Tx) (k : Kd), vs = [.str (txS t), .str (kdS k)] ∧ goesOn k false t = some false ∧ Q (.bl true) H
theorem ok_is_kind_of (c1 : Cal P w K mg base 2 "goes_on" ["kind", "is_open", "text"] sp_goes_on) (F : FnP K d_is_kind_of f fd) : FnOk P w K mg base CX0 3 f fd ["text", "kind"] sp_is_kind_of := by
  refine F.ok sc_is_kind_of (fun vs H Q E h => ?_) (fun cdv A outer s H vs Q E hr h => ?_)
  · obtain ⟨t, k, rfl, _⟩ := h
    rfl
  · obtain ⟨t, k, rfl, e, q⟩ := h
    refine ⟨_, pss_one (ps_ret (pe_cmpR op_isBl (pe_cal c1 hr (by decide) rfl (pa_cons (pv 1) (pa_cons pe_bl (pa_cons (pv 0) pa_nil)))) pe_bl (nomark _))), ?_⟩
    refine ⟨_, rfl, _, rfl, k, false, t, rfl, ?_⟩
    rw [e]
    exact ⟨false, false, rfl, rfl, q⟩
end
end TE

set_option Elab.async false
set_option linter.all false
set_option maxRecDepth 100000
set_option maxHeartbeats 4000000
/-! The defs: ways. -/
namespace TE
open PySem PySem.Spec PyProof.Rows L2 TM
/-! ### walks over data -/
section
variable {K : PySem.W.Frag} {a b : Addr} {α β : Type} {L : List α} {M : List β} {g : α → PyData} {g2 : β → PyData}
def YD (K : PySem.W.Frag) (L : List α) (g : α → PyData) : Nat → Hp → V → Hp → Prop := fun i H x H' => H' = H ∧ ∀ z, L[i]? = some z → Dp K H x (g z)
theorem walk_tupD : Walk (Itt K a) L.length (fun H => Dp K H (.ref a) (.tuple (L.map g))) (YD K L g) := by
  refine ⟨fun i H hi h => ?_, fun H h => ?_, fun i H x H' hi h y => ⟨y.1, fun z hz => ?_⟩⟩
  · obtain ⟨a', xs, e, h1, h2⟩ := dp_tup h
    cases e
    obtain ⟨v, hv, _⟩ := dpAll_get2 h2 (i := i) (d := g L[i]) (by rw [List.getElem?_map, List.getElem?_eq_getElem hi]; rfl)
    exact ⟨xs, v, h1, hv⟩
  · obtain ⟨a', xs, e, h1, h2⟩ := dp_tup h
    cases e
    exact ⟨xs, h1, by rw [dpAll_len h2, List.length_map]; exact Nat.le_refl _⟩
  · obtain ⟨a', xs, e, h1, h2⟩ := dp_tup h
    cases e
    obtain ⟨d, hd, h3⟩ := dpAll_get h2 (y.2 xs h1)
    rw [List.getElem?_map, hz] at hd
    rw [show g z = d from Option.some.inj hd]
    exact h3
theorem walk_lstD : Walk (Itl K a) L.length (fun H => Dp K H (.ref a) (.list (L.map g))) (YD K L g) := by
  refine ⟨fun i H hi h => ?_, fun H h => ?_, fun i H x H' hi h y => ⟨y.1, fun z hz => ?_⟩⟩
  · obtain ⟨a', xs, e, h1, h2⟩ := dp_lst h
    cases e
    obtain ⟨v, hv, _⟩ := dpAll_get2 h2 (i := i) (d := g L[i]) (by rw [List.getElem?_map, List.getElem?_eq_getElem hi]; rfl)
    exact ⟨xs, v, h1, hv⟩
  · obtain ⟨a', xs, e, h1, h2⟩ := dp_lst h
    cases e
    exact ⟨xs, h1, by rw [dpAll_len h2, List.length_map]; exact Nat.le_refl _⟩
  · obtain ⟨a', xs, e, h1, h2⟩ := dp_lst h
    cases e
    obtain ⟨d, hd, h3⟩ := dpAll_get h2 (y.2 xs h1)
    rw [List.getElem?_map, hz] at hd
    rw [show g z = d from Option.some.inj hd]
    exact h3
/-- zip of two tuples of data -/
theorem walk_zipD (hl : M.length = L.length) : Walk (RZ.ItzT K a b) L.length (fun H => Dp K H (.ref a) (.tuple (L.map g)) ∧ Dp K H (.ref b) (.tuple (M.map g2)))
    (fun i H v H' => ∃ T x y, v = .ref T ∧ H T = none ∧ H' = upd H T (.tup [x, y]) ∧ (∀ z, L[i]? = some z → Dp K H x (g z)) ∧ ∀ z, M[i]? = some z → Dp K H y (g2 z)) := by
  refine ⟨fun i H hi h => ?_, fun H h => ?_, fun i H v H' hi h y => ?_⟩
  · obtain ⟨a', xs, e, h1, h2⟩ := dp_tup h.1
    cases e
    obtain ⟨b', ys, e, h3, h4⟩ := dp_tup h.2
    cases e
    obtain ⟨v, hv, _⟩ := dpAll_get2 h2 (i := i) (d := g L[i]) (by rw [List.getElem?_map, List.getElem?_eq_getElem hi]; rfl)
    have hi2 : i < M.length := by omega
    obtain ⟨u, hu, _⟩ := dpAll_get2 h4 (i := i) (d := g2 M[i]) (by rw [List.getElem?_map, List.getElem?_eq_getElem hi2]; rfl)
    exact ⟨xs, ys, v, u, h1, h3, hv, hu⟩
  · obtain ⟨a', xs, e, h1, h2⟩ := dp_tup h.1
    cases e
    obtain ⟨b', ys, e, h3, h4⟩ := dp_tup h.2
    cases e
    exact ⟨xs, ys, h1, h3, .inl (by rw [dpAll_len h2, List.length_map]; exact Nat.le_refl _)⟩
  · obtain ⟨T, x, z, e1, e2, e3, h5, h6⟩ := y
    obtain ⟨a', xs, e, h1, h2⟩ := dp_tup h.1
    cases e
    obtain ⟨b', ys, e, h3, h4⟩ := dp_tup h.2
    cases e
    refine ⟨T, x, z, e1, e2, e3, fun q hq => ?_, fun q hq => ?_⟩
    · obtain ⟨d, hd, h7⟩ := dpAll_get h2 (h5 xs h1)
      rw [List.getElem?_map, hq] at hd
      rw [show g q = d from Option.some.inj hd]
      exact h7
    · obtain ⟨d, hd, h7⟩ := dpAll_get h4 (h6 ys h3)
      rw [List.getElem?_map, hq] at hd
      rw [show g2 q = d from Option.some.inj hd]
      exact h7
end
section
variable {P : Program} {w : World} {K : PySem.W.Frag} {mg : Str → Option Value} {base : Heap} {f : Addr} {fd : FuncData}
theorem sc_check_way : FnScope ["way", "word"] ["way"] d_check_way.scope := ⟨rfl, rfl, rfl, by decide +kernel, rfl, by decide +kernel, by decide +kernel⟩
def sp_check_way (K : PySem.W.Frag) : Sp := fun vs H Q _ => ∃ (v : V) (wy : List Cv), vs = [v] ∧ Dp K H v (wayD wy) ∧ wy.length ≤ 6 ∧ ∀ H', Same H H' → Q .non H'
theorem ok_check_way (G : Glb K w mg) (F : FnP K d_check_way f fd) : FnOk P w K mg base CX0 1 f fd ["way"] (sp_check_way K) := by
  refine F.ok sc_check_way (fun vs H Q E h => ?_) (fun cdv A outer s H vs Q E hr h => ?_)
  · obtain ⟨v, wy, rfl, _⟩ := h
    rfl
  · obtain ⟨v, wy, rfl, hv, hl, q⟩ := h
    obtain ⟨tm, hm⟩ := G.mostC
    obtain ⟨c, hmc, hc⟩ := G.convs
    obtain ⟨a, rfl, ha⟩ := dp_way hv
    refine ⟨_, PSs.nox (pss_cons (ps_if (PW.pt (pw_or (pt_not (pt_val (pe_callB (c_isi K) (by rfl) G.isinstance b_isinstance (pa_cons (pv 0) (pa_cons (pe_bltn (v := .ty "tuple") (by rfl) G.tuple b_tuple rfl) pa_nil)))))
        (pw_or1 (pt_cmpR op_gt (pe_callB call_len_seq (by rfl) G.len boot_len (pa_cons (pv 0) pa_nil)) (pe_glob (v := .int 6) (by rfl) hm ⟨_, rfl⟩) (nomark _))))) (pss_one ps_never) pss_nil)
      (pss_one (ps_if (pt_not (pt_val (pe_callB (c_all K rfl) (by rfl) G.all b_all (pa_cons
        (pe_lc (own := [("word", 1)]) (g := gName 1) (tt := tYes) rfl sc_check_way.nd (pi_tup (pv 0)) (blkOk_by (own := [("word", 1)]) (N := ["way", "word"]) (sc := d_check_way.scope) (by decide +kernel)) (fun _ _ _ _ _ => pg_name (i := 1) sc_check_way.nd rfl (.inl rfl)) (fun _ _ _ _ _ => pts_nil)
          (fun _ _ _ _ _ => pe_and (pe_callB (c_isi K) (by rfl) G.isinstance b_isinstance (pa_cons (pv 1) (pa_cons (pe_bltn (v := .ty "str") (by rfl) G.str b_str rfl) pa_nil))) (pe_one (pe_cmpR (o_in K) (pv 1) (pe_glob (v := .ref c) (by rfl) hmc rfl) rfl)))) pa_nil)))) (pss_one ps_never) pss_nil))), ?_⟩
    refine ⟨_, rfl, _, _, _, _, true, rfl, .ty _, tyX_tup ha, kit_ty (by decide +kernel), _, rfl, iteF ?_⟩
    refine ⟨_, rfl, a, _, rfl, .inr ha, _, _, rfl, rfl, _, rfl, ite_dec (fun h1 => ?_) (fun _ => ?_)⟩
    · have h2 := of_decide_eq_true h1
      rw [List.length_map] at h2
      omega
    refine ⟨_, rfl, a, rfl, ⟨_, ha⟩, fun D nD => lc_bools (K := K) (L := wy) (p := fun _ => true) (walk_tupD (g := fun c => .str (cvS c))) nD (by rw [sizeLine_eq]; omega) (fun H' e => Same.dp e hv) ?_ gName_mono ?_⟩
    · rintro i z x H1 H2 Nx hz e ⟨rfl, y⟩ k
      obtain rfl := dp_str (y z hz)
      refine ⟨rfl, _, rfl, _, _, _, _, true, rfl, .ty _, .base (.str _), kit_ty (by decide +kernel), _, rfl, iteT ?_⟩
      refine ⟨_, rfl, c, _, rfl, .inr (hc _), rfl, rfl, ?_⟩
      have e : inV (.str (cvS z)) [.str "all", .str "both", .str "care", .str "lone", .str "lones", .str "pairs"] = true := by cases z <;> decide +kernel
      show ∃ acc, H2 D = some (.lst acc) ∧ acc.length < sizeLine ∧ Nx (upd H2 D (.lst (acc ++ [V.bl (inV (.str (cvS z)) [.str "all", .str "both", .str "care", .str "lone", .str "lones", .str "pairs"])])))
      rw [e]
      exact k _ fun _ _ z => z
    · intro H1 e hD
      refine ⟨D, _, rfl, hD, _, rfl, ?_⟩
      rw [all_map]
      have e2 : (wy.all fun _ => true) = true := by simp
      rw [e2]
      exact iteF (q _ e)
theorem sc_start_of : FnScope ["way"] ["way"] d_start_of.scope := ⟨rfl, rfl, rfl, by decide +kernel, rfl, by decide +kernel, by decide +kernel⟩
def sp_start_of (K : PySem.W.Frag) : Sp := fun vs H Q _ => ∃ (v : V) (wy : List Cv), vs = [v] ∧ Dp K H v (wayD wy) ∧ wy.length ≤ 6 ∧ ∀ H' r, Same H H' → Dp K H' r (bitsD (TM.start wy)) → Q r H'
theorem rep_bits (n : Nat) : (List.replicate n [V.bl false]).flatten = (List.replicate n false).map V.bl := by
  induction n with
  | zero => rfl
  | succ n ih => rw [List.replicate_succ, List.flatten_cons, ih, List.replicate_succ] <;> rfl
theorem ok_start_of (G : Glb K w mg) (F : FnP K d_start_of f fd) : FnOk P w K mg base CX0 1 f fd ["way"] (sp_start_of K) := by
  refine F.ok sc_start_of (fun vs H Q E h => ?_) (fun cdv A outer s H vs Q E hr h => ?_)
  · obtain ⟨v, wy, rfl, _⟩ := h
    rfl
  · obtain ⟨v, wy, rfl, hv, hl, q⟩ := h
    obtain ⟨a, rfl, ha⟩ := dp_way hv
    refine ⟨_, PSs.nox (pss_one (ps_ret (pe_op op_repN (pe_tup (pa_cons pe_bl pa_nil)) (pe_callB (c_len K) (by rfl) G.len b_len (pa_cons (pv 0) pa_nil))))), ?_⟩
    refine ⟨by show 1 ≤ sizeLine; decide, fun p np => ?_⟩
    refine ⟨_, rfl, a, _, rfl, .inr (Same.tup (same_new np) ha), p, wy.length, _, rfl, by rw [List.length_map], .inl (.inl upd_same), by simp, by omega, by show 1 ≤ 1000; decide, fun H' p' e h => ?_⟩
    refine q H' _ (same_trans (same_new np) e) (bits_dp ?_)
    rw [rep_bits] at h
    exact h
theorem sc_left : FnScope ["word"] ["word"] d_left.scope := ⟨rfl, rfl, rfl, by decide +kernel, rfl, by decide +kernel, by decide +kernel⟩
def sp_left : Sp := fun vs H Q _ => ∃ c : Cv, vs = [.str (cvS c)] ∧ Q (.str (sgS (TM.left c))) H
theorem ok_left (F : FnP K d_left f fd) : FnOk P w K mg base CX0 1 f fd ["word"] sp_left := by
  refine F.ok sc_left (fun vs H Q E h => ?_) (fun cdv A outer s H vs Q E hr h => ?_)
  · obtain ⟨c, rfl, _⟩ := h
    rfl
  · obtain ⟨c, rfl, q⟩ := h
    refine ⟨_, PSs.nox (pss_one (ps_ret (pe_ifExp (pt_cmpR op_eq (pv 0) pe_str (nomark _)) pe_str pe_str))), ?_⟩
    refine ⟨_, rfl, rfl, _, rfl, ?_⟩
    show if decide (V.str (cvS c) = V.str (cvS .pairs)) = true then _ else _
    rw [cv_eq]
    unfold TM.left at q
    refine ite_dec (fun h1 => ?_) (fun h1 => ?_)
    · rw [if_pos (of_decide_eq_true h1)] at q
      show Q (.str "r") H
      rw [← txS_r]
      exact q
    · rw [if_neg (of_decide_eq_false h1)] at q
      show Q (.str "n") H
      rw [← txS_n]
      exact q
theorem sc_sign_by : FnScope ["word", "is_held", "sign"] ["word", "is_held", "sign"] d_sign_by.scope := ⟨rfl, rfl, rfl, by decide +kernel, rfl, by decide +kernel, by decide +kernel⟩
def sp_sign_by : Sp := fun vs H Q _ => ∃ (c : Cv) (h : Bool) (s : Sg), vs = [.str (cvS c), .bl h, .str (sgS s)] ∧ ∀ p, H p = none → Q (.ref p) (upd H p (.tup [.bl (signBy c h s).1, .str (txS (signBy c h s).2)]))
/-- a test word == '..' -/
theorem ite_cv {c d : Cv} {A B : Prop} (h1 : c = d → A) (h2 : c ≠ d → B) : if decide (V.str (cvS c) = V.str (cvS d)) = true then A else B := by
  rw [cv_eq]
  exact ite_dec (fun h => h1 (of_decide_eq_true h)) fun h => h2 (of_decide_eq_false h)
theorem ite_tx {c d : Tx} {A B : Prop} (h1 : c = d → A) (h2 : c ≠ d → B) : if decide (V.str (txS c) = V.str (txS d)) = true then A else B := by
  rw [tx_eq]
  exact ite_dec (fun h => h1 (of_decide_eq_true h)) fun h => h2 (of_decide_eq_false h)
theorem two_line : 2 ≤ sizeLine := by decide
theorem ok_sign_by (c1 : Cal P w K mg base 1 "left" ["word"] sp_left) (F : FnP K d_sign_by f fd) : FnOk P w K mg base CX0 2 f fd ["word", "is_held", "sign"] sp_sign_by := by
  refine F.ok sc_sign_by (fun vs H Q E h => ?_) (fun cdv A outer s H vs Q E hr h => ?_)
  · obtain ⟨c, h, s, rfl, _⟩ := h
    rfl
  · obtain ⟨c, h, s, rfl, q⟩ := h
    have e_n : ("n" : Str) = txS [.n] := txS_n.symm
    have e_r : ("r" : Str) = txS [.r] := txS_r.symm
    have e_a : ("a" : Str) = txS [.a] := txS_a.symm
    have e_rn : ("rn" : Str) = txS [.r, .n] := txS_rn.symm
    have e_0 : ("" : Str) = txS [] := txS_nil.symm
    refine ⟨_, PSs.nox (pss_cons (ps_if (pt_cmpR op_eq (pv 0) pe_str (nomark _)) (pss_one (ps_ret (pe_tup (pa_cons pe_bl (pa_cons (pe_ifExp (pt_cmpR op_eq (pv 2) pe_str (nomark _)) pe_str (pv 2)) pa_nil))))) pss_nil)
      (pss_cons (ps_if (pt_cmpR op_eq (pv 0) pe_str (nomark _)) (pss_one (ps_ret (pe_tup (pa_cons pe_bl (pa_cons (pe_ifExp (pt_cmpR op_eq (pv 2) pe_str (nomark _)) pe_str (pv 2)) pa_nil))))) pss_nil)
      (pss_cons (ps_if (pt_cmpR op_eq (pv 0) pe_str (nomark _)) (pss_one (ps_ret (pe_tup (pa_cons (pe_cmpR op_eq (pv 2) pe_str (nomark _)) (pa_cons (pe_ifExp (PW.pt (pw_and (pt_cmpR op_eq (pv 2) pe_str (nomark _)) (pw_and1 (pt_not (pt_val (pv 1)))))) pe_str (pv 2)) pa_nil))))) pss_nil)
      (pss_cons (ps_if (pt_cmpR op_eq (pv 2) pe_str (nomark _)) (pss_one (ps_ret (pe_tup (pa_cons pe_bl (pa_cons (pe_ifExp (pt_val (pv 1)) (pe_cal c1 hr (by decide) rfl (pa_cons (pv 0) pa_nil)) pe_str) pa_nil))))) pss_nil)
      (pss_cons (ps_if (pt_not (pt_val (pv 1))) (pss_one (ps_ret (pe_tup (pa_cons pe_bl (pa_cons (pv 2) pa_nil))))) pss_nil)
      (pss_cons (ps_if (pt_cmpR op_eq (pv 2) pe_str (nomark _)) (pss_one (ps_ret (pe_tup (pa_cons pe_bl (pa_cons (pe_op op_add_str (pe_cal c1 hr (by decide) rfl (pa_cons (pv 0) pa_nil)) pe_str) pa_nil))))) pss_nil)
      (pss_one (ps_ret (pe_tup (pa_cons pe_bl (pa_cons (pe_ifExp (pt_cmpR op_eq (pv 0) pe_str (nomark _)) pe_str pe_str) pa_nil))))))))))), ?_⟩
    refine ⟨_, rfl, rfl, _, rfl, ite_cv (d := .all) (fun z => ?_) (fun z1 => ?_)⟩
    · subst z
      refine ⟨_, rfl, rfl, _, rfl, ?_⟩
      rw [e_n, e_rn]
      refine ite_tx (fun z => ?_) (fun z => ?_)
      · injection z with z
        subst z
        exact ⟨two_line, q⟩
      · refine ⟨_, rfl, two_line, ?_⟩
        have e : signBy .all h s = (false, [s]) := by cases s <;> first | rfl | exact absurd rfl z
        rw [e] at q
        exact q
    refine ⟨_, rfl, rfl, _, rfl, ite_cv (d := .lone) (fun z => ?_) (fun z2 => ?_)⟩
    · subst z
      refine ⟨_, rfl, rfl, _, rfl, ?_⟩
      rw [e_n, e_r]
      refine ite_tx (fun z => ?_) (fun z => ?_)
      · injection z with z
        subst z
        exact ⟨two_line, q⟩
      · refine ⟨_, rfl, two_line, ?_⟩
        have e : signBy .lone h s = (false, [s]) := by cases s <;> first | rfl | exact absurd rfl z
        rw [e] at q
        exact q
    refine ⟨_, rfl, rfl, _, rfl, ite_cv (d := .care) (fun z => ?_) (fun z3 => ?_)⟩
    · subst z
      refine ⟨_, rfl, rfl, _, rfl, rfl, _, rfl, ?_⟩
      rw [e_n, e_r, e_rn, tx_eq]
      have e1 : decide ([s] = [Sg.r]) = (signBy .care h s).1 := by cases s <;> rfl
      rw [e1]
      refine ite_tx (fun z => ?_) (fun z => ?_)
      · injection z with z
        subst z
        refine ⟨_, rfl, _, rfl, ?_⟩
        cases h with
        | false => exact iteT ⟨two_line, q⟩
        | true => exact iteF ⟨_, rfl, two_line, q⟩
      · refine iteF ⟨_, rfl, two_line, ?_⟩
        have e : (signBy .care h s).2 = [s] := by cases s <;> cases h <;> first | rfl | exact absurd rfl z
        rw [e] at q
        exact q
    have key : ∀ A B : Bool × Tx, (signBy c h s = if s = .r then (true, if h = true then [TM.left c] else []) else if h = false then (false, [s]) else if s = .a then (false, [TM.left c, .a]) else (false, if c = .lones then [.r, .n] else [.n])) := fun _ _ => by
      unfold signBy
      rw [if_neg z1, if_neg z2, if_neg z3]
    have key := key (false, []) (false, [])
    refine ⟨_, rfl, rfl, _, rfl, ?_⟩
    rw [e_r]
    refine ite_tx (fun z => ?_) (fun z4 => ?_)
    · injection z with z
      subst z
      rw [if_pos rfl] at key
      refine ⟨_, rfl, _, rfl, ?_⟩
      cases h with
      | true =>
        refine iteT ⟨_, rfl, c, rfl, two_line, ?_⟩
        rw [key] at q
        exact q
      | false =>
        refine iteF ⟨two_line, ?_⟩
        rw [key] at q
        show ∀ p, H p = none → Q (.ref p) (upd H p (.tup [.bl true, .str ""]))
        rw [e_0]
        exact q
    have z4' : s ≠ .r := fun e => z4 (by rw [e])
    rw [if_neg z4'] at key
    refine ⟨_, rfl, _, rfl, ?_⟩
    cases h with
    | false =>
      refine iteT ⟨_, rfl, two_line, ?_⟩
      rw [if_pos rfl] at key
      rw [key] at q
      exact q
    | true =>
      refine iteF ⟨_, rfl, rfl, _, rfl, ?_⟩
      rw [if_neg (by decide)] at key
      rw [e_a]
      refine ite_tx (fun z => ?_) (fun z5 => ?_)
      · injection z with z
        subst z
        refine ⟨_, rfl, c, rfl, _, _, rfl, rfl, ?_, two_line, ?_⟩
        · rw [txS_len, txS_len, sizeLine_eq]
          show 1 + 1 ≤ 16777216
          decide
        · rw [if_pos rfl] at key
          rw [key] at q
          rw [txS_app]
          exact q
      · have z5' : s ≠ .a := fun e => z5 (by rw [e])
        rw [if_neg z5'] at key
        refine ⟨_, rfl, rfl, _, rfl, ite_cv (d := .lones) (fun z => ?_) (fun z => ?_)⟩
        · rw [if_pos z] at key
          rw [key] at q
          refine ⟨two_line, ?_⟩
          rw [e_rn]
          exact q
        · rw [if_neg z] at key
          rw [key] at q
          refine ⟨two_line, ?_⟩
          rw [e_n]
          exact q
theorem sc_text_by : FnScope ["word", "is_held", "text", "found", "sign", "some"] ["word", "is_held", "text"] d_text_by.scope := ⟨rfl, rfl, rfl, by decide +kernel, rfl, by decide +kernel, by decide +kernel⟩
def sp_text_by (K : PySem.W.Frag) : Sp := fun vs H Q _ => ∃ (c : Cv) (h : Bool) (t : Tx), vs = [.str (cvS c), .bl h, .str (txS t)] ∧ t.length ≤ 2097152 ∧ ∀ H' p, Same H H' → SqT K H' p [.bl (textBy c h t).1, .str (txS (textBy c h t).2)] → Q (.ref p) H'
theorem take_at {α : Type} {l : List α} {i : Nat} {a : α} (h : l[i]? = some a) : l.take (i + 1) = l.take i ++ [a] := by
  rw [List.take_add_one, h]
  rfl
theorem ok_text_by (c1 : Cal P w K mg base 2 "sign_by" ["word", "is_held", "sign"] sp_sign_by) (F : FnP K d_text_by f fd) : FnOk P w K mg base CX0 3 f fd ["word", "is_held", "text"] (sp_text_by K) := by
  refine F.ok sc_text_by (fun vs H Q E h => ?_) (fun cdv A outer s H vs Q E hr h => ?_)
  · obtain ⟨c, h, t, rfl, _⟩ := h
    rfl
  · obtain ⟨c, h, t, rfl, hl, q⟩ := h
    refine ⟨_, PSs.nox (pss_cons (ps_set (i := 3) sc_text_by.nd rfl (.inl rfl) pe_str)
      (pss_cons (ps_for PassesOwn.never rfl (pi_str (pv 2)) (pg_name (i := 4) sc_text_by.nd rfl (.inl rfl))
        (pss_cons (ps_asg (pe_cal c1 hr (by decide) rfl (pa_cons (pv 0) (pa_cons (pv 1) (pa_cons (pv 4) pa_nil)))) (pg_tup rfl (pgs_cons (pg_name (i := 1) sc_text_by.nd rfl (.inl rfl)) (pgs_cons (pg_name (i := 5) sc_text_by.nd rfl (.inl rfl)) pgs_nil))))
        (pss_one (ps_set (i := 3) sc_text_by.nd rfl (.inl rfl) (pe_op op_add_str (pv 3) (pv 5))))))
      (pss_one (ps_ret (pe_tup (pa_cons (pv 1) (pa_cons (pv 3) pa_nil))))))), ?_⟩
    refine ⟨_, rfl, _, rfl, for_it walk_str (fun i σ H' => ∃ (v v2 : Option V), Same H H' ∧ σ = [some (.str (cvS c)), some (.bl (textBy c h (t.take i)).1), some (.str (txS t)), some (.str (txS (textBy c h (t.take i)).2)), v, v2])
      ⟨none, none, fun _ _ z => z, ?_⟩ (fun _ _ _ _ _ => True.intro) ?_ ?_⟩
    · show [some (V.str (cvS c)), some (V.bl h), some (V.str (txS t)), some (V.str ""), none, none] = _
      rw [← txS_nil]
      rfl
    · rintro i x σ H1 H2 hi ⟨v, v2, sm, rfl⟩ ⟨rfl, k, hk, rfl⟩
      obtain ⟨s1, h1, h2⟩ := tx_at hk
      rw [h2]
      refine ⟨_, rfl, _, rfl, _, rfl, c, (textBy c h (t.take i)).1, s1, rfl, fun p np => ?_⟩
      refine ⟨p, _, rfl, .inl (.inl upd_same), rfl, _, _, rfl, _, _, rfl, rfl, _, rfl, _, rfl, _, _, rfl, rfl, ?_, some (.str (sgS s1)), some (.str (txS (signBy c (textBy c h (t.take i)).1 s1).2)), same_trans sm (same_new np), ?_⟩
      · rw [txS_len, txS_len, sizeLine_eq]
        have a1 := textBy_len c (t.take i) h
        have a2 := signBy_len c (textBy c h (t.take i)).1 s1
        have a3 : (t.take i).length ≤ t.length := by rw [List.length_take]; omega
        omega
      · rw [take_at h1, textBy_snoc, txS_app]
        rfl
    · rintro σ H2 ⟨v, v2, sm, rfl⟩
      rw [tx_size, List.take_length]
      exact ⟨_, rfl, _, rfl, two_line, fun p np => q _ p (same_trans sm (same_new np)) (.inl (.inl upd_same))⟩
theorem sc_read_by : FnScope ["way", "standing", "text", "late", "word", "is_held"] ["way", "standing", "text"] d_read_by.scope := ⟨rfl, rfl, rfl, by decide +kernel, rfl, by decide +kernel, by decide +kernel⟩
def sp_read_by (K : PySem.W.Frag) : Sp := fun vs H Q _ => ∃ (v1 v2 : V) (wy : List Cv) (st : List Bool) (t : Tx), vs = [v1, v2, .str (txS t)] ∧ Dp K H v1 (wayD wy) ∧ Dp K H v2 (bitsD st) ∧ st.length = wy.length ∧ wy.length ≤ 6 ∧ t.length ≤ 8192 ∧
  ∀ H' p b, Same H H' → SqT K H' p [.ref b, .str (txS (readBy wy st t).2)] → Dp K H' (.ref b) (bitsD (readBy wy st t).1) → Q (.ref p) H'
/-- a reading, conversion by conversion -/
theorem readBy_at {c : Cv} {b : Bool} {w : List Cv} {st : List Bool} {i : Nat} {t : Tx} (h1 : w[i]? = some c) (h2 : st[i]? = some b) :
    readBy (w.drop i) (st.drop i) t = ((textBy c b t).1 :: (readBy (w.drop (i + 1)) (st.drop (i + 1)) (textBy c b t).2).1, (readBy (w.drop (i + 1)) (st.drop (i + 1)) (textBy c b t).2).2) := by
  rw [drop_at h1, drop_at h2]
  rfl
theorem endF_at {c : Cv} {b : Bool} {w : List Cv} {st : List Bool} {i : Nat} {t : Tx} (h1 : w[i]? = some c) (h2 : st[i]? = some b) :
    endF (w.drop i) (st.drop i) t = endF (w.drop (i + 1)) (st.drop (i + 1)) ((textBy c b t).2 ++ flush c (textBy c b t).1) := by
  rw [drop_at h1, drop_at h2]
  rfl
theorem pow_step {n i m k : Nat} (h : n ≤ 2 ^ i * m) (hk : k ≤ 2 * n) : k ≤ 2 ^ (i + 1) * m := by
  rw [Nat.pow_succ, Nat.mul_comm (2 ^ i) 2, Nat.mul_assoc]
  omega
theorem pow_le {n i m : Nat} (h : n ≤ 2 ^ i * m) (hi : i ≤ 6) (hm : m ≤ 8192) : n ≤ 524288 :=
  Nat.le_trans h (Nat.le_trans (Nat.mul_le_mul (Nat.pow_le_pow_right (by decide) hi) hm) (by decide))
theorem ok_read_by (G : Glb K w mg) (c1 : Cal P w K mg base 3 "text_by" ["word", "is_held", "text"] (sp_text_by K)) (F : FnP K d_read_by f fd) : FnOk P w K mg base CX0 4 f fd ["way", "standing", "text"] (sp_read_by K) := by
  refine F.ok sc_read_by (fun vs H Q E h => ?_) (fun cdv A outer s H vs Q E hr h => ?_)
  · obtain ⟨v1, v2, wy, st, t, rfl, _⟩ := h
    rfl
  · obtain ⟨v1, v2, wy, st, t, rfl, hw, hs, hl, h6, ht, q⟩ := h
    obtain ⟨a, rfl, ha⟩ := dp_way hw
    obtain ⟨b, rfl, hb⟩ := dp_bits hs
    refine ⟨_, PSs.nox (pss_cons (ps_set (i := 3) sc_read_by.nd rfl (.inl rfl) (pe_lst pa_nil))
      (pss_cons (ps_for PassesOwn.never rfl (RZ.pi_zipA (by rfl) G.zip (pa_cons (pv 0) (pa_cons (pv 1) pa_nil))) (pg_tup rfl (pgs_cons (pg_name (i := 4) sc_read_by.nd rfl (.inl rfl)) (pgs_cons (pg_name (i := 5) sc_read_by.nd rfl (.inl rfl)) pgs_nil)))
        (pss_cons (ps_asg (pe_cal c1 hr (by decide) rfl (pa_cons (pv 4) (pa_cons (pv 5) (pa_cons (pv 2) pa_nil)))) (pg_tup rfl (pgs_cons (pg_name (i := 5) sc_read_by.nd rfl (.inl rfl)) (pgs_cons (pg_name (i := 2) sc_read_by.nd rfl (.inl rfl)) pgs_nil))))
        (pss_one (ps_expr (pe_bm PySem.F.plainAttrs_list PySem.F.slot_list_append PySem.F.type_list_append mt_append (pv 3) (pa_cons (pv 5) pa_nil))))))
      (pss_one (ps_ret (pe_tup (pa_cons (pe_callTy call_tuple_of (by rfl) G.tuple b_tuple (pa_cons (pv 3) pa_nil)) (pa_cons (pv 2) pa_nil))))))), ?_⟩
    refine ⟨Nat.zero_le _, fun L nL => ?_⟩
    have s0 : Same H (upd H L (.lst [])) := same_new nL
    refine ⟨_, rfl, _, rfl, a, b, _, _, rfl, .inr ⟨Same.tup s0 ha, Same.tup s0 hb, for_it (walk_zipD (K := K) (L := wy) (M := st) (g := fun c => .str (cvS c)) (g2 := PyData.bool) hl)
      (fun i σ H' => ∃ (bs : List Bool) (t' : Tx) (v v2 : Option V), Same H H' ∧ H' L = some (.lst (bs.map V.bl)) ∧ bs.length = i ∧ t'.length ≤ 2 ^ i * t.length ∧ readBy wy st t = (bs ++ (readBy (wy.drop i) (st.drop i) t').1, (readBy (wy.drop i) (st.drop i) t').2) ∧
        σ = [some (.ref a), some (.ref b), some (.str (txS t')), some (.ref L), v, v2])
      ⟨[], t, none, none, s0, upd_same, rfl, by simp, rfl, rfl⟩ (fun i σ H' _ ⟨_, _, _, _, sm, _⟩ => ⟨Same.dp sm hw, Same.dp sm hs⟩) ?_ ?_⟩⟩
    · rintro i x σ H1 H2 hi ⟨bs, t', v, v2, sm, hL, hbl, htl, hrd, rfl⟩ ⟨T, y, z, rfl, nT, rfl, hy, hz⟩
      have ha1 : wy[i]? = some wy[i] := List.getElem?_eq_getElem hi
      have hi2 : i < st.length := by omega
      have hb1 : st[i]? = some st[i] := List.getElem?_eq_getElem hi2
      obtain rfl := dp_str (hy _ ha1)
      obtain rfl := dp_bool (hz _ hb1)
      have htl2 : t'.length ≤ 524288 := pow_le htl (by omega) ht
      have s2 : Same H1 (upd H1 T (.tup [.str (cvS wy[i]), .bl st[i]])) := same_new nT
      refine ⟨T, _, rfl, .inl (.inl upd_same), rfl, _, _, rfl, _, _, rfl, rfl, ?_⟩
      refine ⟨_, rfl, _, rfl, _, rfl, wy[i], st[i], t', rfl, by omega, fun H3 p e3 hp => ?_⟩
      refine ⟨p, _, rfl, hp, rfl, _, _, rfl, _, _, rfl, rfl, ?_⟩
      have s3 := same_trans s2 e3
      have hL3 := s3 _ _ hL
      refine ⟨_, rfl, .inl ⟨rfl, _, .inl (.inl hL3)⟩, _, rfl, L, _, _, rfl, rfl, hL3, ?_, ?_⟩
      · rw [List.length_map, sizeLine_eq]
        omega
      · refine ⟨bs ++ [(textBy wy[i] st[i] t').1], (textBy wy[i] st[i] t').2, _, _, same_upd (same_trans sm s3) nL, ?_, ?_, ?_, ?_, rfl⟩
        · rw [upd_same, List.map_append]
          rfl
        · rw [List.length_append, hbl]
          rfl
        · exact pow_step htl (textBy_len _ _ _)
        · rw [hrd, readBy_at ha1 hb1]
          simp
    · rintro σ H2 ⟨bs, t', v, v2, sm, hL, hbl, htl, hrd, rfl⟩
      rw [List.drop_length, readBy_nil] at hrd
      refine ⟨_, rfl, L, _, rfl, .inl ⟨.inl (.inl hL), fun p np => ?_⟩⟩
      refine ⟨_, rfl, two_line, fun p2 np2 => ?_⟩
      have e1 : Same H (upd (upd H2 p (.tup (bs.map V.bl))) p2 (.tup [.ref p, .str (txS t')])) := same_trans sm (same_trans (same_new np) (same_new np2))
      refine q _ p2 p e1 (.inl (.inl ?_)) ?_
      · rw [upd_same, hrd]
      · rw [hrd]
        refine bits_dp (.inl (.inl ?_))
        show upd (upd H2 p _) p2 _ p = some (.tup ((bs ++ []).map V.bl))
        rw [List.append_nil, upd_ne (ne_of_none upd_same np2), upd_same]
theorem sc_ended : FnScope ["way", "standing", "text", "word", "is_held"] ["way", "standing"] d_ended.scope := ⟨rfl, rfl, rfl, by decide +kernel, rfl, by decide +kernel, by decide +kernel⟩
def sp_ended (K : PySem.W.Frag) : Sp := fun vs H Q _ => ∃ (v1 v2 : V) (wy : List Cv) (st : List Bool), vs = [v1, v2] ∧ Dp K H v1 (wayD wy) ∧ Dp K H v2 (bitsD st) ∧ st.length = wy.length ∧ wy.length ≤ 6 ∧ ∀ H', Same H H' → Q (.str (txS (TM.ended wy st))) H'
theorem ok_ended (G : Glb K w mg) (c1 : Cal P w K mg base 3 "text_by" ["word", "is_held", "text"] (sp_text_by K)) (c2 : Cal P w K mg base 1 "left" ["word"] sp_left) (F : FnP K d_ended f fd) : FnOk P w K mg base CX0 4 f fd ["way", "standing"] (sp_ended K) := by
  refine F.ok sc_ended (fun vs H Q E h => ?_) (fun cdv A outer s H vs Q E hr h => ?_)
  · obtain ⟨v1, v2, wy, st, rfl, _⟩ := h
    rfl
  · obtain ⟨v1, v2, wy, st, rfl, hw, hs, hl, h6, q⟩ := h
    obtain ⟨a, rfl, ha⟩ := dp_way hw
    obtain ⟨b, rfl, hb⟩ := dp_bits hs
    obtain ⟨hd, hmh, hh⟩ := G.hold
    refine ⟨_, PSs.nox (pss_cons (ps_set (i := 2) sc_ended.nd rfl (.inl rfl) pe_str)
      (pss_cons (ps_for PassesOwn.never rfl (RZ.pi_zipA (by rfl) G.zip (pa_cons (pv 0) (pa_cons (pv 1) pa_nil))) (pg_tup rfl (pgs_cons (pg_name (i := 3) sc_ended.nd rfl (.inl rfl)) (pgs_cons (pg_name (i := 4) sc_ended.nd rfl (.inl rfl)) pgs_nil)))
        (pss_cons (ps_asg (pe_cal c1 hr (by decide) rfl (pa_cons (pv 3) (pa_cons (pv 4) (pa_cons (pv 2) pa_nil)))) (pg_tup rfl (pgs_cons (pg_name (i := 4) sc_ended.nd rfl (.inl rfl)) (pgs_cons (pg_name (i := 2) sc_ended.nd rfl (.inl rfl)) pgs_nil))))
        (pss_one (ps_if (PW.pt (pw_and (pt_val (pv 4)) (pw_and1 (pt_cmpR op_in_seq (pv 3) (pe_glob (v := .ref hd) (by rfl) hmh rfl) rfl))))
          (pss_one (ps_set (i := 2) sc_ended.nd rfl (.inl rfl) (pe_op op_add_str (pv 2) (pe_cal c2 hr (by decide) rfl (pa_cons (pv 3) pa_nil))))) pss_nil))))
      (pss_one (ps_ret (pv 2))))), ?_⟩
    refine ⟨_, rfl, _, rfl, a, b, _, _, rfl, .inr ⟨ha, hb, for_it (walk_zipD (K := K) (L := wy) (M := st) (g := fun c => .str (cvS c)) (g2 := PyData.bool) hl)
      (fun i σ H' => ∃ (t' : Tx) (v v2 : Option V), Same H H' ∧ t'.length + 1 ≤ 2 ^ i * 1 ∧ TM.ended wy st = endF (wy.drop i) (st.drop i) t' ∧ σ = [some (.ref a), some (.ref b), some (.str (txS t')), v, v2])
      ⟨[], none, none, fun _ _ z => z, by simp, rfl, ?_⟩ (fun i σ H' _ ⟨_, _, _, sm, _⟩ => ⟨Same.dp sm hw, Same.dp sm hs⟩) ?_ ?_⟩⟩
    · show [some (V.ref a), some (V.ref b), some (V.str ""), none, none] = _
      rw [← txS_nil]
    · rintro i x σ H1 H2 hi ⟨t', v, v2, sm, htl, hrd, rfl⟩ ⟨T, y, z, rfl, nT, rfl, hy, hz⟩
      have ha1 : wy[i]? = some wy[i] := List.getElem?_eq_getElem hi
      have hi2 : i < st.length := by omega
      have hb1 : st[i]? = some st[i] := List.getElem?_eq_getElem hi2
      obtain rfl := dp_str (hy _ ha1)
      obtain rfl := dp_bool (hz _ hb1)
      have htl2 : t'.length + 1 ≤ 524288 := pow_le htl (by omega) (by decide)
      have s2 : Same H1 (upd H1 T (.tup [.str (cvS wy[i]), .bl st[i]])) := same_new nT
      refine ⟨T, _, rfl, .inl (.inl upd_same), rfl, _, _, rfl, _, _, rfl, rfl, ?_⟩
      refine ⟨_, rfl, _, rfl, _, rfl, wy[i], st[i], t', rfl, by omega, fun H3 p e3 hp => ?_⟩
      refine ⟨p, _, rfl, hp, rfl, _, _, rfl, _, _, rfl, rfl, ?_⟩
      have s3 := same_trans s2 e3
      have tb := textBy_len wy[i] t' st[i]
      have e1 := endF_at (t := t') ha1 hb1
      have fin : ∀ (H4 : Hp) (t2 : Tx) (v v2 : Option V), Same H3 H4 → t2 = (textBy wy[i] st[i] t').2 ++ flush wy[i] (textBy wy[i] st[i] t').1 →
        ∃ (t' : Tx) (u u2 : Option V), Same H H4 ∧ t'.length + 1 ≤ 2 ^ (i + 1) * 1 ∧ TM.ended wy st = endF (wy.drop (i + 1)) (st.drop (i + 1)) t' ∧ [some (V.ref a), some (V.ref b), some (.str (txS t2)), v, v2] = [some (.ref a), some (.ref b), some (.str (txS t')), u, u2] := fun H4 t2 v v2 e4 et => by
        refine ⟨t2, v, v2, same_trans sm (same_trans s3 e4), ?_, by rw [hrd, e1, et], rfl⟩
        have fl := flush_len wy[i] (textBy wy[i] st[i] t').1
        have l2 : t2.length = (textBy wy[i] st[i] t').2.length + (flush wy[i] (textBy wy[i] st[i] t').1).length := by rw [et, List.length_append]
        exact pow_step htl (by omega)
      refine ⟨_, rfl, _, rfl, ?_⟩
      cases hb : (textBy wy[i] st[i] t').1 with
      | false =>
        refine iteF (iteF ?_)
        refine fin _ _ _ _ (fun _ _ z => z) ?_
        have z : flush wy[i] (textBy wy[i] st[i] t').1 = [] := by
          unfold flush
          rw [hb]
          rfl
        rw [z, List.append_nil]
      | true =>
        refine iteT ⟨_, rfl, hd, _, rfl, .inr (hh _), rfl, rfl, _, rfl, ?_⟩
        have z : inV (.str (cvS wy[i])) [.str "both", .str "lones", .str "pairs"] = holding wy[i] := by cases wy[i] <;> decide +kernel
        have z2 : (if false = true then !inV (.str (cvS wy[i])) [.str "both", .str "lones", .str "pairs"] else inV (.str (cvS wy[i])) [.str "both", .str "lones", .str "pairs"]) = holding wy[i] := (if_neg Bool.false_ne_true).trans z
        rw [z2]
        cases hh2 : holding wy[i] with
        | false =>
          refine iteF ?_
          refine fin _ _ _ _ (fun _ _ z => z) ?_
          have z : flush wy[i] (textBy wy[i] st[i] t').1 = [] := by
            unfold flush
            rw [hh2, Bool.and_false]
            rfl
          rw [z, List.append_nil]
        | true =>
          refine iteT ⟨_, rfl, _, rfl, wy[i], rfl, _, _, rfl, rfl, ?_, ?_⟩
          · rw [txS_len, txS_len, sizeLine_eq]
            show _ + 1 ≤ _
            omega
          · rw [txS_app]
            refine fin _ _ _ _ (fun _ _ z => z) ?_
            have z : flush wy[i] (textBy wy[i] st[i] t').1 = [TM.left wy[i]] := by
              unfold flush
              rw [hh2, hb]
              rfl
            rw [z]
    · rintro σ H2 ⟨t', v, v2, sm, htl, hrd, rfl⟩
      rw [List.drop_length, endF_nil] at hrd
      refine ⟨_, rfl, ?_⟩
      rw [← hrd]
      exact q _ sm
theorem sc_made : FnScope ["way", "text", "standing", "found"] ["way", "text"] d_made.scope := ⟨rfl, rfl, rfl, by decide +kernel, rfl, by decide +kernel, by decide +kernel⟩
def sp_made (K : PySem.W.Frag) : Sp := fun vs H Q _ => ∃ (v1 : V) (wy : List Cv) (t : Tx), vs = [v1, .str (txS t)] ∧ Dp K H v1 (wayD wy) ∧ wy.length ≤ 6 ∧ t.length ≤ 8192 ∧ ∀ H', Same H H' → Q (.str (txS (TM.made wy t))) H'
theorem ok_made (c1 : Cal P w K mg base 4 "read_by" ["way", "standing", "text"] (sp_read_by K)) (c2 : Cal P w K mg base 1 "start_of" ["way"] (sp_start_of K)) (c3 : Cal P w K mg base 4 "ended" ["way", "standing"] (sp_ended K)) (F : FnP K d_made f fd) :
    FnOk P w K mg base CX0 5 f fd ["way", "text"] (sp_made K) := by
  refine F.ok sc_made (fun vs H Q E h => ?_) (fun cdv A outer s H vs Q E hr h => ?_)
  · obtain ⟨v1, wy, t, rfl, _⟩ := h
    rfl
  · obtain ⟨v1, wy, t, rfl, hw, h6, ht, q⟩ := h
    refine ⟨_, PSs.nox (pss_cons (ps_asg (pe_cal c1 hr (by decide) rfl (pa_cons (pv 0) (pa_cons (pe_cal c2 hr (by decide) rfl (pa_cons (pv 0) pa_nil)) (pa_cons (pv 1) pa_nil)))) (pg_tup rfl (pgs_cons (pg_name (i := 2) sc_made.nd rfl (.inl rfl)) (pgs_cons (pg_name (i := 3) sc_made.nd rfl (.inl rfl)) pgs_nil))))
      (pss_one (ps_ret (pe_op op_add_str (pv 3) (pe_cal c3 hr (by decide) rfl (pa_cons (pv 0) (pa_cons (pv 2) pa_nil))))))), ?_⟩
    have l1 : (TM.start wy).length = wy.length := List.length_replicate ..
    refine ⟨_, rfl, _, rfl, v1, wy, rfl, hw, h6, fun H1 r e1 hr1 => ?_⟩
    refine ⟨_, rfl, v1, r, wy, TM.start wy, t, rfl, Same.dp e1 hw, hr1, l1, h6, ht, fun H2 p b e2 hp hb => ?_⟩
    refine ⟨p, _, rfl, hp, rfl, _, _, rfl, _, _, rfl, rfl, ?_⟩
    have e12 := same_trans e1 e2
    refine ⟨_, rfl, _, rfl, _, rfl, v1, .ref b, wy, _, rfl, Same.dp e12 hw, hb, readBy_st wy _ t l1, h6, fun H3 e3 => ?_⟩
    refine ⟨_, _, rfl, rfl, ?_, ?_⟩
    · rw [txS_len, txS_len, sizeLine_eq]
      have a1 := pow_le (readBy_len wy (TM.start wy) t) h6 ht
      have a2 := pow_le (m := 1) (endF_len wy (readBy wy (TM.start wy) t).1 []) h6 (by decide)
      unfold TM.ended
      omega
    · rw [txS_app]
      exact q _ (same_trans e12 e3)
end
end TE

set_option Elab.async false
set_option linter.all false
set_option maxRecDepth 100000
set_option maxHeartbeats 4000000
/-! The defs: comparing, one. -/
namespace TE
open PySem PySem.Spec PyProof.Rows L2 TM
theorem cut_from (x : Tx) (m : Nat) (h : m ≤ x.length) : cutS (txS x) (some (m : Int)) none = txS (x.drop m) := by
  unfold cutS
  rw [tx_cps, txS_len, HT.sIx_nat, HT.sIx_none]
  unfold txS
  rw [List.map_drop, Nat.min_eq_left h]
  congr 2
  exact List.take_of_length_le (by rw [List.length_drop, List.length_map]; omega)
theorem tx_atI {x : Tx} {m : Nat} {s : Sg} (h : x[m]? = some s) : atI (txS x).cps.toList (m : Int) = some (sgC s) := by
  refine atI_nat ?_
  rw [tx_cps, List.getElem?_map, h]
  rfl
theorem woc_same {a : Sg} {x y : Tx} : woc (a :: x) (a :: y) = woc x y := if_pos rfl
theorem woc_stop : ∀ {x y : Tx}, (∀ a b, x.head? = some a → y.head? = some b → a ≠ b) → woc x y = (x, y)
  | [], y, _ => by cases y <;> rfl
  | a :: x, [], _ => rfl
  | a :: x, b :: y, h => if_neg (h a b rfl rfl)
section
variable {P : Program} {w : World} {K : PySem.W.Frag} {mg : Str → Option Value} {base : Heap} {f : Addr} {fd : FuncData}
theorem sc_without_common : FnScope ["mine", "theirs", "many"] ["mine", "theirs"] d_without_common.scope := ⟨rfl, rfl, rfl, by decide +kernel, rfl, by decide +kernel, by decide +kernel⟩
def sp_without_common : Sp := fun vs H Q _ => ∃ x y : Tx, vs = [.str (txS x), .str (txS y)] ∧ x.length ≤ 1048576 ∧ y.length ≤ 1048576 ∧ ∀ p, H p = none → Q (.ref p) (upd H p (.tup [.str (txS (woc x y).1), .str (txS (woc x y).2)]))
theorem ok_without_common (G : Glb K w mg) (F : FnP K d_without_common f fd) : FnOk P w K mg base CX0 1 f fd ["mine", "theirs"] sp_without_common := by
  refine F.ok sc_without_common (fun vs H Q E h => ?_) (fun cdv A outer s H vs Q E hr h => ?_)
  · obtain ⟨x, y, rfl, _⟩ := h
    rfl
  · obtain ⟨x, y, rfl, hx, hy, q⟩ := h
    have sl := sizeLine_eq
    refine ⟨_, PSs.nox (pss_cons (ps_set (i := 2) sc_without_common.nd rfl (.inl rfl) pe_int)
      (pss_cons (ps_while PassesOwn.never (PW.pt (pw_and (pt_cmpR op_lt (pv 2) (pe_callB (call_min2 rfl) (by rfl) G.min b_min (pa_cons (pe_callB call_len_str (by rfl) G.len b_len (pa_cons (pv 0) pa_nil)) (pa_cons (pe_callB call_len_str (by rfl) G.len b_len (pa_cons (pv 1) pa_nil)) pa_nil))) (nomark _))
          (pw_and1 (pt_cmpR op_eq (pe_ix ix_str (pv 0) (pv 2) (fun _ _ => rfl)) (pe_ix ix_str (pv 1) (pv 2) (fun _ _ => rfl)) (nomark _)))))
        (pss_one (ps_aug (i := 2) sc_without_common.nd rfl (.inl rfl) pe_int ip_add)))
      (pss_one (ps_ret (pe_tup (pa_cons (pe_slice sl_str (pv 0) (po_some (pv 2)) po_none) (pa_cons (pe_slice sl_str (pv 1) (po_some (pv 2)) po_none) pa_nil))))))), ?_⟩
    refine ⟨fun n σ H' => ∃ m : Nat, H' = H ∧ m + n = x.length ∧ m ≤ y.length ∧ woc x y = woc (x.drop m) (y.drop m) ∧ σ = [some (.str (txS x)), some (.str (txS y)), some (.int m)], ⟨x.length, 0, rfl, by omega, by omega, rfl, rfl⟩, ?_⟩
    rintro n σ H' ⟨m, rfl, h1, h2, h3, rfl⟩
    have stop : woc (x.drop m) (y.drop m) = (x.drop m, y.drop m) → tRet (tTup (tCons (tSl rSlS (tVar 0) (tPart (tVar 2)) tNoPart) (tCons (tSl rSlS (tVar 1) (tPart (tVar 2)) tNoPart) tNil))) { nx := fun _ H' => Q .non H', rt := Q } [some (.str (txS x)), some (.str (txS y)), some (.int m)] H' := fun hw => by
      refine ⟨_, rfl, _, rfl, _, rfl, _, rfl, by rw [txS_len]; omega, _, rfl, _, rfl, _, rfl, _, rfl, by rw [txS_len]; omega, two_line, ?_⟩
      rw [cut_from x m (by omega), cut_from y m h2]
      rw [h3, hw] at q
      exact q
    refine ⟨_, rfl, _, rfl, _, rfl, by rw [txS_len]; omega, _, rfl, _, rfl, by rw [txS_len]; omega, _, _, rfl, _, _, rfl, rfl, _, rfl, ?_⟩
    refine ite_dec (fun h4 => ?_) (fun h4 => iteF ?_)
    · have h4 := of_decide_eq_true h4
      rw [txS_len, txS_len] at h4
      have h5 : m < x.length ∧ m < y.length := by
        split at h4 <;> omega
      have ex : x[m]? = some x[m] := List.getElem?_eq_getElem h5.1
      have ey : y[m]? = some y[m] := List.getElem?_eq_getElem h5.2
      refine ⟨_, rfl, _, rfl, _, _, sgC x[m], rfl, rfl, by rw [txS_len]; omega, tx_atI ex, _, rfl, _, rfl, _, _, sgC y[m], rfl, rfl, by rw [txS_len]; omega, tx_atI ey, rfl, _, rfl, ?_⟩
      refine ite_tx (c := [x[m]]) (d := [y[m]]) (fun h6 => ?_) (fun h6 => ?_)
      · injection h6 with h6
        refine ⟨fun σ H1 => ∃ m : Nat, H1 = H' ∧ m + (n - 1) = x.length ∧ m ≤ y.length ∧ woc x y = woc (x.drop m) (y.drop m) ∧ σ = [some (.str (txS x)), some (.str (txS y)), some (.int m)], fun σ' H1 h => ⟨n - 1, by omega, h⟩, ?_⟩
        refine ⟨_, rfl, _, _, rfl, rfl, m + 1, rfl, by omega, by omega, ?_, rfl⟩
        rw [h3, drop_at ex, drop_at ey, h6, woc_same]
      · refine stop (woc_stop fun a b ha hb e => h6 ?_)
        rw [List.head?_drop] at ha hb
        rw [ex] at ha
        rw [ey] at hb
        rw [Option.some.inj ha, Option.some.inj hb, e]
    · have h4 := of_decide_eq_false h4
      rw [txS_len, txS_len] at h4
      refine stop (woc_stop fun a b ha hb => ?_)
      rw [List.head?_drop] at ha hb
      have l1 := (List.getElem?_eq_some_iff.mp ha).1
      have l2 := (List.getElem?_eq_some_iff.mp hb).1
      exfalso
      split at h4 <;> omega
theorem sc_start_row : FnScope ["one", "other"] ["one", "other"] d_start_row.scope := ⟨rfl, rfl, rfl, by decide +kernel, rfl, by decide +kernel, by decide +kernel⟩
def sp_start_row (K : PySem.W.Frag) : Sp := fun vs H Q _ => ∃ (v1 v2 : V) (w1 w2 : List Cv), vs = [v1, v2] ∧ Dp K H v1 (wayD w1) ∧ Dp K H v2 (wayD w2) ∧ w1.length ≤ 6 ∧ w2.length ≤ 6 ∧ ∀ H' p, Same H H' → Dp K H' (.ref p) (rowD (startRow w1 w2)) → Q (.ref p) H'
theorem ok_start_row (c1 : Cal P w K mg base 1 "start_of" ["way"] (sp_start_of K)) (F : FnP K d_start_row f fd) : FnOk P w K mg base CX0 2 f fd ["one", "other"] (sp_start_row K) := by
  refine F.ok sc_start_row (fun vs H Q E h => ?_) (fun cdv A outer s H vs Q E hr h => ?_)
  · obtain ⟨v1, v2, w1, w2, rfl, _⟩ := h
    rfl
  · obtain ⟨v1, v2, w1, w2, rfl, h1, h2, l1, l2, q⟩ := h
    refine ⟨_, PSs.nox (pss_one (ps_ret (pe_tup (pa_cons (pe_cal c1 hr (by decide) rfl (pa_cons (pv 0) pa_nil)) (pa_cons (pe_cal c1 hr (by decide) rfl (pa_cons (pv 1) pa_nil)) (pa_cons pe_bl (pa_cons pe_str (pa_cons pe_str pa_nil)))))))), ?_⟩
    refine ⟨_, rfl, v1, w1, rfl, h1, l1, fun H1 r1 e1 d1 => ⟨_, rfl, v2, w2, rfl, Same.dp e1 h2, l2, fun H2 r2 e2 d2 => ?_⟩⟩
    have d1' := Same.dp e2 d1
    obtain ⟨a1, rfl, _⟩ := dp_bits d1'
    obtain ⟨a2, rfl, _⟩ := dp_bits d2
    refine ⟨by show 5 ≤ sizeLine; decide, fun p np => ?_⟩
    have s3 : Same H2 (upd H2 p (.tup [.ref a1, .ref a2, .bl false, .str "", .str ""])) := same_new np
    refine q _ p (same_trans e1 (same_trans e2 s3)) (row_dp (r := startRow w1 w2) (b := a1) (c := a2) (.inl (.inl ?_)) (Same.dp s3 d1') (Same.dp s3 d2))
    show upd H2 p _ p = some (.tup [.ref a1, .ref a2, .bl false, .str (txS []), .str (txS [])])
    rw [upd_same, txS_nil]
theorem sc_row_behind : FnScope ["one", "other", "kind", "row", "sign", "first", "mine", "second", "theirs"] ["one", "other", "kind", "row", "sign"] d_row_behind.scope := ⟨rfl, rfl, rfl, by decide +kernel, rfl, by decide +kernel, by decide +kernel⟩
structure RowFit (w1 w2 : List Cv) (r : TM.Row) : Prop where
  s1 : r.s1.length = w1.length
  s2 : r.s2.length = w2.length
  m : r.m.length ≤ 524288
  t : r.t.length ≤ 524288
def sp_row_behind (K : PySem.W.Frag) : Sp := fun vs H Q _ => ∃ (v1 v2 v3 : V) (w1 w2 : List Cv) (k : Kd) (r : TM.Row) (s : Sg), vs = [v1, v2, .str (kdS k), v3, .str (sgS s)] ∧ Dp K H v1 (wayD w1) ∧ Dp K H v2 (wayD w2) ∧ w1.length ≤ 6 ∧ w2.length ≤ 6 ∧ Dp K H v3 (rowD r) ∧ RowFit w1 w2 r ∧
  ∀ H' x, Same H H' → Dp K H' x (rowO (rowBehind w1 w2 k r s)) → Q x H'
theorem ok_row_behind (c1 : Cal P w K mg base 4 "read_by" ["way", "standing", "text"] (sp_read_by K)) (c2 : Cal P w K mg base 1 "without_common" ["mine", "theirs"] sp_without_common) (c3 : Cal P w K mg base 1 "is_open_behind" ["kind", "sign"] sp_is_open_behind) (F : FnP K d_row_behind f fd) :
    FnOk P w K mg base CX0 5 f fd ["one", "other", "kind", "row", "sign"] (sp_row_behind K) := by
  refine F.ok sc_row_behind (fun vs H Q E h => ?_) (fun cdv A outer s H vs Q E hr h => ?_)
  · obtain ⟨v1, v2, v3, w1, w2, k, r, s, rfl, _⟩ := h
    rfl
  · obtain ⟨v1, v2, v3, w1, w2, k, r, s, rfl, h1, h2, l1, l2, h3, fit, q⟩ := h
    have sl := sizeLine_eq
    refine ⟨_, PSs.nox (pss_cons (ps_asg (pe_cal c1 hr (by decide) rfl (pa_cons (pv 0) (pa_cons (pe_ix (x_tup K) (pv 3) pe_int (fun _ _ => rfl)) (pa_cons (pv 4) pa_nil)))) (pg_tup rfl (pgs_cons (pg_name (i := 5) sc_row_behind.nd rfl (.inl rfl)) (pgs_cons (pg_name (i := 6) sc_row_behind.nd rfl (.inl rfl)) pgs_nil))))
      (pss_cons (ps_asg (pe_cal c1 hr (by decide) rfl (pa_cons (pv 1) (pa_cons (pe_ix (x_tup K) (pv 3) pe_int (fun _ _ => rfl)) (pa_cons (pv 4) pa_nil)))) (pg_tup rfl (pgs_cons (pg_name (i := 7) sc_row_behind.nd rfl (.inl rfl)) (pgs_cons (pg_name (i := 8) sc_row_behind.nd rfl (.inl rfl)) pgs_nil))))
      (pss_cons (ps_asg (pe_cal c2 hr (by decide) rfl (pa_cons (pe_op op_add_str (pe_ix (x_tup K) (pv 3) pe_int (fun _ _ => rfl)) (pv 6)) (pa_cons (pe_op op_add_str (pe_ix (x_tup K) (pv 3) pe_int (fun _ _ => rfl)) (pv 8)) pa_nil))) (pg_tup rfl (pgs_cons (pg_name (i := 6) sc_row_behind.nd rfl (.inl rfl)) (pgs_cons (pg_name (i := 8) sc_row_behind.nd rfl (.inl rfl)) pgs_nil))))
      (pss_cons (ps_if (PW.pt (pw_and (pt_cmpR op_ne (pv 6) pe_str (nomark _)) (pw_and1 (pt_cmpR op_ne (pv 8) pe_str (nomark _))))) (pss_one (ps_ret pe_non)) pss_nil)
      (pss_one (ps_ret (pe_tup (pa_cons (pv 5) (pa_cons (pv 7) (pa_cons (pe_cal c3 hr (by decide) rfl (pa_cons (pv 2) (pa_cons (pv 4) pa_nil))) (pa_cons (pv 6) (pa_cons (pv 8) pa_nil)))))))))))), ?_⟩
    obtain ⟨ra, rb, rc, rfl, hq, db, dc⟩ := dp_row h3
    -- first, mine
    refine ⟨_, rfl, _, rfl, ra, _, 0, _, rfl, rfl, hq, rfl, _, rfl, v1, .ref rb, w1, r.s1, [s], rfl, h1, db, fit.s1, l1, by show 1 ≤ 8192; decide, fun H1 p1 b1 e1 q1 d1 => ?_⟩
    refine ⟨p1, _, rfl, q1, rfl, _, _, rfl, _, _, rfl, rfl, ?_⟩
    -- second, theirs
    refine ⟨_, rfl, _, rfl, ra, _, 1, _, rfl, rfl, Same.tup e1 hq, rfl, _, rfl, v2, .ref rc, w2, r.s2, [s], rfl, Same.dp e1 h2, Same.dp e1 dc, fit.s2, l2, by show 1 ≤ 8192; decide, fun H2 p2 b2 e2 q2 d2 => ?_⟩
    refine ⟨p2, _, rfl, q2, rfl, _, _, rfl, _, _, rfl, rfl, ?_⟩
    have e12 := same_trans e1 e2
    have a1 := pow_le (readBy_len w1 r.s1 [s]) l1 (by decide : 1 ≤ 8192)
    have a2 := pow_le (readBy_len w2 r.s2 [s]) l2 (by decide : 1 ≤ 8192)
    have b1' : (r.m ++ (readBy w1 r.s1 [s]).2).length ≤ 1048576 := by
      rw [List.length_append]
      have := fit.m
      omega
    have b2' : (r.t ++ (readBy w2 r.s2 [s]).2).length ≤ 1048576 := by
      rw [List.length_append]
      have := fit.t
      omega
    -- without_common
    refine ⟨_, rfl, ra, _, 3, _, rfl, rfl, Same.tup e12 hq, rfl, _, rfl, _, _, rfl, rfl, by rw [txS_len, txS_len, ← List.length_append]; omega, ?_⟩
    refine ⟨_, rfl, ra, _, 4, _, rfl, rfl, Same.tup e12 hq, rfl, _, rfl, _, _, rfl, rfl, by rw [txS_len, txS_len, ← List.length_append]; omega, ?_⟩
    rw [txS_app, txS_app]
    refine ⟨r.m ++ (readBy w1 r.s1 [s]).2, r.t ++ (readBy w2 r.s2 [s]).2, rfl, b1', b2', fun p3 n3 => ?_⟩
    refine ⟨p3, _, rfl, .inl (.inl upd_same), rfl, _, _, rfl, _, _, rfl, rfl, ?_⟩
    have e3 : Same H2 (upd H2 p3 (.tup [.str (txS (rowMade w1 w2 r s).1), .str (txS (rowMade w1 w2 r s).2)])) := same_new n3
    have e13 := same_trans e12 e3
    have rest : (¬ ((rowMade w1 w2 r s).1 ≠ [] ∧ (rowMade w1 w2 r s).2 ≠ [])) → ∀ Z : Prop, (∀ p, (upd H2 p3 (.tup [.str (txS (rowMade w1 w2 r s).1), .str (txS (rowMade w1 w2 r s).2)])) p = none → Q (.ref p) (upd (upd H2 p3 (.tup [.str (txS (rowMade w1 w2 r s).1), .str (txS (rowMade w1 w2 r s).2)])) p (.tup [.ref b1, .ref b2, .bl (openB k s), .str (txS (rowMade w1 w2 r s).1), .str (txS (rowMade w1 w2 r s).2)]))) := fun hn _ p np => by
      have e4 := same_new (o := HO.tup [.ref b1, .ref b2, .bl (openB k s), .str (txS (rowMade w1 w2 r s).1), .str (txS (rowMade w1 w2 r s).2)]) np
      refine q _ _ (same_trans e13 e4) ?_
      unfold rowBehind
      rw [if_neg hn]
      exact row_dp (b := b1) (c := b2) (.inl (.inl upd_same)) (Same.dp (same_trans e2 (same_trans e3 e4)) d1) (Same.dp (same_trans e3 e4) d2)
    have e_0 : ("" : Str) = txS [] := txS_nil.symm
    refine ⟨_, rfl, rfl, _, rfl, ?_⟩
    show if (!decide (V.str (txS (rowMade w1 w2 r s).1) = V.str "")) = true then _ else _
    rw [e_0, tx_eq]
    refine ite_dec (fun h5 => ?_) (fun h5 => iteF ?_)
    · refine ⟨_, rfl, rfl, _, rfl, ?_⟩
      show if (!decide (V.str (txS (rowMade w1 w2 r s).2) = V.str "")) = true then _ else _
      rw [e_0, tx_eq]
      have h5' : (rowMade w1 w2 r s).1 ≠ [] := of_decide_eq_false (by simpa using h5)
      refine ite_dec (fun h6 => ?_) (fun h6 => ?_)
      · have h6' : (rowMade w1 w2 r s).2 ≠ [] := of_decide_eq_false (by simpa using h6)
        refine q _ _ e13 ?_
        unfold rowBehind
        rw [if_pos ⟨h5', h6'⟩]
        exact .non
      · have h6' : (rowMade w1 w2 r s).2 = [] := of_decide_eq_true (by simpa using h6)
        exact ⟨_, rfl, _, rfl, _, rfl, _, rfl, k, s, rfl, _, rfl, _, rfl, by show 5 ≤ sizeLine; decide, rest (fun z => z.2 h6') True⟩
    · have h5' : (rowMade w1 w2 r s).1 = [] := of_decide_eq_true (by simpa using h5)
      exact ⟨_, rfl, _, rfl, _, rfl, _, rfl, k, s, rfl, _, rfl, _, rfl, by show 5 ≤ sizeLine; decide, rest (fun z => z.1 h5') True⟩
theorem sc_is_even : FnScope ["one", "other", "row"] ["one", "other", "row"] d_is_even.scope := ⟨rfl, rfl, rfl, by decide +kernel, rfl, by decide +kernel, by decide +kernel⟩
def sp_is_even (K : PySem.W.Frag) : Sp := fun vs H Q _ => ∃ (v1 v2 v3 : V) (w1 w2 : List Cv) (r : TM.Row), vs = [v1, v2, v3] ∧ Dp K H v1 (wayD w1) ∧ Dp K H v2 (wayD w2) ∧ w1.length ≤ 6 ∧ w2.length ≤ 6 ∧ Dp K H v3 (rowD r) ∧ RowFit w1 w2 r ∧ ∀ H', Same H H' → Q (.bl (isEven w1 w2 r)) H'
theorem ok_is_even (c1 : Cal P w K mg base 4 "ended" ["way", "standing"] (sp_ended K)) (F : FnP K d_is_even f fd) : FnOk P w K mg base CX0 5 f fd ["one", "other", "row"] (sp_is_even K) := by
  refine F.ok sc_is_even (fun vs H Q E h => ?_) (fun cdv A outer s H vs Q E hr h => ?_)
  · obtain ⟨v1, v2, v3, w1, w2, r, rfl, _⟩ := h
    rfl
  · obtain ⟨v1, v2, v3, w1, w2, r, rfl, h1, h2, l1, l2, h3, fit, q⟩ := h
    have sl := sizeLine_eq
    refine ⟨_, PSs.nox (pss_one (ps_ret (pe_or (pe_ix (x_tup K) (pv 2) pe_int (fun _ _ => rfl)) (pe_one (pe_cmpR op_eq (pe_op op_add_str (pe_ix (x_tup K) (pv 2) pe_int (fun _ _ => rfl)) (pe_cal c1 hr (by decide) rfl (pa_cons (pv 0) (pa_cons (pe_ix (x_tup K) (pv 2) pe_int (fun _ _ => rfl)) pa_nil))))
      (pe_op op_add_str (pe_ix (x_tup K) (pv 2) pe_int (fun _ _ => rfl)) (pe_cal c1 hr (by decide) rfl (pa_cons (pv 1) (pa_cons (pe_ix (x_tup K) (pv 2) pe_int (fun _ _ => rfl)) pa_nil)))) (nomark _)))))), ?_⟩
    obtain ⟨ra, rb, rc, rfl, hq, db, dc⟩ := dp_row h3
    refine ⟨_, rfl, ra, _, 2, _, rfl, rfl, hq, rfl, r.o, rfl, ?_⟩
    unfold isEven at q
    refine ite_dec (fun h4 => ?_) (fun h4 => ?_)
    · rw [h4] at q
      exact q H fun _ _ z => z
    · rw [h4, Bool.false_or] at q
      refine ⟨_, rfl, ra, _, 3, _, rfl, rfl, hq, rfl, _, rfl, _, rfl, ra, _, 0, _, rfl, rfl, hq, rfl, v1, .ref rb, w1, r.s1, rfl, h1, db, fit.s1, l1, fun H1 e1 => ?_⟩
      have a1 := pow_le (m := 1) (endF_len w1 r.s1 []) l1 (by decide)
      have a2 := pow_le (m := 1) (endF_len w2 r.s2 []) l2 (by decide)
      refine ⟨_, _, rfl, rfl, ?_, ?_⟩
      · rw [txS_len, txS_len]
        have := fit.m
        unfold TM.ended
        omega
      refine ⟨_, rfl, ra, _, 4, _, rfl, rfl, Same.tup e1 hq, rfl, _, rfl, _, rfl, ra, _, 1, _, rfl, rfl, Same.tup e1 hq, rfl, v2, .ref rc, w2, r.s2, rfl, Same.dp e1 h2, Same.dp e1 dc, fit.s2, l2, fun H2 e2 => ?_⟩
      refine ⟨_, _, rfl, rfl, ?_, rfl, ?_⟩
      · rw [txS_len, txS_len]
        have := fit.t
        unfold TM.ended
        omega
      · rw [txS_app, txS_app, tx_eq]
        exact q _ (same_trans e1 e2)
theorem sc_check_both : FnScope ["one", "other", "kind"] ["one", "other", "kind"] d_check_both.scope := ⟨rfl, rfl, rfl, by decide +kernel, rfl, by decide +kernel, by decide +kernel⟩
def sp_check_both (K : PySem.W.Frag) : Sp := fun vs H Q _ => ∃ (v1 v2 : V) (w1 w2 : List Cv) (k : Kd), vs = [v1, v2, .str (kdS k)] ∧ Dp K H v1 (wayD w1) ∧ Dp K H v2 (wayD w2) ∧ w1.length ≤ 6 ∧ w2.length ≤ 6 ∧ ∀ H', Same H H' → Q .non H'
theorem ok_check_both (c1 : Cal P w K mg base 1 "check_way" ["way"] (sp_check_way K)) (c2 : Cal P w K mg base 1 "check_kind" ["kind"] sp_check_kind) (F : FnP K d_check_both f fd) : FnOk P w K mg base CX0 2 f fd ["one", "other", "kind"] (sp_check_both K) := by
  refine F.ok sc_check_both (fun vs H Q E h => ?_) (fun cdv A outer s H vs Q E hr h => ?_)
  · obtain ⟨v1, v2, w1, w2, k, rfl, _⟩ := h
    rfl
  · obtain ⟨v1, v2, w1, w2, k, rfl, h1, h2, l1, l2, q⟩ := h
    refine ⟨_, PSs.nox (pss_cons (ps_expr (pe_cal c1 hr (by decide) rfl (pa_cons (pv 0) pa_nil))) (pss_cons (ps_expr (pe_cal c1 hr (by decide) rfl (pa_cons (pv 1) pa_nil))) (pss_one (ps_expr (pe_cal c2 hr (by decide) rfl (pa_cons (pv 2) pa_nil)))))), ?_⟩
    exact ⟨_, rfl, v1, w1, rfl, h1, l1, fun H1 e1 => ⟨_, rfl, v2, w2, rfl, Same.dp e1 h2, l2, fun H2 e2 => ⟨_, rfl, k, rfl, q _ (same_trans e1 e2)⟩⟩⟩
theorem sc_is_parting : FnScope ["one", "other", "kind", "text", "sign"] ["one", "other", "kind", "text"] d_is_parting.scope := ⟨rfl, rfl, rfl, by decide +kernel, rfl, by decide +kernel, by decide +kernel⟩
def sp_is_parting (K : PySem.W.Frag) : Sp := fun vs H Q _ => ∃ (v1 v2 : V) (w1 w2 : List Cv) (k : Kd) (t : Tx), vs = [v1, v2, .str (kdS k), .str (txS t)] ∧ Dp K H v1 (wayD w1) ∧ Dp K H v2 (wayD w2) ∧ w1.length ≤ 6 ∧ w2.length ≤ 6 ∧ t.length ≤ 8192 ∧ Parts w1 w2 k t ∧ ∀ H', Same H H' → Q (.bl true) H'
theorem ok_is_parting (G : Glb K w mg) (c1 : Cal P w K mg base 3 "is_kind_of" ["text", "kind"] sp_is_kind_of) (c2 : Cal P w K mg base 5 "made" ["way", "text"] (sp_made K)) (F : FnP K d_is_parting f fd) : FnOk P w K mg base CX0 6 f fd ["one", "other", "kind", "text"] (sp_is_parting K) := by
  refine F.ok sc_is_parting (fun vs H Q E h => ?_) (fun cdv A outer s H vs Q E hr h => ?_)
  · obtain ⟨v1, v2, w1, w2, k, t, rfl, _⟩ := h
    rfl
  · obtain ⟨v1, v2, w1, w2, k, t, rfl, h1, h2, l1, l2, lt, pt, q⟩ := h
    have sl := sizeLine_eq
    obtain ⟨tk, hm⟩ := G.signs
    refine ⟨_, PSs.nox (pss_cons (ps_if (PW.pt (pw_or (pt_not (pt_val (pe_callB (c_all K rfl) (by rfl) G.all b_all (pa_cons
        (pe_lc (own := [("sign", 4)]) (g := gName 4) (tt := tYes) rfl sc_is_parting.nd (pi_list (pe_callTy (call_listTx rfl) (by rfl) G.list b_list (pa_cons (pv 3) pa_nil))) (blkOk_by (own := [("sign", 4)]) (N := ["one", "other", "kind", "text", "sign"]) (sc := d_is_parting.scope) (by decide +kernel)) (fun _ _ _ _ _ => pg_name (i := 4) sc_is_parting.nd rfl (.inl rfl)) (fun _ _ _ _ _ => pts_nil)
          (fun _ _ _ _ _ => pe_cmpR op_in_sign (pv 4) (pe_glob (v := .str "anr") (by rfl) hm ⟨_, rfl⟩) rfl)) pa_nil)))) (pw_or1 (pt_not (pt_val (pe_cal c1 hr (by decide) rfl (pa_cons (pv 3) (pa_cons (pv 2) pa_nil)))))))) (pss_one (ps_ret pe_bl)) pss_nil)
      (pss_one (ps_ret (pe_cmpR op_ne (pe_cal c2 hr (by decide) rfl (pa_cons (pv 0) (pa_cons (pv 3) pa_nil))) (pe_cal c2 hr (by decide) rfl (pa_cons (pv 1) (pa_cons (pv 3) pa_nil))) (nomark _))))), ?_⟩
    refine ⟨_, rfl, t, rfl, by omega, fun p np => ?_⟩
    have e0 : Same H (upd H p (.lst (t.map fun s => V.str (sgS s)))) := same_new np
    refine ⟨p, rfl, ⟨_, .inl (.inl upd_same)⟩, fun D nD => lc_bools (K := K) (L := t) (p := fun _ => true) (walk_lstD (g := fun s => .str (sgS s))) nD (by omega) (fun H' e => ?_) ?_ gName_mono ?_⟩
    · exact Same.dp e (.lst (.inl (.inl upd_same)) (strs_dpAll t))
    · rintro i z x H1 H2 Nx hz e ⟨rfl, y⟩ kk
      obtain rfl := dp_str (y z hz)
      refine ⟨rfl, _, rfl, sgC z, _, rfl, rfl, ?_⟩
      have e : decide (sgC z ∈ ("anr" : Str).cps.toList) = true := by cases z <;> decide +kernel
      rw [e]
      exact kk _ fun _ _ z => z
    · intro H1 e hD
      refine ⟨D, _, rfl, hD, _, rfl, ?_⟩
      rw [all_map]
      have e2 : (t.all fun _ => true) = true := by simp
      rw [e2]
      refine iteF ⟨_, rfl, _, rfl, t, k, rfl, pt.kind, _, rfl, iteF ?_⟩
      have e01 := same_trans e0 e
      refine ⟨_, rfl, _, rfl, v1, w1, t, rfl, Same.dp e01 h1, l1, lt, fun H2 e2 => ⟨_, rfl, _, rfl, v2, w2, t, rfl, Same.dp (same_trans e01 e2) h2, l2, lt, fun H3 e3 => ⟨rfl, ?_⟩⟩⟩
      rw [tx_eq, decide_eq_false pt.ne]
      exact q _ (same_trans e01 (same_trans e2 e3))
end
end TE

set_option Elab.async false
set_option linter.all false
set_option maxRecDepth 100000
set_option maxHeartbeats 4000000
/-! The defs: comparing, two. -/
namespace TE
open PySem PySem.Spec PyProof.Rows L2 TM
/-! ### classes -/
structure CalM (P : Program) (w : World) (K : PySem.W.Frag) (mg : Str → Option Value) (base : Heap) (k : Nat) (x : Str) (C : Addr) (N : List Str) (sp : Sp) : Prop where
  ex : ∃ f fd, Mk K C f ∧ FnOk P w K mg base CX0 k f fd N sp ∧ mg x = some (.ref C) ∧ Binds K fd N []
structure CalT (P : Program) (w : World) (K : PySem.W.Frag) (mg : Str → Option Value) (base : Heap) (k : Nat) (C : Addr) (m : Str) (N : List Str) (sp : Sp) : Prop where
  ex : ∃ f fd, Meth K C m f ∧ FnOk P w K mg base CX0 k f fd N sp ∧ Binds K fd N []
  cl : Cls K C
section
variable {X : Cx} {k j : Nat} {x m : Str} {C : Addr} {N : List Str} {sp : Sp} {E : XK} {e o : Expr} {es : List Expr} {t : TA} {ta : L2.TE} {p pos apos : Pos} {pl : Sem Bool}
theorem pe_mk (c : CalM X.prog X.w X.K X.mg X.base k x C N sp) (hr : Room j X.A) (hl : k + 1 ≤ j) (hg : Gl X x) (ha : PA X (e :: es) t) (hd : (x == ("__debug__" : Str)) = false := by decide)
    (he : starEach (e :: es) X.env = (false, eval e X.env) :: starEach es X.env := by rfl) (hpl : (backTo pos (starEach es X.env)).any (·.1) = false := by rfl) : PE X (.Call (.Name x p) (e :: es) [] pos) (tMake C sp [] E0 t) := by
  obtain ⟨f, fd, M, G, m, b⟩ := c.ex
  exact pe_make M G (hr.mono hl) hg m b .nil pass0 ha hd he hpl
theorem pe_mt (c : CalT X.prog X.w X.K X.mg X.base k C m N sp) (ho : PE X o ta) (hr : Room j X.A) (hl : k ≤ j) (ha : PA X (e :: es) t)
    (he : starEach (e :: es) X.env = (false, eval e X.env) :: starEach es X.env := by rfl) (hpl : (backTo pos (starEach es X.env)).any (·.1) = false := by rfl)
    (hev : eval (.Call (.Attribute o m apos) (e :: es) [] pos) X.env = (do
      let ov ← eval o X.env
      standAt apos.atName
      let (f, first) ← holding [ov] (getMethod ov m pl)
      callWith pos f first (backTo pos (starEach (e :: es) X.env)) (backToKw pos (keywordEach [] X.env))) := by rfl) : PE X (.Call (.Attribute o m apos) (e :: es) [] pos) (tMeth C m sp [] E0 ta t) := by
  obtain ⟨f, fd, M, G, b⟩ := c.ex
  exact pe_meth ho c.cl M G (hr.mono hl) b .nil pass0 ha he hpl hev
end
section
variable {P : Program} {w : World} {K : PySem.W.Frag} {mg : Str → Option Value} {base : Heap} {f : Addr} {fd : FuncData}
theorem sc_are_rows : FnScope ["one", "other", "kind", "rows", "known", "row", "sign"] ["one", "other", "kind", "rows"] d_are_rows.scope := ⟨rfl, rfl, rfl, by decide +kernel, rfl, by decide +kernel, by decide +kernel⟩
def rowsD (rs : List TM.Row) : PyData := .list (rs.map rowD)
def sp_are_rows (K : PySem.W.Frag) : Sp := fun vs H Q _ => ∃ (v1 v2 v4 : V) (w1 w2 : List Cv) (k : Kd) (rs : List TM.Row), vs = [v1, v2, .str (kdS k), v4] ∧ Dp K H v1 (wayD w1) ∧ Dp K H v2 (wayD w2) ∧ w1.length ≤ 6 ∧ w2.length ≤ 6 ∧ Dp K H v4 (rowsD rs) ∧ RowsOk w1 w2 k rs ∧ ∀ H', Same H H' → Q (.bl true) H'
abbrev knownL (rs : List TM.Row) : List (PyData × V) := rs.map fun r => (rowD r, V.bl true)
theorem known_in {rs : List TM.Row} {r : TM.Row} (h : r ∈ rs) : (lk (knownL rs) (rowD r)).isSome = true := by
  obtain ⟨q, _, _, e⟩ := lk_some (kvs := knownL rs) (k := rowD r) ⟨_, List.mem_map.mpr ⟨r, h, rfl⟩, rfl⟩
  rw [e]
  rfl
theorem rows_fit {w1 w2 : List Cv} {k : Kd} {rs : List TM.Row} (h : RowsOk w1 w2 k rs) {r : TM.Row} (hr : r ∈ rs) : RowFit w1 w2 r := ⟨h.s1 r hr, h.s2 r hr, h.m r hr, h.t r hr⟩
theorem ok_are_rows (G : Glb K w mg) (c1 : Cal P w K mg base 2 "start_row" ["one", "other"] (sp_start_row K)) (c2 : Cal P w K mg base 5 "is_even" ["one", "other", "row"] (sp_is_even K)) (c3 : Cal P w K mg base 1 "can_come" ["kind", "is_open", "sign"] sp_can_come)
    (c4 : Cal P w K mg base 5 "row_behind" ["one", "other", "kind", "row", "sign"] (sp_row_behind K)) (F : FnP K d_are_rows f fd) : FnOk P w K mg base CX0 6 f fd ["one", "other", "kind", "rows"] (sp_are_rows K) := by
  refine F.ok sc_are_rows (fun vs H Q E h => ?_) (fun cdv A outer s H vs Q E hr h => ?_)
  · obtain ⟨v1, v2, v4, w1, w2, k, rs, rfl, _⟩ := h
    rfl
  · obtain ⟨v1, v2, v4, w1, w2, k, rs, rfl, h1, h2, l1, l2, h4, ok, q⟩ := h
    have sl := sizeLine_eq
    have hu := hr.units
    obtain ⟨tk, hm⟩ := G.signs
    refine ⟨_, PSs.nox (pss_cons (ps_setDcc (i := 4) (own := [("row", 5)]) (g := gName 5) (tt := tYes) hu rfl sc_are_rows.nd rfl rfl (sw_trueD rfl rfl rfl (by decide +kernel)) (pi_list (pv 3)) (blkOk_by (own := [("row", 5)]) (N := ["one", "other", "kind", "rows", "known", "row", "sign"]) (sc := d_are_rows.scope) (by decide +kernel))
        (fun _ _ _ _ _ => pg_name (i := 5) sc_are_rows.nd rfl (.inl rfl)) (fun _ _ _ _ _ => pts_nil) (fun _ _ _ _ _ => pv 5) (fun _ _ _ _ _ => pe_bl))
      (pss_cons (ps_if (pt_cmpR (op_dcNotIn hu) (pe_cal c1 hr (by decide) rfl (pa_cons (pv 0) (pa_cons (pv 1) pa_nil))) (pv 4) rfl) (pss_one (ps_ret pe_bl)) pss_nil)
      (pss_cons (ps_lock (ps_for PassesOwn.never rfl (pi_dk (pv 4)) (pg_name (i := 5) sc_are_rows.nd rfl (.inr rfl))
        (pss_cons (ps_if (PW.pt (pw_or (PW.pt (pw_and (pt_cmpR op_ne (pe_ix (x_tup K) (pv 5) pe_int (fun _ _ => rfl)) pe_str (nomark _)) (pw_and1 (pt_cmpR op_ne (pe_ix (x_tup K) (pv 5) pe_int (fun _ _ => rfl)) pe_str (nomark _)))))
            (pw_or1 (pt_not (pt_val (pe_cal c2 hr (by decide) rfl (pa_cons (pv 0) (pa_cons (pv 1) (pa_cons (pv 5) pa_nil))))))))) (pss_one (ps_ret pe_bl)) pss_nil)
        (pss_one (ps_for PassesOwn.never rfl (pi_list (pe_lc (own := [("sign", 6)]) (g := gName 6) rfl sc_are_rows.nd (pi_list (pe_callTy (call_listTx rfl) (by rfl) G.list b_list (pa_cons (pe_glob (v := .str "anr") (by rfl) hm ⟨_, rfl⟩) pa_nil))) (blkOk_by (own := [("sign", 6)]) (N := ["one", "other", "kind", "rows", "known", "row", "sign"]) (sc := d_are_rows.scope) (by decide +kernel))
            (fun _ _ _ _ _ => pg_name (i := 6) sc_are_rows.nd rfl (.inl rfl)) (fun _ _ _ _ _ => pts_one (pt_val (pe_cal c3 hr (by decide) rfl (pa_cons (pv 2) (pa_cons (pe_ix (x_tup K) (pv 5) pe_int (fun _ _ => rfl)) (pa_cons (pv 6) pa_nil)))))) (fun _ _ _ _ _ => pv 6))) (pg_name (i := 6) sc_are_rows.nd rfl (.inl rfl))
          (pss_one (ps_if (pt_cmpR (op_dcNotInF hu) (pe_cal c4 hr (by decide) rfl (pa_cons (pv 0) (pa_cons (pv 1) (pa_cons (pv 2) (pa_cons (pv 5) (pa_cons (pv 6) pa_nil)))))) (pv 4) rfl) (pss_one (ps_ret pe_bl)) pss_nil)))))))
      (pss_one (ps_ret pe_bl))))), ?_⟩
    obtain ⟨ra, rxs, rfl, hrs, _⟩ := dp_lst h4
    -- known
    refine ⟨_, rfl, ra, rfl, ⟨_, hrs⟩, fun D nD => dcc_it (walk_lstD (K := K) (a := ra) (L := rs) (g := rowD)) (fun i H' => Same H H' ∧ DcAt K w H' D (knownL (rs.take i))) ⟨same_new nD, [], upd_same, .nil⟩ (fun i H' _ p => Same.dp p.1 h4) ?_ ?_⟩
    · rintro i x H1 H2 hi ⟨sm, dc⟩ ⟨rfl, y⟩
      have ha : rs[i]? = some rs[i] := List.getElem?_eq_getElem hi
      have dx := y _ ha
      obtain ⟨a, _, _, rfl, _⟩ := dp_row dx
      refine ⟨rfl, ?_⟩
      refine ⟨_, rfl, a, _, rowD rs[i], rfl, dc, dx, ok_row _, ?_, ?_, fun xs dc' => ⟨same_upd sm nD, ?_⟩⟩
      · refine lk_none fun p hp e => ?_
        obtain ⟨r, hr', rfl⟩ := List.mem_map.mp hp
        have e2 : r = rs[i] := nk_row e
        obtain ⟨j, hj, ej⟩ := List.mem_iff_getElem.mp hr'
        rw [List.length_take] at hj
        rw [List.getElem_take] at ej
        exact List.pairwise_iff_getElem.mp ok.nd j i (by omega) hi (by omega) (ej.trans e2)
      · have := ok.len
        rw [List.length_map, List.length_take]
        omega
      · show DcAt K w _ D ((rs.take (i + 1)).map _)
        rw [take_at ha, List.map_append]
        exact dc'
    rintro H1 ⟨e1, dc1⟩
    rw [List.take_length] at dc1
    -- start_row
    refine ⟨_, rfl, _, rfl, v1, v2, w1, w2, rfl, Same.dp e1 h1, Same.dp e1 h2, l1, l2, fun H2 p e2 dp2 => ?_⟩
    have dc2 := dc1.same e2
    refine ⟨_, rfl, p, D, _, _, rfl, rfl, dc2, dp2, ok_row _, _, rfl, ?_⟩
    have e_in : (if true = true then !(lk (knownL rs) (rowD (startRow w1 w2))).isSome else (lk (knownL rs) (rowD (startRow w1 w2))).isSome) = false := by
      rw [if_pos rfl, known_in ok.start]
      rfl
    rw [e_in]
    refine iteF ?_
    -- the walk over known
    obtain ⟨xs, hD, rD⟩ := dc2
    refine ⟨D, _, hD, True.intro, fun od => ?_⟩
    have lk3 : LkD K w (upd H2 D (.frz od (DcO w D xs))) D od (knownL rs) := lkd_lock hD rD
    have e03 : Same H (upd H2 D (.frz od (DcO w D xs))) := same_upd (same_trans e1 e2) nD
    refine ⟨_, rfl, D, od, knownL rs, rfl, lk3, for_it (walk_dk (K := K) (w := w) (d := D) (o := od) (kvs := knownL rs)) (fun i σ H' => ∃ v5 v6 : Option V, Same (upd H2 D (.frz od (DcO w D xs))) H' ∧ σ = [some v1, some v2, some (.str (kdS k)), some (.ref ra), some (.ref D), v5, v6]) ⟨none, none, fun _ _ z => z, rfl⟩ (fun i σ H' _ ⟨_, _, e, _⟩ => lk3.same e) ?_ ?_⟩
    · rintro i x σ H4 H5 hi ⟨v5, v6, e4, rfl⟩ ⟨rfl, kk, vv, a, hkv, rfl, dk⟩
      rw [List.getElem?_map] at hkv
      obtain ⟨r, hri, rfl, rfl⟩ : ∃ r, rs[i]? = some r ∧ rowD r = kk ∧ V.bl true = vv := by
        cases z : rs[i]? with
        | none => rw [z] at hkv; cases hkv
        | some r =>
          rw [z] at hkv
          have := Option.some.inj hkv
          exact ⟨r, rfl, congrArg Prod.fst this, congrArg Prod.snd this⟩
      have hr' : r ∈ rs := List.mem_of_getElem? hri
      obtain ⟨a', b, c, ea, hq, db, dc⟩ := dp_row dk
      cases ea
      have e04 := same_trans e03 e4
      -- the tests
      refine ⟨_, rfl, a, _, 3, _, rfl, rfl, hq, rfl, rfl, _, rfl, ?_⟩
      show if (!decide (V.str (txS r.m) = V.str "")) = true then _ else _
      rw [← txS_nil, tx_eq]
      have one := ok.one r hr'
      refine ite_dec (fun hm0 => ?_) (fun hm0 => iteF ?_)
      have ht0 : r.t = [] := one.resolve_left (of_decide_eq_false (by simpa using hm0))
      refine ⟨_, rfl, a, _, 4, _, rfl, rfl, hq, rfl, rfl, _, rfl, ?_⟩
      show if (!decide (V.str (txS r.t) = V.str (txS []))) = true then _ else _
      rw [tx_eq, decide_eq_true ht0]
      refine iteF ?_
      all_goals
        refine ⟨_, rfl, _, rfl, _, rfl, v1, v2, .ref a, w1, w2, r, rfl, Same.dp e04 h1, Same.dp e04 h2, l1, l2, dk, rows_fit ok hr', fun H6 e6 => ⟨_, rfl, ?_⟩⟩
        rw [ok.even r hr']
        refine iteF ?_
        have e46 := same_trans e4 e6
        have e06 := same_trans e04 e6
        -- the signs that can come
        refine ⟨[.a, .n, .r], by rw [txS_anr], by decide, fun p1 np1 => ⟨p1, rfl, ⟨_, .inl (.inl upd_same)⟩, fun D2 nD2 => ?_⟩⟩
        have e7 : Same H6 (upd H6 p1 (.lst ([Sg.a, .n, .r].map fun s => V.str (sgS s)))) := same_new np1
        refine lc_data (K := K) (L := [Sg.a, .n, .r]) (f := fun s => .str (sgS s)) (sel := fun s => canCome k r.o s) (walk_lstD (K := K) (a := p1) (L := [Sg.a, .n, .r]) (g := fun s => .str (sgS s))) nD2 (fun _ => rfl) (by decide)
          (fun H' e => Same.dp e (.lst (.inl (.inl upd_same)) (strs_dpAll _))) ?_ ?_
        · rintro i2 z x H7 H8 Nx hz e ⟨rfl, y⟩ hyes hno
          obtain rfl := dp_str (y z hz)
          refine ⟨rfl, ?_⟩
          refine ⟨_, rfl, _, rfl, a, _, 2, _, rfl, rfl, Same.tup (same_trans e6 (same_trans e7 e)) hq, rfl, _, rfl, k, r.o, z, rfl, _, rfl, ?_⟩
          cases hc : canCome k r.o z with
          | true => exact iteT ⟨_, rfl, hyes hc _ _ (fun _ _ z => z) (.str _)⟩
          | false => exact iteF (hno hc _ fun _ _ z => z)
        · intro H7 ys e hD2 dall
          have dS : Dp K H7 (.ref D2) (.list ((signs3 k r.o).map fun s => .str (sgS s))) := .lst (.inl (.inl hD2)) dall
          have e37 := same_trans e46 (same_trans e7 e)
          have e07 := same_trans e06 (same_trans e7 e)
          refine ⟨D2, rfl, ⟨ys, .inl (.inl hD2)⟩, for_it (walk_lstD (K := K) (a := D2) (L := signs3 k r.o) (g := fun s => .str (sgS s))) (fun i σ H' => ∃ u6 : Option V, Same H7 H' ∧ σ = [some v1, some v2, some (.str (kdS k)), some (.ref ra), some (.ref D), some (.ref a), u6])
            ⟨v6, fun _ _ z => z, rfl⟩ (fun i σ H' _ ⟨_, e, _⟩ => Same.dp e dS) ?_ ?_⟩
          · rintro i3 x σ H8 H9 hi3 ⟨u6, e8, rfl⟩ ⟨rfl, y⟩
            have hz : (signs3 k r.o)[i3]? = some (signs3 k r.o)[i3] := List.getElem?_eq_getElem hi3
            obtain rfl := dp_str (y _ hz)
            have hc := mem_signs3.mp (List.getElem_mem hi3)
            obtain ⟨r2, hr2, er2⟩ := ok.next r hr' _ hc
            have e68 := same_trans (same_trans e7 e) e8
            refine ⟨_, rfl, _, rfl, _, rfl, _, rfl, _, rfl, v1, v2, .ref a, w1, w2, k, r, (signs3 k r.o)[i3], rfl, Same.dp (same_trans e07 e8) h1, Same.dp (same_trans e07 e8) h2, l1, l2, Same.dp (same_trans e6 e68) dk, rows_fit ok hr', fun H10 x2 e10 dx => ?_⟩
            rw [er2] at dx
            have dx : Dp K H10 x2 (rowD r2) := dx
            obtain ⟨a2, _, _, rfl, _⟩ := dp_row dx
            obtain ⟨xs2, hx2, rx2⟩ := lk3.same (same_trans e37 (same_trans e8 e10))
            refine ⟨_, rfl, a2, D, od, _, xs2, _, rfl, rfl, hx2, rx2, dx, ok_row _, _, rfl, ?_⟩
            have e_in2 : (if true = true then !(lk (knownL rs) (rowD r2)).isSome else (lk (knownL rs) (rowD r2)).isSome) = false := by
              rw [if_pos rfl, known_in hr2]
              rfl
            rw [e_in2]
            exact iteF ⟨_, same_trans e8 e10, rfl⟩
          · rintro σ H8 ⟨u6, e8, rfl⟩
            exact ⟨_, _, same_trans e37 e8, rfl⟩
    · rintro σ H6 ⟨v5, v6, e6, rfl⟩
      refine ⟨e6 _ _ upd_same, ?_⟩
      exact q _ (same_upd (same_trans e03 e6) nD)
end
end TE

set_option Elab.async false
set_option linter.all false
set_option maxRecDepth 100000
set_option maxHeartbeats 4000000
/-! The defs: comparing, three: the search. -/
namespace TE
open PySem PySem.Spec PyProof.Rows L2 TM
theorem good_fit {w1 w2 : List Cv} {t : Tx} {o : Bool} {r : TM.Row} (g : Good w1 w2 t (o, some r)) (ht : t.length ≤ 8192) (l1 : w1.length ≤ 6) (l2 : w2.length ≤ 6) : RowFit w1 w2 r := by
  obtain ⟨h1, h2, _, _, c, h5, h6⟩ := g.some r rfl
  have a1 := pow_le (readBy_len w1 (TM.start w1) t) l1 ht
  have a2 := pow_le (readBy_len w2 (TM.start w2) t) l2 ht
  have b1 : (TM.run w1 t).2.length = c.length + r.m.length := by rw [h5, List.length_append]
  have b2 : (TM.run w2 t).2.length = c.length + r.t.length := by rw [h6, List.length_append]
  have c1 : (TM.run w1 t).2.length ≤ 524288 := a1
  have c2 : (TM.run w2 t).2.length ≤ 524288 := a2
  exact ⟨by rw [h1, run_st], by rw [h2, run_st], by omega, by omega⟩
theorem lay_row (r : TM.Row) : (rowD r).canLay0 = true := by
  have hb : ∀ l : List Bool, (bitsD l).canLay0 = true := fun l => by
    show PyData.canLay0 (.tuple _) = true
    simp only [PyData.canLay0]
    exact lay_map (fun _ => by simp [PyData.canLay0]) l
  have ht : ∀ x : Tx, PyData.strOk (txS x) = true := fun x => by
    unfold PyData.strOk txS
    rw [Array.all_eq_true_iff_forall_mem]
    intro c hc
    obtain ⟨s, _, rfl⟩ := List.mem_map.mp (List.mem_toArray.mp hc)
    cases s <;> decide
  show PyData.canLay0 (.tuple _) = true
  simp only [PyData.canLay0, PyData.canLayAll0, hb, ht, Bool.and_true, Bool.and_self]
theorem dep_row2 (r : TM.Row) : (rowD r).depth ≤ 3 := by
  have hb : ∀ l : List Bool, (bitsD l).depth ≤ 2 := fun l => by
    have := deps_map (f := PyData.bool) (n := 1) (fun _ => by simp [PyData.depth]) l
    show PyData.depth (.tuple _) ≤ 2
    simp only [PyData.depth]
    omega
  have h1 := hb r.s1
  have h2 := hb r.s2
  show PyData.depth (.tuple _) ≤ 3
  simp only [PyData.depth, PyData.depthAll]
  omega
theorem lay_place (p : TM.Place) : (placeD p).canLay0 = true := by
  have h : (rowO p.2).canLay0 = true := by
    cases p.2 with
    | none => rfl
    | some r => exact lay_row r
  show PyData.canLay0 (.tuple _) = true
  simp only [PyData.canLay0, PyData.canLayAll0, h, Bool.and_true]
theorem dep_place2 (p : TM.Place) : (placeD p).depth ≤ 4 := by
  have h : (rowO p.2).depth ≤ 3 := by
    cases p.2 with
    | none => simp [rowO, PyData.depth]
    | some r => exact dep_row2 r
  show PyData.depth (.tuple _) ≤ 4
  simp only [PyData.depth, PyData.depthAll]
  omega
theorem sh_places (l : List TM.Place) : SeqAt.shaped (.list (l.map placeD)) = true := shaped_of (by
  simp only [PyData.canLay0]
  exact lay_map lay_place l) (by
  have := deps_map (f := placeD) (n := 4) dep_place2 l
  simp only [PyData.depth]
  omega)
theorem eqv_nil (l : List PyData) : PyData.eqv (.list l) (.list []) = l.isEmpty := by
  cases l with
  | nil => simp [PyData.eqv, PyData.eqvAll]
  | cons a l => simp [PyData.eqv, PyData.eqvAll]
/-- what compared gives -/
def AlikeAt (K : PySem.W.Frag) (C : Addr) (H : Hp) (x : Addr) (w1 w2 : List Cv) (k : Kd) : Prop := ∃ dx l rs, H x = some (.ins C dx [("rows", .ref l)]) ∧ Dp K H (.ref l) (rowsD rs) ∧ RowsOk w1 w2 k rs
def PartedAt (C : Addr) (H : Hp) (x : Addr) (w1 w2 : List Cv) (k : Kd) : Prop := ∃ dx t, H x = some (.ins C dx [("text", .str (txS t))]) ∧ Parts w1 w2 k t ∧ t.length ≤ 8192
theorem AlikeAt.ext {K : PySem.W.Frag} {C : Addr} {H H' : Hp} {x : Addr} {w1 w2 : List Cv} {k : Kd} (e : Same H H') (h : AlikeAt K C H x w1 w2 k) : AlikeAt K C H' x w1 w2 k :=
  let ⟨dx, l, rs, h1, h2, h3⟩ := h
  ⟨dx, l, rs, e _ _ h1, Same.dp e h2, h3⟩
theorem PartedAt.ext {C : Addr} {H H' : Hp} {x : Addr} {w1 w2 : List Cv} {k : Kd} (e : Same H H') (h : PartedAt C H x w1 w2 k) : PartedAt C H' x w1 w2 k :=
  let ⟨dx, t, h1, h2, h3⟩ := h
  ⟨dx, t, e _ _ h1, h2, h3⟩
abbrev foundL (found : List (TM.Place × Tx)) : List (PyData × V) := found.map fun e => (placeD e.1, V.str (txS e.2))
theorem found_nd {found : List (TM.Place × Tx)} (nd : (keysF found).Nodup) : ((foundL found).map fun q => nk q.1).Nodup := by
  rw [List.map_map]
  have e : ((fun q : PyData × V => nk q.1) ∘ fun e : TM.Place × Tx => (placeD e.1, V.str (txS e.2))) = (fun p : TM.Place => nk (placeD p)) ∘ fun e : TM.Place × Tx => e.1 := rfl
  rw [e, ← List.map_map]
  exact nodup_map _ _ nd fun x _ y _ h => nk_place h
theorem found_at {found : List (TM.Place × Tx)} (nd : (keysF found).Nodup) {p : TM.Place} {t : Tx} (h : (p, t) ∈ found) : lk (foundL found) (placeD p) = some (.str (txS t)) :=
  lk_at (found_nd nd) (q := (placeD p, V.str (txS t))) (List.mem_map.mpr ⟨(p, t), h, rfl⟩) rfl
theorem found_in {found : List (TM.Place × Tx)} {p : TM.Place} (h : p ∈ keysF found) : (lk (foundL found) (placeD p)).isSome = true := by
  obtain ⟨e, he, rfl⟩ := List.mem_map.mp h
  obtain ⟨q, _, _, z⟩ := lk_some (kvs := foundL found) (k := placeD e.1) ⟨_, List.mem_map.mpr ⟨e, he, rfl⟩, rfl⟩
  rw [z]
  rfl
theorem found_out {found : List (TM.Place × Tx)} {p : TM.Place} (h : p ∉ keysF found) : lk (foundL found) (placeD p) = none := lk_none fun q hq e => by
  obtain ⟨x, hx, rfl⟩ := List.mem_map.mp hq
  exact h (List.mem_map.mpr ⟨x, hx, nk_place e⟩)
theorem flt_places (l : List TM.Place) : flts (l.map placeD) = true := flt_map flt_place l
/-- the search's objects -/
structure BfsH (K : PySem.W.Frag) (w : World) (H0 : Hp) (d l : Addr) (found : List (TM.Place × Tx)) (line : List TM.Place) (H : Hp) : Prop where
  same : Same H0 H
  dc : DcAt K w H d (foundL found)
  ln : ∃ ys, H l = some (.lst ys) ∧ DpAll K H ys (line.map placeD)
section
variable {K : PySem.W.Frag} {w : World} {H0 H H' : Hp} {d l : Addr} {found : List (TM.Place × Tx)} {line : List TM.Place}
theorem BfsH.ext (b : BfsH K w H0 d l found line H) (e : Same H H') : BfsH K w H0 d l found line H' :=
  let ⟨ys, h1, h2⟩ := b.ln
  ⟨same_trans b.same e, b.dc.same e, ys, e _ _ h1, Same.dpAll e h2⟩
theorem noT_lst {a : Addr} {ys : List V} (h : H a = some (.lst ys)) : NoT (H a) := by
  rw [h]
  exact True.intro
/-- the line is written -/
theorem BfsH.line' (b : BfsH K w H0 d l found line H) (hdl : d ≠ l) (nl : H0 l = none) {line2 : List TM.Place} {ys2 : List V} (h : DpAll K H ys2 (line2.map placeD)) : BfsH K w H0 d l found line2 (upd H l (.lst ys2)) := by
  obtain ⟨ys, h1, h2⟩ := b.ln
  exact ⟨same_upd b.same nl, b.dc.other hdl (noT_lst h1), ys2, upd_same, dpAll_keep (fun _ _ q => tup_upd (noT_lst h1) q) _ _ (flt_places _) h⟩
end
section
variable {P : Program} {w : World} {K : PySem.W.Frag} {mg : Str → Option Value} {base : Heap} {f : Addr} {fd : FuncData}
theorem sc_Alike_init : FnScope ["self", "rows"] ["self", "rows"] d_Alike_init.scope := ⟨rfl, rfl, rfl, by decide +kernel, rfl, by decide +kernel, by decide +kernel⟩
def sp_Alike_init (K : PySem.W.Frag) (C : Addr) : Sp := fun vs H Q _ => ∃ (p dx a : Addr) (xs : List V), vs = [.ref p, .ref a] ∧ H p = some (.ins C dx []) ∧ SqL K H a xs ∧ ∀ l, H l = none → Q .non (upd (upd H l (.lst xs)) p (.ins C dx [("rows", .ref l)]))
theorem ok_Alike_init {C : Addr} (G : Glb K w mg) (cl : Cls K C) (na : NoAttr K C "rows") (F : FnP K d_Alike_init f fd) : FnOk P w K mg base CX0 1 f fd ["self", "rows"] (sp_Alike_init K C) := by
  refine F.ok sc_Alike_init (fun vs H Q E h => ?_) (fun cdv A outer s H vs Q E hr h => ?_)
  · obtain ⟨p, dx, a, xs, rfl, _⟩ := h
    rfl
  · obtain ⟨p, dx, a, xs, rfl, hp, ha, q⟩ := h
    refine ⟨_, PSs.nox (pss_one (ps_fld (pv 0) (pe_callTy call_list_of (by rfl) G.list b_list (pa_cons (pv 1) pa_nil)) rfl)), ?_⟩
    refine ⟨_, rfl, a, xs, rfl, .inl ha, fun l nl => ⟨_, rfl, p, C, dx, [], rfl, ?_, cl, na, by decide, q l nl⟩⟩
    rw [upd_ne (ne_of_none hp nl)]
    exact hp
theorem sc_Parted_init : FnScope ["self", "text"] ["self", "text"] d_Parted_init.scope := ⟨rfl, rfl, rfl, by decide +kernel, rfl, by decide +kernel, by decide +kernel⟩
def sp_Parted_init (C : Addr) : Sp := fun vs H Q _ => ∃ (p dx : Addr) (v : V), vs = [.ref p, v] ∧ H p = some (.ins C dx []) ∧ Q .non (upd H p (.ins C dx [("text", v)]))
theorem ok_Parted_init {C : Addr} (cl : Cls K C) (na : NoAttr K C "text") (F : FnP K d_Parted_init f fd) : FnOk P w K mg base CX0 1 f fd ["self", "text"] (sp_Parted_init C) := by
  refine F.ok sc_Parted_init (fun vs H Q E h => ?_) (fun cdv A outer s H vs Q E hr h => ?_)
  · obtain ⟨p, dx, v, rfl, _⟩ := h
    rfl
  · obtain ⟨p, dx, v, rfl, hp, q⟩ := h
    refine ⟨_, PSs.nox (pss_one (ps_fld (pv 0) (pv 1) rfl)), ?_⟩
    exact ⟨_, rfl, _, rfl, p, C, dx, [], rfl, hp, cl, na, by decide, q⟩
theorem sc_Alike_shows : FnScope ["self", "one", "other", "kind"] ["self", "one", "other", "kind"] d_Alike_shows.scope := ⟨rfl, rfl, rfl, by decide +kernel, rfl, by decide +kernel, by decide +kernel⟩
def sp_Alike_shows (K : PySem.W.Frag) (C : Addr) : Sp := fun vs H Q _ => ∃ (x : Addr) (v1 v2 : V) (w1 w2 : List Cv) (k : Kd), vs = [.ref x, v1, v2, .str (kdS k)] ∧ Dp K H v1 (wayD w1) ∧ Dp K H v2 (wayD w2) ∧ w1.length ≤ 6 ∧ w2.length ≤ 6 ∧ AlikeAt K C H x w1 w2 k ∧ ∀ H', Same H H' → Q (.bl true) H'
theorem ok_Alike_shows {C : Addr} (cl : Cls K C) (na : NoAttr K C "rows") (c1 : Cal P w K mg base 2 "check_both" ["one", "other", "kind"] (sp_check_both K)) (c2 : Cal P w K mg base 6 "are_rows" ["one", "other", "kind", "rows"] (sp_are_rows K)) (F : FnP K d_Alike_shows f fd) :
    FnOk P w K mg base CX0 7 f fd ["self", "one", "other", "kind"] (sp_Alike_shows K C) := by
  refine F.ok sc_Alike_shows (fun vs H Q E h => ?_) (fun cdv A outer s H vs Q E hr h => ?_)
  · obtain ⟨x, v1, v2, w1, w2, k, rfl, _⟩ := h
    rfl
  · obtain ⟨x, v1, v2, w1, w2, k, rfl, h1, h2, l1, l2, ha, q⟩ := h
    refine ⟨_, PSs.nox (pss_cons (ps_expr (pe_cal c1 hr (by decide) rfl (pa_cons (pv 1) (pa_cons (pv 2) (pa_cons (pv 3) pa_nil))))) (pss_one (ps_ret (pe_cal c2 hr (by decide) rfl (pa_cons (pv 1) (pa_cons (pv 2) (pa_cons (pv 3) (pa_cons (pe_fld (pv 0) rfl) pa_nil)))))))), ?_⟩
    refine ⟨_, rfl, _, rfl, _, rfl, v1, v2, w1, w2, k, rfl, h1, h2, l1, l2, fun H1 e1 => ?_⟩
    obtain ⟨dx, l, rs, g1, g2, g3⟩ := ha.ext e1
    exact ⟨_, rfl, _, rfl, _, rfl, _, rfl, x, C, dx, _, _, rfl, g1, cl, na, rfl, v1, v2, .ref l, w1, w2, k, rs, rfl, Same.dp e1 h1, Same.dp e1 h2, l1, l2, g2, g3, fun H2 e2 => q _ (same_trans e1 e2)⟩
end
end TE

set_option Elab.async false
set_option linter.all false
set_option maxRecDepth 100000
set_option maxHeartbeats 4000000
/-! The search itself. -/
namespace TE
open PySem PySem.Spec PyProof.Rows L2 TM
theorem walk_lstV {K : PySem.W.Frag} {a : Addr} {α : Type} {L : List α} {g : α → V} : Walk (Itl K a) L.length (fun H => SqL K H a (L.map g)) (fun i H x H' => H' = H ∧ ∀ z, L[i]? = some z → x = g z) := by
  refine ⟨fun i H hi h => ⟨_, g L[i], h, by rw [List.getElem?_map, List.getElem?_eq_getElem hi] <;> rfl⟩, fun H h => ⟨_, h, by rw [List.length_map]; exact Nat.le_refl _⟩, fun i H x H' hi h y => ⟨y.1, fun z hz => ?_⟩⟩
  have e := y.2 _ h
  rw [List.getElem?_map, hz] at e
  exact (Option.some.inj e).symm
section
variable {X : Cx} (K : PySem.W.Frag) {w : World}
theorem p_dc1 {ke ve : Expr} {pos : Pos} {tk tv : L2.TE} (hu : X.A.units + 64 < cLine) (hk : PE X ke tk) (hv : PE X ve tv) (h : X.K = K := by rfl) (hw : X.w = w := by rfl) : PE X (.Dict [some ke] [ve] pos) (tDc1 K w tk tv) := by subst h hw; exact pe_dc1 hu hk hv
theorem p_set (hu : X.A.units + 64 < cLine) (h : X.K = K := by rfl) (hw : X.w = w := by rfl) : PSet X (rDcSet K w) := by subst h hw; exact set_dc hu
theorem w_dk {tg e : Expr} {td : L2.TE} (he : PE X e td) (h : X.K = K := by rfl) (hw : X.w = w := by rfl) : PI X tg e (iDk K w td) := by subst h hw; exact pi_dk he
theorem w_di {elts : List Expr} {kk : Nat} {tpos apos cpos : Pos} {e : Expr} {td : L2.TE} (he : PE X e td) (h : X.K = K := by rfl) (hw : X.w = w := by rfl) (hbase : attributeBase e "items" X.env (eval e X.env) = eval e X.env := by rfl) (hline : (apos.endLine == cpos.line) = true := by rfl) :
    PI X (.Tuple elts kk tpos) (.Call (.Attribute e "items" apos) [] [] cpos) (iDi K w td) := by subst h hw; exact pi_di he hbase hline
end
theorem Same.none {H H' : Hp} {a : Addr} (e : Same H H') (h : H' a = Option.none) : H a = Option.none := by
  cases z : H a with
  | none => rfl
  | some o => rw [e _ _ z] at h; cases h
theorem late_if {K : PySem.W.Frag} {H : Hp} {x : V} {row : Option TM.Row} {tg : PyData} {Q : V → Hp → Prop} {B : Prop} (dx : Dp K H x (rowO row)) (h0 : row = Option.none → tg = .none) (hB : ∀ r, row = some r → (∀ lv H', Same H H' → Dp K H' lv tg → Q lv H') → B) (hQ : ∀ lv H', Same H H' → Dp K H' lv tg → Q lv H') :
    if decide (x = .non) = true then Q .non H else B := by
  cases row with
  | none =>
    rw [dp_none dx, decide_eq_true rfl]
    refine iteT (hQ _ _ (fun _ _ z => z) ?_)
    rw [h0 rfl]
    exact .non
  | some r =>
    obtain ⟨a, _, _, rfl, _⟩ := dp_row dx
    rw [decide_eq_false (by intro z; cases z)]
    exact iteF (hB r rfl hQ)
theorem late_ifG {K : PySem.W.Frag} {H : Hp} {x : V} {row : Option TM.Row} {tg : PyData} {i : Nat} {σ : L2.St} {N : L2.St → Hp → Prop} {B : Prop} (dx : Dp K H x (rowO row)) (h0 : row = Option.none → tg = .none) (hB : ∀ r, row = some r → (∀ lv H', Same H H' → Dp K H' lv tg → gName i lv σ H' N) → B)
    (hQ : ∀ lv H', Same H H' → Dp K H' lv tg → gName i lv σ H' N) : if decide (x = .non) = true then gName i .non σ H N else B := late_if (Q := fun lv H' => gName i lv σ H' N) dx h0 hB hQ
theorem rows_eq {w1 w2 : List Cv} {k : Kd} {found : List (TM.Place × Tx)} {ds : List TM.Place} (b : Bfs w1 w2 k found ds []) : (found.filter fun _ => true).map (fun e => rowO e.1.2) = (rowsF found).map rowD := by
  have h := b.all
  rw [List.filter_eq_self.mpr fun _ _ => rfl]
  have key : ∀ l : List (TM.Place × Tx), (∀ e ∈ l, ∃ row, e.1.2 = some row) → l.map (fun e => rowO e.1.2) = (rowsF l).map rowD := by
    intro l
    induction l with
    | nil => intro _; rfl
    | cons e l ih =>
      intro h
      obtain ⟨row, hr⟩ := h e List.mem_cons_self
      have ih := ih fun x hx => h x (List.mem_cons_of_mem _ hx)
      show rowO e.1.2 :: _ = List.map rowD (List.filterMap _ (e :: l))
      rw [List.filterMap_cons, hr, List.map_cons]
      exact congrArg (rowD row :: ·) ih
  exact key found h
section
variable {P : Program} {w : World} {K : PySem.W.Frag} {mg : Str → Option Value} {base : Heap} {f : Addr} {fd : FuncData}
abbrev nCompared : List Str := ["one", "other", "kind", "begin", "found", "line", "is_open", "row", "text", "sign", "late", "place"]
theorem sc_compared : FnScope nCompared ["one", "other", "kind"] d_compared.scope := ⟨rfl, rfl, rfl, by decide +kernel, rfl, by decide +kernel, by decide +kernel⟩
def sp_compared (K : PySem.W.Frag) (CA CP : Addr) : Sp := fun vs H Q _ => ∃ (v1 v2 : V) (w1 w2 : List Cv) (k : Kd), vs = [v1, v2, .str (kdS k)] ∧ Dp K H v1 (wayD w1) ∧ Dp K H v2 (wayD w2) ∧ w1.length ≤ 6 ∧ w2.length ≤ 6 ∧
  ∀ H' x, Same H H' → (AlikeAt K CA H' x w1 w2 k ∨ PartedAt CP H' x w1 w2 k) → Q (.ref x) H'
/-- the slots while the search runs -/
def SgC (v1 v2 : V) (k : Kd) (b d l : Addr) (σ : L2.St) : Prop := ∃ o6 o7 o8 o9 o10 o11 : Option V, σ = [some v1, some v2, some (.str (kdS k)), some (.ref b), some (.ref d), some (.ref l), o6, o7, o8, o9, o10, o11]
theorem ok_compared {CA CP : Addr} (G : Glb K w mg) (c1 : Cal P w K mg base 2 "start_row" ["one", "other"] (sp_start_row K)) (c2 : Cal P w K mg base 5 "is_even" ["one", "other", "row"] (sp_is_even K)) (c3 : Cal P w K mg base 1 "can_come" ["kind", "is_open", "sign"] sp_can_come)
    (c4 : Cal P w K mg base 5 "row_behind" ["one", "other", "kind", "row", "sign"] (sp_row_behind K)) (c5 : Cal P w K mg base 1 "is_open_behind" ["kind", "sign"] sp_is_open_behind) (mA : CalM P w K mg base 1 "Alike" CA ["self", "rows"] (sp_Alike_init K CA)) (mP : CalM P w K mg base 1 "Parted" CP ["self", "text"] (sp_Parted_init CP))
    (F : FnP K d_compared f fd) : FnOk P w K mg base CX0 6 f fd ["one", "other", "kind"] (sp_compared K CA CP) := by
  refine F.ok sc_compared (fun vs H Q E h => ?_) (fun cdv A outer s H vs Q E hr h => ?_)
  · obtain ⟨v1, v2, w1, w2, k, rfl, _⟩ := h
    rfl
  · obtain ⟨v1, v2, w1, w2, k, rfl, h1, h2, l1, l2, q⟩ := h
    have sl := sizeLine_eq
    have hu := hr.units
    obtain ⟨tk, hm⟩ := G.signs
    refine ⟨_, PSs.nox (pss_cons (ps_set (i := 3) sc_compared.nd rfl (.inl rfl) (pe_tup (pa_cons pe_bl (pa_cons (pe_cal c1 hr (by decide) rfl (pa_cons (pv 0) (pa_cons (pv 1) pa_nil))) pa_nil))))
      (pss_cons (ps_par (i := 4) (j := 5) (by rfl) sc_compared.nd rfl rfl (by decide) rfl rfl (pa_cons (p_dc1 K (w := w) hu (pv 3) pe_str) (pa_cons (pe_lst (pa_cons (pv 3) pa_nil)) pa_nil)) (by rfl))
      (pss_cons (ps_while PassesOwn.never (pt_cmpR (o_neD K hu) (pv 5) (pe_lst pa_nil) (nomark _))
        (pss_cons (ps_asg (pe_bm PySem.F.plainAttrs_list PySem.F.slot_list_pop PySem.F.type_list_pop mt_popAt (pv 5) (pa_cons pe_int pa_nil)) (pg_tup rfl (pgs_cons (pg_name (i := 6) sc_compared.nd rfl (.inr rfl)) (pgs_cons (pg_name (i := 7) sc_compared.nd rfl (.inl rfl)) pgs_nil))))
        (pss_cons (ps_set (i := 8) sc_compared.nd rfl (.inl rfl) (pe_ix (x_dc K (w := w) hu) (pv 4) (pe_tup (pa_cons (pv 6) (pa_cons (pv 7) pa_nil))) (fun _ _ => rfl)))
        (pss_cons (ps_if (PW.pt (pw_and (pt_not (pt_val (pv 6))) (pw_and1 (PW.pt (pw_or (pt_cmpR op_isN (pv 7) pe_non (nomark _)) (pw_or1 (pt_not (pt_val (pe_cal c2 hr (by decide) rfl (pa_cons (pv 0) (pa_cons (pv 1) (pa_cons (pv 7) pa_nil)))))))))))) (pss_one (ps_ret (pe_mk mP hr (by decide) rfl (pa_cons (pv 8) pa_nil)))) pss_nil)
        (pss_one (ps_for PassesOwn.never rfl (pi_list (pe_lc (own := [("sign", 9)]) (g := gName 9) rfl sc_compared.nd (pi_list (pe_callTy (call_listTx rfl) (by rfl) G.list b_list (pa_cons (pe_glob (v := .str "anr") (by rfl) hm ⟨_, rfl⟩) pa_nil))) (blkOk_by (own := [("sign", 9)]) (N := nCompared) (sc := d_compared.scope) (by decide +kernel))
            (fun _ _ _ _ _ => pg_name (i := 9) sc_compared.nd rfl (.inl rfl)) (fun _ _ _ _ _ => pts_one (pt_val (pe_cal c3 hr (by decide) rfl (pa_cons (pv 2) (pa_cons (pv 6) (pa_cons (pv 9) pa_nil)))))) (fun _ _ _ _ _ => pv 9))) (pg_name (i := 9) sc_compared.nd rfl (.inl rfl))
          (pss_cons (ps_set (i := 10) sc_compared.nd rfl (.inl rfl) (pe_ifExp (pt_cmpR op_isN (pv 7) pe_non (nomark _)) pe_non (pe_cal c4 hr (by decide) rfl (pa_cons (pv 0) (pa_cons (pv 1) (pa_cons (pv 2) (pa_cons (pv 7) (pa_cons (pv 9) pa_nil))))))))
          (pss_cons (ps_set (i := 11) sc_compared.nd rfl (.inl rfl) (pe_tup (pa_cons (pe_cal c5 hr (by decide) rfl (pa_cons (pv 2) (pa_cons (pv 9) pa_nil))) (pa_cons (pv 10) pa_nil))))
          (pss_one (ps_if (pt_cmpR (o_dcNotIn K (w := w) hu) (pv 11) (pv 4) rfl)
            (pss_cons (ps_asg (pe_op op_add_str (pv 8) (pv 9)) (pg_sub (pv 4) (pv 11) (p_set K (w := w) hu)))
            (pss_one (ps_expr (pe_bm PySem.F.plainAttrs_list PySem.F.slot_list_append PySem.F.type_list_append mt_append (pv 5) (pa_cons (pv 11) pa_nil))))) pss_nil))))))))))
      (pss_one (ps_ret (pe_mk mA hr (by decide) rfl (pa_cons (pe_lock (pe_lc (own := [("is_open", 6), ("row", 7)]) (g := gTup K 2 (gCons (gName 6) (gCons (gName 7) gNil))) (tt := tYes) rfl sc_compared.nd (w_dk K (w := w) (pv 4)) (blkOk_by (own := [("is_open", 6), ("row", 7)]) (N := nCompared) (sc := d_compared.scope) (by decide +kernel))
          (fun _ _ _ _ _ => pg_tup rfl (pgs_cons (pg_name (i := 6) sc_compared.nd rfl (.inl rfl)) (pgs_cons (pg_name (i := 7) sc_compared.nd rfl (.inl rfl)) pgs_nil))) (fun _ _ _ _ _ => pts_nil) (fun _ _ _ _ _ => pv 7))) pa_nil))))))), ?_⟩
    -- begin
    refine ⟨_, rfl, _, rfl, v1, v2, w1, w2, rfl, h1, h2, l1, l2, fun H1 r e1 dr => ⟨two_line, fun b nb => ?_⟩⟩
    have e2 : Same H1 (upd H1 b (.tup [.bl false, .ref r])) := same_new nb
    have db : Dp K (upd H1 b (.tup [.bl false, .ref r])) (.ref b) (placeD (startP w1 w2)) := place_dp (p := startP w1 w2) (.inl (.inl upd_same)) (Same.dp e2 dr)
    have e02 := same_trans e1 e2
    generalize upd H1 b (.tup [.bl false, .ref r]) = H2 at *
    -- found, line
    intro d nd
    have e3 : Same H2 (upd H2 d (DcO w d [])) := same_new nd
    refine ⟨_, rfl, b, placeD (startP w1 w2), rfl, upd_same, Same.dp e3 db, ok_place _, fun xs dc => ?_⟩
    have ndH : H d = none := by
      cases z : H d with
      | none => rfl
      | some o => rw [e02 _ _ z] at nd; cases nd
    have e4 : Same H2 (upd (upd H2 d (DcO w d [])) d (DcO w d xs)) := fun p u z => by
      rw [upd_ne (ne_of_none z nd), upd_ne (ne_of_none z nd)]
      exact z
    have db4 := Same.dp e4 db
    have e04 := same_trans e02 e4
    refine ⟨_, rfl, by show 1 ≤ sizeLine; decide, fun l nl => ?_⟩
    have nlH : H l = none := by
      cases z : H l with
      | none => rfl
      | some o => rw [e04 _ _ z] at nl; cases nl
    have hdl : d ≠ l := fun z => by
      rw [← z, upd_same] at nl
      cases nl
    have e5 := same_new (o := HO.lst [.ref b]) nl
    have bh : BfsH K w H d l [(startP w1 w2, [])] [startP w1 w2] (upd (upd (upd H2 d (DcO w d [])) d (DcO w d xs)) l (.lst [.ref b])) := by
      refine ⟨same_trans e04 e5, ?_, [.ref b], upd_same, .cons (Same.dp e5 db4) .nil⟩
      have dc' := dc.same e5
      show DcAt K w _ d [(placeD (startP w1 w2), V.str (txS []))]
      rw [txS_nil]
      exact dc'
    refine ⟨_, _, rfl, ?_⟩
    generalize upd (upd (upd H2 d (DcO w d [])) d (DcO w d xs)) l (.lst [.ref b]) = H3 at *
    -- the loop
    refine ⟨fun m σ H' => ∃ found ds line, m + ds.length = bound w1 w2 + 1 ∧ Bfs w1 w2 k found ds line ∧ BfsH K w H d l found line H' ∧ SgC v1 v2 k b d l σ, ⟨bound w1 w2 + 1, [(startP w1 w2, [])], [], [startP w1 w2], rfl, bfs_start w1 w2 k, bh, none, none, none, none, none, none, rfl⟩, ?_⟩
    rintro m σ H4 ⟨found, ds, line, hms, B, BH, o6, o7, o8, o9, o10, o11, rfl⟩
    have hdb := B.doneLe
    have hbd := bound_le l1 l2
    refine ⟨_, rfl, Nat.zero_le _, fun p0 np0 => ?_⟩
    have BH1 := BH.ext (same_new (o := HO.lst []) np0)
    obtain ⟨ys, hl4, dl4⟩ := BH1.ln
    refine ⟨_, _, .lst (.inl (.inl hl4)) dl4, .lst (.inl (.inl upd_same)) .nil, sh_places line, by decide, _, rfl, ?_⟩
    rw [eqv_nil]
    generalize upd H4 p0 (.lst []) = H5 at *
    have same5 := BH1.same
    cases line with
    | nil =>
      refine iteF ?_
      obtain ⟨xs2, hd5, rd5⟩ := BH1.dc
      refine ⟨d, _, hd5, True.intro, fun od => ?_⟩
      have lk6 : LkD K w (upd H5 d (.frz od (DcO w d xs2))) d od (foundL found) := lkd_lock hd5 rd5
      refine ⟨_, rfl, d, od, foundL found, rfl, lk6, fun D nD => ?_⟩
      have wk := walk_dk (K := K) (w := w) (d := d) (o := od) (kvs := foundL found)
      rw [List.length_map] at wk
      have hfl := B.len
      refine lc_data (K := K) (L := found) (f := fun e => rowO e.1.2) (sel := fun _ => true) wk nD (fun e => flt_rowO _) (by omega) (fun H' e => lk6.same e) ?_ ?_
      · rintro i z x H7 H8 Nx hz e ⟨rfl, kk, vv, a, hkv, rfl, dk⟩ hyes hno
        rw [List.getElem?_map, hz] at hkv
        have ek : placeD z.1 = kk := congrArg Prod.fst (Option.some.inj hkv)
        rw [← ek] at dk
        obtain ⟨a', y, ea, hq, dy⟩ := dp_place dk
        cases ea
        exact ⟨a, _, rfl, hq, rfl, _, _, rfl, _, _, rfl, rfl, rfl, _, rfl, hyes rfl _ _ (fun _ _ z => z) dy⟩
      · intro H7 ys2 e hD dall
        have f7 : H7 d = some (.frz od (DcO w d xs2)) := e _ _ upd_same
        refine ⟨f7, fun x dx nx ndx nex => ?_⟩
        have s8 : Same H (upd H7 d (DcO w d xs2)) := same_upd (same_trans (same_upd same5 ndH) e) ndH
        have hDd : D ≠ d := fun z => by
          rw [z, upd_same] at nD
          cases nD
        have hD8 : (upd H7 d (DcO w d xs2)) D = some (.lst ys2) := (upd_ne hDd).trans hD
        have kp8 : ∀ a zs, SqT K H7 a zs → SqT K (upd H7 d (DcO w d xs2)) a zs := fun a zs z => tup_frz (fun _ z => by unfold DcO at z; cases z) f7 z
        generalize upd H7 d (DcO w d xs2) = H8 at *
        have s9 := same_new (o := HO.own x) ndx
        have nx9 : (upd H8 dx (.own x)) x = none := (upd_ne nex.symm).trans nx
        have s10 := same_new (o := HO.ins CA dx []) nx9
        refine ⟨x, dx, D, ys2, rfl, upd_same, .inl (.inl (s10 _ _ (s9 _ _ hD8))), fun la nla => ⟨rfl, ?_⟩⟩
        have s11 := same_new (o := HO.lst ys2) nla
        have s011 := same_trans s8 (same_trans s9 (same_trans s10 s11))
        have nxH : H x = none := Same.none s8 nx
        have hx11 : (upd (upd (upd H8 dx (.own x)) x (.ins CA dx [])) la (.lst ys2)) x = some (.ins CA dx []) := s11 _ _ upd_same
        have hl11 : (upd (upd (upd H8 dx (.own x)) x (.ins CA dx [])) la (.lst ys2)) la = some (.lst ys2) := upd_same
        have s811 := same_trans s9 (same_trans s10 s11)
        generalize upd (upd (upd H8 dx (.own x)) x (.ins CA dx [])) la (.lst ys2) = H11 at *
        have hlax : la ≠ x := fun z => by
          rw [z, hx11] at hl11
          cases hl11
        have dfin : Dp K (upd H11 x (.ins CA dx [("rows", .ref la)])) (.ref la) (rowsD (rowsF found)) := by
          refine .lst (xs := ys2) (.inl (.inl ((upd_ne hlax).trans hl11))) ?_
          rw [← rows_eq B]
          refine dpAll_keep (fun a zs z => tup_upd (by rw [hx11]; exact True.intro) (Same.tup s811 (kp8 a zs z))) _ _ ?_ dall
          exact flt_map (fun e => flt_rowO _) _
        exact q _ x (same_upd s011 nxH) (.inl ⟨dx, la, rowsF found, upd_same, dfin, B.rows l1 l2⟩)
    | cons p rest =>
      refine iteT ?_
      refine ⟨fun σ' H' => ∃ found ds line, (m - 1) + ds.length = bound w1 w2 + 1 ∧ Bfs w1 w2 k found ds line ∧ BfsH K w H d l found line H' ∧ SgC v1 v2 k b d l σ', fun σ' H' h => ⟨m - 1, by omega, h⟩, ?_⟩
      obtain ⟨t, ht, hgo, hgood, htl⟩ := B.pop
      cases dl4 with
      | @cons y ys' _ _ d1 d2 =>
        obtain ⟨a, x, rfl, hq5, dx5⟩ := dp_place d1
        refine ⟨_, rfl, .inl ⟨rfl, _, .inl (.inl hl4)⟩, l, _, 0, 0, _, rfl, rfl, hl4, by decide, by decide, by simp [seqIndex?], rfl, ?_⟩
        have BH6 : BfsH K w H d l found rest (upd H5 l (.lst ys')) := BH1.line' hdl nlH d2
        have hq6 : SqT K (upd H5 l (.lst ys')) a [.bl p.1, x] := tup_upd (noT_lst hl4) hq5
        have dx6 : Dp K (upd H5 l (.lst ys')) x (rowO p.2) := dp_upd (noT_lst hl4) (flt_rowO _) dx5
        show gTup _ _ _ _ _ (upd H5 l (.lst ys')) _
        generalize upd H5 l (.lst ys') = H6 at *
        refine ⟨a, _, rfl, hq6, rfl, _, _, rfl, _, _, rfl, rfl, ?_⟩
        refine ⟨_, rfl, _, rfl, _, rfl, two_line, fun T nT => ?_⟩
        have e67 := same_new (o := HO.tup [.bl p.1, x]) nT
        have BH7 := BH6.ext e67
        have dx7 := Same.dp e67 dx6
        refine ⟨T, d, _, placeD p, _, rfl, rfl, BH7.dc, place_dp (p := p) (.inl (.inl upd_same)) dx7, ok_place p, found_at B.nd ht, ?_⟩
        generalize upd H6 T (.tup [.bl p.1, x]) = H7 at *
        refine ⟨_, rfl, _, rfl, ?_⟩
        -- Parted
        have parted : Bad w1 w2 p → ∀ H8, Same H7 H8 → ∀ z dz, H8 z = none → H8 dz = none → dz ≠ z → sp_Parted_init CP [.ref z, .str (txS t)] (upd (upd H8 dz (.own z)) z (.ins CP dz [])) (fun v H2 => v = .non ∧ Q (.ref z) H2) E0 := fun hb H8 e8 z dz nz ndz nex => by
          have s8 := same_trans BH7.same e8
          have nzH : H z = none := Same.none s8 nz
          have ndzH : H dz = none := Same.none s8 ndz
          exact ⟨z, dz, _, rfl, upd_same, rfl, q _ z (same_upd (same_upd (same_upd s8 ndzH) nzH) nzH) (.inr ⟨dz, t, upd_same, bad_parts hgood hgo hb, by omega⟩)⟩
        cases ho : p.1 with
        | true =>
          refine iteF (iteF ?_)
          have hnb : ¬ Bad w1 w2 p := fun z => by
            have := z.1
            rw [ho] at this
            cases this
          have BH8 := BH7
          have dx8 := dx7
          refine ⟨[.a, .n, .r], by rw [txS_anr], by decide, fun p1 np1 => ⟨p1, rfl, ⟨_, .inl (.inl upd_same)⟩, fun D2 nD2 => ?_⟩⟩
          have e9 := same_new (o := HO.lst ([Sg.a, .n, .r].map fun s => V.str (sgS s))) np1
          have BH9 := BH8.ext e9
          have dx9 := Same.dp e9 dx8
          have hdD : D2 ≠ d := fun z => by
            obtain ⟨xs9, hd9, _⟩ := BH9.dc
            rw [z, hd9] at nD2
            cases nD2
          have hlD : D2 ≠ l := fun z => by
            obtain ⟨ys9, hl9, _⟩ := BH9.ln
            rw [z, hl9] at nD2
            cases nD2
          refine lc_data (K := K) (L := [Sg.a, .n, .r]) (f := fun s => .str (sgS s)) (sel := fun s => canCome k p.1 s) (walk_lstD (K := K) (a := p1) (L := [Sg.a, .n, .r]) (g := fun s => .str (sgS s))) nD2 (fun _ => rfl) (by decide)
            (fun H' e => Same.dp e (.lst (.inl (.inl upd_same)) (strs_dpAll _))) ?_ ?_
          · rintro i2 z y2 H9 H10 Nx hz e ⟨rfl, y⟩ hyes hno
            obtain rfl := dp_str (y z hz)
            refine ⟨rfl, ?_⟩
            refine ⟨_, rfl, _, rfl, _, rfl, k, true, z, rfl, _, rfl, ?_⟩
            have hcc : canCome k true z = canCome k p.1 z := by rw [ho]
            rw [hcc]
            cases hc : canCome k p.1 z with
            | true => exact iteT ⟨_, rfl, hyes hc _ _ (fun _ _ z => z) (.str _)⟩
            | false => exact iteF (hno hc _ fun _ _ z => z)
          · intro H10 ys3 e10 hD2 dall
            have eys : ys3 = (signs3 k p.1).map fun s => V.str (sgS s) := dpAll_strs dall
            rw [eys] at hD2
            refine ⟨D2, rfl, ⟨_, .inl (.inl hD2)⟩, for_it (walk_lstV (K := K) (a := D2) (L := signs3 k p.1) (g := fun s => V.str (sgS s))) (fun i σ H' => ∃ found2 line2, Mid w1 w2 k found2 ds line2 p t ((signs3 k p.1).take i) ∧ BfsH K w H d l found2 line2 H' ∧ Dp K H' x (rowO p.2) ∧ H' D2 = some (.lst ((signs3 k p.1).map fun s => V.str (sgS s))) ∧
                ∃ u9 u10 u11 : Option V, σ = [some v1, some v2, some (.str (kdS k)), some (.ref b), some (.ref d), some (.ref l), some (.bl true), some x, some (.str (txS t)), u9, u10, u11])
              ⟨found, rest, B.mid hnb ht, BH9.ext e10, Same.dp e10 dx9, hD2, o9, o10, o11, rfl⟩ (fun i σ H' _ ⟨_, _, _, _, _, hh, _⟩ => .inl (.inl hh)) ?_ ?_⟩
            · rintro i y2 σ H11 H12 hi ⟨found2, line2, M, BH11, dx11, hL11, u9, u10, u11, rfl⟩ ⟨rfl, y'⟩
              have hz : (signs3 k p.1)[i]? = some (signs3 k p.1)[i] := List.getElem?_eq_getElem hi
              obtain rfl := y' _ hz
              have hc := mem_signs3.mp (List.getElem_mem hi)
              generalize (signs3 k p.1)[i] = sg at *
              refine ⟨_, rfl, rfl, _, rfl, ?_⟩
              dsimp only [tC]
              refine late_ifG (tg := rowO (stepP w1 w2 k p sg).2) dx11 (fun z => by show rowO (p.2.bind _) = _; rw [z]; rfl) (fun r3 hr3 hcont => ?_) (fun lv H13 e13 dlv => ?_)
              · have dx11r := dx11
                rw [hr3] at dx11r
                obtain ⟨t3, ht3, hg3, hg3', ht3l⟩ : ∃ t3, t3 = t ∧ Good w1 w2 t (p.1, some r3) ∧ True ∧ True := ⟨t, rfl, by rw [← hr3]; exact hgood, True.intro, True.intro⟩
                refine ⟨_, rfl, _, rfl, _, rfl, _, rfl, _, rfl, v1, v2, x, w1, w2, k, r3, sg, rfl, Same.dp BH11.same h1, Same.dp BH11.same h2, l1, l2, dx11r, good_fit hg3 (by omega) l1 l2, fun H13 x3 e13 dx3 => hcont x3 H13 e13 ?_⟩
                show Dp K H13 x3 (rowO (p.2.bind _))
                rw [hr3]
                exact dx3
              · refine ⟨_, rfl, _, rfl, k, sg, rfl, _, rfl, two_line, fun PL nPL => ?_⟩
                have e14 := same_new (o := HO.tup [.bl (openB k sg), lv]) nPL
                have e1114 := same_trans e13 e14
                have BH14 := BH11.ext e1114
                have dx14 := Same.dp e1114 dx11
                have hL14 := e1114 _ _ hL11
                have dPL : Dp K (upd H13 PL (.tup [.bl (openB k sg), lv])) (.ref PL) (placeD (stepP w1 w2 k p sg)) := place_dp (p := stepP w1 w2 k p sg) (.inl (.inl upd_same)) (Same.dp e14 dlv)
                generalize upd H13 PL (.tup [.bl (openB k sg), lv]) = H14 at *
                refine ⟨_, rfl, _, rfl, PL, d, _, _, rfl, rfl, BH14.dc, dPL, ok_place _, _, rfl, ?_⟩
                have hML := M.len
                have hMk := congrArg List.length M.keys
                rw [List.length_map, List.length_append, List.length_append] at hMk
                have hMt := M.tl
                have h3 : ((signs3 k p.1).take i).length ≤ 3 := by
                  rw [List.length_take]
                  have := signs3_len k p.1
                  omega
                by_cases hin : stepP w1 w2 k p sg ∈ keysF found2
                · have z : (if true = true then !(lk (foundL found2) (placeD (stepP w1 w2 k p sg))).isSome else (lk (foundL found2) (placeD (stepP w1 w2 k p sg))).isSome) = false := by
                    rw [if_pos rfl, found_in hin]
                    rfl
                  rw [z]
                  refine iteF ⟨found2, line2, ?_, BH14, dx14, hL14, _, _, _, rfl⟩
                  rw [take_at hz]
                  exact M.old hin
                · have z : (if true = true then !(lk (foundL found2) (placeD (stepP w1 w2 k p sg))).isSome else (lk (foundL found2) (placeD (stepP w1 w2 k p sg))).isSome) = true := by
                    rw [if_pos rfl, found_out hin]
                    rfl
                  rw [z]
                  refine iteT ⟨_, rfl, _, rfl, _, _, rfl, rfl, by rw [txS_len, txS_len, sizeLine_eq]; show _ + 1 ≤ _; omega, _, rfl, _, rfl, PL, d, foundL found2, placeD (stepP w1 w2 k p sg), rfl, rfl, BH14.dc, dPL, ok_place _, found_out hin, by rw [List.length_map]; omega, fun xs15 dc15 => ?_⟩
                  obtain ⟨ys14, hl14, dl14⟩ := BH14.ln
                  obtain ⟨xs14, hd14, _⟩ := BH14.dc
                  have nt : NoT (H14 d) := BH14.dc.noT
                  have hl15 : (upd H14 d (DcO w d xs15)) l = some (.lst ys14) := (upd_ne hdl.symm).trans hl14
                  have hys := dpAll_len dl14
                  rw [List.length_map] at hys
                  refine ⟨_, rfl, .inl ⟨rfl, _, .inl (.inl hl15)⟩, _, rfl, l, _, _, rfl, rfl, hl15, by omega, ?_⟩
                  have kp : ∀ a zs, SqT K H14 a zs → SqT K (upd (upd H14 d (DcO w d xs15)) l (.lst (ys14 ++ [.ref PL]))) a zs := fun a zs z => tup_upd (noT_lst hl15) (tup_upd nt z)
                  refine ⟨found2 ++ [(stepP w1 w2 k p sg, t ++ [sg])], line2 ++ [stepP w1 w2 k p sg], ?_, ⟨same_upd (same_upd BH14.same ndH) nlH, ?_, ys14 ++ [.ref PL], upd_same, ?_⟩, ?_, ?_, _, _, _, rfl⟩
                  · rw [take_at hz]
                    exact M.new hc hin
                  · have dc16 := dc15.other (o := HO.lst (ys14 ++ [.ref PL])) hdl (noT_lst hl15)
                    show DcAt K w _ d (List.map _ (found2 ++ [_]))
                    rw [List.map_append]
                    rw [txS_app] at dc16
                    exact dc16
                  · rw [List.map_append]
                    exact dpAll_snoc (dpAll_keep kp _ _ (flt_places _) dl14) (dp_keep kp _ _ (flt_place _) dPL)
                  · exact dp_keep kp _ _ (flt_rowO _) dx14
                  · rw [upd_ne hlD, upd_ne hdD]
                    exact hL14
            · rintro σ H11 ⟨found2, line2, M, BH11, dx11, hL11, u9, u10, u11, rfl⟩
              rw [List.take_length] at M
              refine ⟨found2, ds ++ [p], line2, ?_, M.done (fun s hs => mem_signs3.mpr hs) (signs3_len _ _), BH11, _, _, _, _, _, _, rfl⟩
              rw [List.length_append]
              show m - 1 + (ds.length + 1) = _
              omega
        | false =>
          refine iteT ⟨_, rfl, rfl, _, rfl, ?_⟩
          cases hrow : p.2 with
          | none =>
            rw [hrow] at dx7
            have ex := dp_none dx7
            rw [ex]
            exact iteT (iteT ⟨_, rfl, parted ⟨ho, fun row z => by rw [hrow] at z; cases z⟩ _ fun _ _ z => z⟩)
          | some r =>
            have dx7r := dx7
            rw [hrow] at dx7r
            obtain ⟨ar, _, _, ex, _⟩ := dp_row dx7r
            have hg2 : Good w1 w2 t (p.1, some r) := by rw [← hrow]; exact hgood
            rw [decide_eq_false (by rw [ex]; intro z; cases z)]
            refine iteF ⟨_, rfl, _, rfl, _, rfl, v1, v2, x, w1, w2, r, rfl, Same.dp BH7.same h1, Same.dp BH7.same h2, l1, l2, dx7r, good_fit hg2 (by omega) l1 l2, fun H8 e8 => ⟨_, rfl, ?_⟩⟩
            cases hev : isEven w1 w2 r with
            | false => exact iteT ⟨_, rfl, parted ⟨ho, fun row z => by rw [hrow] at z; rw [← Option.some.inj z]; exact hev⟩ _ e8⟩
            | true =>
              refine iteF ?_
              have hnb : ¬ Bad w1 w2 p := fun z => by
                have := z.2 r hrow
                rw [hev] at this
                cases this
              have BH8 := BH7.ext e8
              have dx8 := Same.dp e8 dx7
              refine ⟨[.a, .n, .r], by rw [txS_anr], by decide, fun p1 np1 => ⟨p1, rfl, ⟨_, .inl (.inl upd_same)⟩, fun D2 nD2 => ?_⟩⟩
              have e9 := same_new (o := HO.lst ([Sg.a, .n, .r].map fun s => V.str (sgS s))) np1
              have BH9 := BH8.ext e9
              have dx9 := Same.dp e9 dx8
              have hdD : D2 ≠ d := fun z => by
                obtain ⟨xs9, hd9, _⟩ := BH9.dc
                rw [z, hd9] at nD2
                cases nD2
              have hlD : D2 ≠ l := fun z => by
                obtain ⟨ys9, hl9, _⟩ := BH9.ln
                rw [z, hl9] at nD2
                cases nD2
              refine lc_data (K := K) (L := [Sg.a, .n, .r]) (f := fun s => .str (sgS s)) (sel := fun s => canCome k p.1 s) (walk_lstD (K := K) (a := p1) (L := [Sg.a, .n, .r]) (g := fun s => .str (sgS s))) nD2 (fun _ => rfl) (by decide)
                (fun H' e => Same.dp e (.lst (.inl (.inl upd_same)) (strs_dpAll _))) ?_ ?_
              · rintro i2 z y2 H9 H10 Nx hz e ⟨rfl, y⟩ hyes hno
                obtain rfl := dp_str (y z hz)
                refine ⟨rfl, ?_⟩
                refine ⟨_, rfl, _, rfl, _, rfl, k, false, z, rfl, _, rfl, ?_⟩
                have hcc : canCome k false z = canCome k p.1 z := by rw [ho]
                rw [hcc]
                cases hc : canCome k p.1 z with
                | true => exact iteT ⟨_, rfl, hyes hc _ _ (fun _ _ z => z) (.str _)⟩
                | false => exact iteF (hno hc _ fun _ _ z => z)
              · intro H10 ys3 e10 hD2 dall
                have eys : ys3 = (signs3 k p.1).map fun s => V.str (sgS s) := dpAll_strs dall
                rw [eys] at hD2
                refine ⟨D2, rfl, ⟨_, .inl (.inl hD2)⟩, for_it (walk_lstV (K := K) (a := D2) (L := signs3 k p.1) (g := fun s => V.str (sgS s))) (fun i σ H' => ∃ found2 line2, Mid w1 w2 k found2 ds line2 p t ((signs3 k p.1).take i) ∧ BfsH K w H d l found2 line2 H' ∧ Dp K H' x (rowO p.2) ∧ H' D2 = some (.lst ((signs3 k p.1).map fun s => V.str (sgS s))) ∧
                    ∃ u9 u10 u11 : Option V, σ = [some v1, some v2, some (.str (kdS k)), some (.ref b), some (.ref d), some (.ref l), some (.bl false), some x, some (.str (txS t)), u9, u10, u11])
                  ⟨found, rest, B.mid hnb ht, BH9.ext e10, Same.dp e10 dx9, hD2, o9, o10, o11, rfl⟩ (fun i σ H' _ ⟨_, _, _, _, _, hh, _⟩ => .inl (.inl hh)) ?_ ?_⟩
                · rintro i y2 σ H11 H12 hi ⟨found2, line2, M, BH11, dx11, hL11, u9, u10, u11, rfl⟩ ⟨rfl, y'⟩
                  have hz : (signs3 k p.1)[i]? = some (signs3 k p.1)[i] := List.getElem?_eq_getElem hi
                  obtain rfl := y' _ hz
                  have hc := mem_signs3.mp (List.getElem_mem hi)
                  generalize (signs3 k p.1)[i] = sg at *
                  refine ⟨_, rfl, rfl, _, rfl, ?_⟩
                  dsimp only [tC]
                  refine late_ifG (tg := rowO (stepP w1 w2 k p sg).2) dx11 (fun z => by show rowO (p.2.bind _) = _; rw [z]; rfl) (fun r3 hr3 hcont => ?_) (fun lv H13 e13 dlv => ?_)
                  · have dx11r := dx11
                    rw [hr3] at dx11r
                    obtain ⟨t3, ht3, hg3, hg3', ht3l⟩ : ∃ t3, t3 = t ∧ Good w1 w2 t (p.1, some r3) ∧ True ∧ True := ⟨t, rfl, by rw [← hr3]; exact hgood, True.intro, True.intro⟩
                    refine ⟨_, rfl, _, rfl, _, rfl, _, rfl, _, rfl, v1, v2, x, w1, w2, k, r3, sg, rfl, Same.dp BH11.same h1, Same.dp BH11.same h2, l1, l2, dx11r, good_fit hg3 (by omega) l1 l2, fun H13 x3 e13 dx3 => hcont x3 H13 e13 ?_⟩
                    show Dp K H13 x3 (rowO (p.2.bind _))
                    rw [hr3]
                    exact dx3
                  · refine ⟨_, rfl, _, rfl, k, sg, rfl, _, rfl, two_line, fun PL nPL => ?_⟩
                    have e14 := same_new (o := HO.tup [.bl (openB k sg), lv]) nPL
                    have e1114 := same_trans e13 e14
                    have BH14 := BH11.ext e1114
                    have dx14 := Same.dp e1114 dx11
                    have hL14 := e1114 _ _ hL11
                    have dPL : Dp K (upd H13 PL (.tup [.bl (openB k sg), lv])) (.ref PL) (placeD (stepP w1 w2 k p sg)) := place_dp (p := stepP w1 w2 k p sg) (.inl (.inl upd_same)) (Same.dp e14 dlv)
                    generalize upd H13 PL (.tup [.bl (openB k sg), lv]) = H14 at *
                    refine ⟨_, rfl, _, rfl, PL, d, _, _, rfl, rfl, BH14.dc, dPL, ok_place _, _, rfl, ?_⟩
                    have hML := M.len
                    have hMk := congrArg List.length M.keys
                    rw [List.length_map, List.length_append, List.length_append] at hMk
                    have hMt := M.tl
                    have h3 : ((signs3 k p.1).take i).length ≤ 3 := by
                      rw [List.length_take]
                      have := signs3_len k p.1
                      omega
                    by_cases hin : stepP w1 w2 k p sg ∈ keysF found2
                    · have z : (if true = true then !(lk (foundL found2) (placeD (stepP w1 w2 k p sg))).isSome else (lk (foundL found2) (placeD (stepP w1 w2 k p sg))).isSome) = false := by
                        rw [if_pos rfl, found_in hin]
                        rfl
                      rw [z]
                      refine iteF ⟨found2, line2, ?_, BH14, dx14, hL14, _, _, _, rfl⟩
                      rw [take_at hz]
                      exact M.old hin
                    · have z : (if true = true then !(lk (foundL found2) (placeD (stepP w1 w2 k p sg))).isSome else (lk (foundL found2) (placeD (stepP w1 w2 k p sg))).isSome) = true := by
                        rw [if_pos rfl, found_out hin]
                        rfl
                      rw [z]
                      refine iteT ⟨_, rfl, _, rfl, _, _, rfl, rfl, by rw [txS_len, txS_len, sizeLine_eq]; show _ + 1 ≤ _; omega, _, rfl, _, rfl, PL, d, foundL found2, placeD (stepP w1 w2 k p sg), rfl, rfl, BH14.dc, dPL, ok_place _, found_out hin, by rw [List.length_map]; omega, fun xs15 dc15 => ?_⟩
                      obtain ⟨ys14, hl14, dl14⟩ := BH14.ln
                      obtain ⟨xs14, hd14, _⟩ := BH14.dc
                      have nt : NoT (H14 d) := BH14.dc.noT
                      have hl15 : (upd H14 d (DcO w d xs15)) l = some (.lst ys14) := (upd_ne hdl.symm).trans hl14
                      have hys := dpAll_len dl14
                      rw [List.length_map] at hys
                      refine ⟨_, rfl, .inl ⟨rfl, _, .inl (.inl hl15)⟩, _, rfl, l, _, _, rfl, rfl, hl15, by omega, ?_⟩
                      have kp : ∀ a zs, SqT K H14 a zs → SqT K (upd (upd H14 d (DcO w d xs15)) l (.lst (ys14 ++ [.ref PL]))) a zs := fun a zs z => tup_upd (noT_lst hl15) (tup_upd nt z)
                      refine ⟨found2 ++ [(stepP w1 w2 k p sg, t ++ [sg])], line2 ++ [stepP w1 w2 k p sg], ?_, ⟨same_upd (same_upd BH14.same ndH) nlH, ?_, ys14 ++ [.ref PL], upd_same, ?_⟩, ?_, ?_, _, _, _, rfl⟩
                      · rw [take_at hz]
                        exact M.new hc hin
                      · have dc16 := dc15.other (o := HO.lst (ys14 ++ [.ref PL])) hdl (noT_lst hl15)
                        show DcAt K w _ d (List.map _ (found2 ++ [_]))
                        rw [List.map_append]
                        rw [txS_app] at dc16
                        exact dc16
                      · rw [List.map_append]
                        exact dpAll_snoc (dpAll_keep kp _ _ (flt_places _) dl14) (dp_keep kp _ _ (flt_place _) dPL)
                      · exact dp_keep kp _ _ (flt_rowO _) dx14
                      · rw [upd_ne hlD, upd_ne hdD]
                        exact hL14
                · rintro σ H11 ⟨found2, line2, M, BH11, dx11, hL11, u9, u10, u11, rfl⟩
                  rw [List.take_length] at M
                  refine ⟨found2, ds ++ [p], line2, ?_, M.done (fun s hs => mem_signs3.mpr hs) (signs3_len _ _), BH11, _, _, _, _, _, _, rfl⟩
                  rw [List.length_append]
                  show m - 1 + (ds.length + 1) = _
                  omega
end
end TE

set_option Elab.async false
set_option linter.all false
set_option maxRecDepth 100000
set_option maxHeartbeats 4000000
/-! The defs: sparing, one. -/
namespace TE
open PySem PySem.Spec PyProof.Rows L2 TM
noncomputable def alikeB (w1 w2 : List Cv) (k : Kd) : Bool := @decide (AlikeS w1 w2 k) (Classical.propDecidable _)
theorem alikeB_true {w1 w2 : List Cv} {k : Kd} (h : AlikeS w1 w2 k) : alikeB w1 w2 k = true := @decide_eq_true _ (Classical.propDecidable _) h
theorem alikeB_false {w1 w2 : List Cv} {k : Kd} (h : ¬ AlikeS w1 w2 k) : alikeB w1 w2 k = false := @decide_eq_false _ (Classical.propDecidable _) h
theorem AlikeAt.is {K : PySem.W.Frag} {C : Addr} {H : Hp} {x : Addr} {w1 w2 : List Cv} {k : Kd} (h : AlikeAt K C H x w1 w2 k) : alikeB w1 w2 k = true :=
  let ⟨_, _, _, _, _, h3⟩ := h
  alikeB_true h3.alike
theorem PartedAt.is {C : Addr} {H : Hp} {x : Addr} {w1 w2 : List Cv} {k : Kd} (h : PartedAt C H x w1 w2 k) : alikeB w1 w2 k = false :=
  let ⟨_, _, _, h2, _⟩ := h
  alikeB_false h2.not
/-- a class's facts that isinstance asks -/
structure ClsI (K : PySem.W.Frag) (C : Addr) : Prop where
  cl : Cls K C
  ha : PySem.W.findIn K (.ref C) "__class__" = some (some (.builtin "object.__class__"))
  hm : PySem.W.mroIn K C (.type "object") = some true
structure GetI (K : PySem.W.Frag) : Prop where
  hn : PySem.W.specialIn K (.builtin "object.__class__") "__get__" = some (some (.builtin "getset_descriptor.__get__"))
  htk : PySem.W.takesIn K (.builtin "object.__class__") = some true
theorem tyX_ins {K : PySem.W.Frag} {H : Hp} {a C dx : Addr} {fs : List (Str × V)} (c : ClsI K C) (g : GetI K) (e : H a = some (.ins C dx fs)) : TyX K H (.ref a) (.ref C) := .base (.ins e c.cl c.ha g.hn g.htk c.hm)
/-! ### blocks in blocks -/
def relabS (scope sc : Scope) : Scope := { scope with names := scope.names.map fun (n, k) => if (k == NameKind.free && sc.kind == .function && sc.names.lookup n == some .cell) then (n, NameKind.cell) else (n, k) }
theorem blk_in {N : List Str} {env : Env} {scope scope2 : Scope} {cl : List (Str × Addr)} {C : Addr} {own : List (Str × Nat)} (sc : Scope) (h : blkC N (relabS scope sc) scope2 own = true) (he : env.scope = sc := by rfl) : BlkOk N (compEnvC scope cl C env).scope scope2 own := by
  subst he
  exact blkOk_by h
section
variable {X : Cx} (K : PySem.W.Frag) {e : Expr} {es : List Expr} {p : Pos} {te : L2.TE} {t : TA}
theorem p_star (he : PE X e te) (hr : PA X es t) (h : X.K = K := by rfl) (hs : starEach (.Starred e p :: es) X.env = (true, eval e X.env) :: starEach es X.env := by rfl) : PA X (.Starred e p :: es) (StX.tStar K te t) := by subst h; exact StX.pa_star he hr hs
end
section
variable {P : Program} {w : World} {K : PySem.W.Frag} {mg : Str → Option Value} {base : Heap} {f : Addr} {fd : FuncData}
theorem sc_compare : FnScope ["one", "other", "kind"] ["one", "other", "kind"] d_compare.scope := ⟨rfl, rfl, rfl, by decide +kernel, rfl, by decide +kernel, by decide +kernel⟩
theorem ok_compare {CA CP : Addr} (c1 : Cal P w K mg base 2 "check_both" ["one", "other", "kind"] (sp_check_both K)) (c2 : Cal P w K mg base 6 "compared" ["one", "other", "kind"] (sp_compared K CA CP)) (F : FnP K d_compare f fd) : FnOk P w K mg base CX0 7 f fd ["one", "other", "kind"] (sp_compared K CA CP) := by
  refine F.ok sc_compare (fun vs H Q E h => ?_) (fun cdv A outer s H vs Q E hr h => ?_)
  · obtain ⟨v1, v2, w1, w2, k, rfl, _⟩ := h
    rfl
  · obtain ⟨v1, v2, w1, w2, k, rfl, h1, h2, l1, l2, q⟩ := h
    refine ⟨_, PSs.nox (pss_cons (ps_expr (pe_cal c1 hr (by decide) rfl (pa_cons (pv 0) (pa_cons (pv 1) (pa_cons (pv 2) pa_nil))))) (pss_one (ps_ret (pe_cal c2 hr (by decide) rfl (pa_cons (pv 0) (pa_cons (pv 1) (pa_cons (pv 2) pa_nil))))))), ?_⟩
    exact ⟨_, rfl, _, rfl, _, rfl, v1, v2, w1, w2, k, rfl, h1, h2, l1, l2, fun H1 e1 => ⟨_, rfl, _, rfl, _, rfl, v1, v2, w1, w2, k, rfl, Same.dp e1 h1, Same.dp e1 h2, l1, l2, fun H2 x e2 h => q _ x (same_trans e1 e2) h⟩⟩
theorem sc_are_alike : FnScope ["one", "other", "kind"] ["one", "other", "kind"] d_are_alike.scope := ⟨rfl, rfl, rfl, by decide +kernel, rfl, by decide +kernel, by decide +kernel⟩
def sp_are_alike (K : PySem.W.Frag) : Sp := fun vs H Q _ => ∃ (v1 v2 : V) (w1 w2 : List Cv) (k : Kd), vs = [v1, v2, .str (kdS k)] ∧ Dp K H v1 (wayD w1) ∧ Dp K H v2 (wayD w2) ∧ w1.length ≤ 6 ∧ w2.length ≤ 6 ∧ ∀ H', Same H H' → Q (.bl (alikeB w1 w2 k)) H'
structure Kits (K : PySem.W.Frag) (CA CP : Addr) : Prop where
  a : ClsI K CA
  p : ClsI K CP
  g : GetI K
  aa : PySem.W.kitOne K (.ref CA) (.ref CA) = some true
  pa : PySem.W.kitOne K (.ref CP) (.ref CA) = some false
theorem kit_is {CA CP : Addr} {H : Hp} {x : Addr} {w1 w2 : List Cv} {k : Kd} (kt : Kits K CA CP) (h : AlikeAt K CA H x w1 w2 k ∨ PartedAt CP H x w1 w2 k) : ∃ t, TyX K H (.ref x) t ∧ PySem.W.kitOne K t (.ref CA) = some (alikeB w1 w2 k) := by
  rcases h with h | h
  · rw [h.is]
    obtain ⟨dx, l, rs, h1, _⟩ := h
    exact ⟨_, tyX_ins kt.a kt.g h1, kt.aa⟩
  · rw [h.is]
    obtain ⟨dx, t, h1, _⟩ := h
    exact ⟨_, tyX_ins kt.p kt.g h1, kt.pa⟩
theorem ok_are_alike {CA CP : Addr} (G : Glb K w mg) (kt : Kits K CA CP) (gA : mg "Alike" = some (.ref CA)) (c1 : Cal P w K mg base 7 "compare" ["one", "other", "kind"] (sp_compared K CA CP)) (F : FnP K d_are_alike f fd) : FnOk P w K mg base CX0 8 f fd ["one", "other", "kind"] (sp_are_alike K) := by
  refine F.ok sc_are_alike (fun vs H Q E h => ?_) (fun cdv A outer s H vs Q E hr h => ?_)
  · obtain ⟨v1, v2, w1, w2, k, rfl, _⟩ := h
    rfl
  · obtain ⟨v1, v2, w1, w2, k, rfl, h1, h2, l1, l2, q⟩ := h
    refine ⟨_, PSs.nox (pss_one (ps_ret (pe_callB (c_isi K) (by rfl) G.isinstance b_isinstance (pa_cons (pe_cal c1 hr (by decide) rfl (pa_cons (pv 0) (pa_cons (pv 1) (pa_cons (pv 2) pa_nil)))) (pa_cons (pe_glob (v := .ref CA) (by rfl) gA rfl) pa_nil))))), ?_⟩
    refine ⟨_, rfl, _, rfl, _, rfl, v1, v2, w1, w2, k, rfl, h1, h2, l1, l2, fun H1 x e1 h => ?_⟩
    obtain ⟨t, ht, hk⟩ := kit_is kt h
    exact ⟨_, _, t, _, _, rfl, .own CA, ht, hk, q _ e1⟩
theorem sc_are_indices : FnScope ["way", "thing", "index", "one", "other"] ["way", "thing"] d_are_indices.scope := ⟨rfl, rfl, rfl, by decide +kernel, rfl, by decide +kernel, by decide +kernel⟩
structure LotOk (wy : List Cv) (l : List Nat) : Prop where
  asc : Asc l
  lt : ∀ i ∈ l, i < wy.length
  wl : wy.length ≤ 6
theorem LotOk.len {wy : List Cv} {l : List Nat} (h : LotOk wy l) : l.length ≤ 6 := by
  have nd : l.Nodup := h.asc.imp fun h => Nat.ne_of_lt h
  have := nodup_len l (List.range wy.length) nd fun x hx => List.mem_range.mpr (h.lt x hx)
  rw [List.length_range] at this
  have := h.wl
  omega
def sp_are_indices (K : PySem.W.Frag) : Sp := fun vs H Q _ => ∃ (v1 v2 : V) (wy : List Cv) (l : List Nat), vs = [v1, v2] ∧ Dp K H v1 (wayD wy) ∧ Dp K H v2 (lotD l) ∧ LotOk wy l ∧ ∀ H', Same H H' → Q (.bl true) H'
theorem gTup_mono2 {K : PySem.W.Frag} {i j : Nat} : ∀ (x : V) (σ' : L2.St) (H' : Hp) (P Q : L2.St → Hp → Prop), (∀ σ2 H2, P σ2 H2 → Q σ2 H2) → gTup K 2 (gCons (gName i) (gCons (gName j) gNil)) x σ' H' P → gTup K 2 (gCons (gName i) (gCons (gName j) gNil)) x σ' H' Q :=
  fun x σ' H' P Q h ⟨a, xs, e, hq, hl, v, r, e1, v2, r2, e2, e3, q⟩ => ⟨a, xs, e, hq, hl, v, r, e1, v2, r2, e2, e3, h _ _ q⟩
theorem cut1 (xs : List V) : cutV xs (some 1) none = xs.drop 1 := by
  unfold cutV
  have e : HT.sIx xs.length 0 (some ((1 : Nat) : Int)) = min 1 xs.length := HT.sIx_nat _ _ _
  have e' : HT.sIx xs.length 0 (some (1 : Int)) = min 1 xs.length := e
  rw [e', HT.sIx_none]
  cases xs with
  | nil => rfl
  | cons x xs =>
    have : min 1 (x :: xs).length = 1 := by simp
    rw [this]
    exact List.take_of_length_le (by rw [List.length_drop]; exact Nat.le_refl _)
theorem slA_from1 {H : Hp} {a : Addr} {xs : List V} {Q : VK} (ha : SqT K H a xs) (hq : ∀ H' b, Same H H' → SqT K H' b (xs.drop 1) → Q (.ref b) H') : rSlA K (.ref a) (some 1) none H Q := by
  refine ⟨a, xs, rfl, ha, fun hw => hq H a (fun _ _ z => z) ?_, fun hn p np => hq _ p (same_new np) (.inl (.inl (by rw [upd_same, cut1])))⟩
  have e : HT.sIx xs.length 0 (some ((1 : Nat) : Int)) = min 1 xs.length := HT.sIx_nat _ _ _
  have e' : HT.sIx xs.length 0 (some (1 : Int)) = min 1 xs.length := e
  have h0 := hw.1
  rw [e'] at h0
  have : xs = [] := List.eq_nil_of_length_eq_zero (by omega)
  rw [this] at ha ⊢
  exact ha
theorem ok_are_indices (G : Glb K w mg) (c1 : Cal P w K mg base 1 "is_number" ["thing", "low", "high"] sp_is_number) (F : FnP K d_are_indices f fd) : FnOk P w K mg base CX0 2 f fd ["way", "thing"] (sp_are_indices K) := by
  refine F.ok sc_are_indices (fun vs H Q E h => ?_) (fun cdv A outer s H vs Q E hr h => ?_)
  · obtain ⟨v1, v2, wy, l, rfl, _⟩ := h
    rfl
  · obtain ⟨v1, v2, wy, l, rfl, h1, h2, ok, q⟩ := h
    have sl := sizeLine_eq
    have hlen := ok.len
    obtain ⟨wa, rfl, hwa⟩ := dp_way h1
    obtain ⟨a, rfl, ha⟩ := dp_lot h2
    refine ⟨_, PSs.nox (pss_cons (ps_if (PW.pt (pw_or (pt_not (pt_val (pe_callB (c_isi K) (by rfl) G.isinstance b_isinstance (pa_cons (pv 1) (pa_cons (pe_bltn (v := .ty "tuple") (by rfl) G.tuple b_tuple rfl) pa_nil)))))
        (pw_or1 (pt_not (pt_val (pe_callB (c_all K rfl) (by rfl) G.all b_all (pa_cons (pe_lc (own := [("index", 2)]) (g := gName 2) (tt := tYes) rfl sc_are_indices.nd (pi_tup (pv 1)) (blkOk_by (own := [("index", 2)]) (N := ["way", "thing", "index", "one", "other"]) (sc := d_are_indices.scope) (by decide +kernel))
          (fun _ _ _ _ _ => pg_name (i := 2) sc_are_indices.nd rfl (.inl rfl)) (fun _ _ _ _ _ => pts_nil) (fun _ _ _ _ _ => pe_cal c1 hr (by decide) rfl (pa_cons (pv 2) (pa_cons pe_int (pa_cons (pe_op op_sub (pe_callB (c_len K) (by rfl) G.len b_len (pa_cons (pv 0) pa_nil)) pe_int) pa_nil))))) pa_nil))))))) (pss_one (ps_ret pe_bl)) pss_nil)
      (pss_one (ps_ret (pe_callB (c_all K rfl) (by rfl) G.all b_all (pa_cons (pe_lc (own := [("one", 3), ("other", 4)]) (g := gTup K 2 (gCons (gName 3) (gCons (gName 4) gNil))) (tt := tYes) rfl sc_are_indices.nd (RZ.pi_zipA (by rfl) G.zip (pa_cons (pv 1) (pa_cons (pe_slice sl_tupA (pv 1) (po_some pe_int) po_none) pa_nil))) (blkOk_by (own := [("one", 3), ("other", 4)]) (N := ["way", "thing", "index", "one", "other"]) (sc := d_are_indices.scope) (by decide +kernel))
          (fun _ _ _ _ _ => pg_tup rfl (pgs_cons (pg_name (i := 3) sc_are_indices.nd rfl (.inl rfl)) (pgs_cons (pg_name (i := 4) sc_are_indices.nd rfl (.inl rfl)) pgs_nil))) (fun _ _ _ _ _ => pts_nil) (fun _ _ _ _ _ => pe_cmpR op_lt (pv 3) (pv 4) (nomark _))) pa_nil))))), ?_⟩
    refine ⟨_, rfl, _, _, _, _, true, rfl, .ty _, tyX_tup ha, kit_ty (by decide +kernel), _, rfl, iteF ?_⟩
    refine ⟨_, rfl, a, rfl, ⟨_, ha⟩, fun D nD => lc_bools (K := K) (L := l) (p := fun _ => true) (walk_tupD (g := fun n => .int (n : Nat))) nD (by omega) (fun H' e => Same.dp e h2) ?_ gName_mono ?_⟩
    · rintro i z x H1 H2 Nx hz e ⟨rfl, y⟩ k
      obtain rfl := dp_int (y z hz)
      refine ⟨rfl, _, rfl, _, rfl, wa, _, rfl, .inr (Same.tup e hwa), _, _, rfl, rfl, _, _, _, rfl, ?_⟩
      have hlt := ok.lt z (List.mem_of_getElem? hz)
      rw [List.length_map, decide_eq_true (by omega), decide_eq_true (by omega)]
      exact k _ fun _ _ z => z
    · intro H1 e1 hD
      refine ⟨D, _, rfl, hD, _, rfl, ?_⟩
      rw [all_map]
      have e2 : (l.all fun _ => true) = true := by simp
      rw [e2]
      refine iteF ?_
      have ha1 := Same.tup e1 ha
      refine ⟨_, rfl, _, rfl, 1, rfl, ?_⟩
      dsimp only [tNoPart]
      refine slA_from1 ha1 fun H2 b e2 hb => ?_
      have ha2 := Same.tup e2 ha1
      rw [← List.map_drop] at hb
      refine ⟨a, b, _, _, rfl, .inr ⟨ha2, hb, fun D2 nD2 => lc_bools (K := K) (L := l.drop 1) (p := fun _ => true) (walk_zipT (K := K) (a := a) (b := b) (xs := l.map fun n => V.int (n : Nat)) (ys := (l.drop 1).map fun n => V.int (n : Nat)) (n := (l.drop 1).length) (by rw [List.length_map, List.length_map, List.length_drop]; omega)) nD2 (by rw [List.length_drop]; omega) (fun H' e => ⟨Same.tup e ha2, Same.tup e hb⟩) ?_ gTup_mono2 ?_⟩⟩
      · rintro i z x H3 H4 Nx hz e ⟨T, y1, y2, rfl, nT, rfl, hy1, hy2⟩ kk
        have hz' : l[i + 1]? = some z := by rw [List.getElem?_drop, Nat.add_comm] at hz; exact hz
        have hi1 : i + 1 < l.length := (List.getElem?_eq_some_iff.mp hz').1
        have hz0 : l[i]? = some l[i] := List.getElem?_eq_getElem (by omega)
        have hy1 : (l.map fun n => V.int (n : Nat))[i]? = some y1 := hy1
        have hy2 : ((l.drop 1).map fun n => V.int (n : Nat))[i]? = some y2 := hy2
        rw [List.getElem?_map, hz0] at hy1
        rw [List.getElem?_map, hz] at hy2
        obtain rfl := Option.some.inj hy1
        obtain rfl := Option.some.inj hy2
        have hlt : l[i] < z := by
          have h5 := List.pairwise_iff_getElem.mp ok.asc i (i + 1) (by omega) hi1 (Nat.lt_succ_self _)
          have h6 := (List.getElem?_eq_some_iff.mp hz').2
          rw [h6] at h5
          exact h5
        refine ⟨T, _, rfl, .inl (.inl upd_same), rfl, _, _, rfl, _, _, rfl, rfl, rfl, _, rfl, _, rfl, _, _, rfl, rfl, ?_⟩
        have e5 : decide (((l[i] : Nat) : Int) < ((z : Nat) : Int)) = true := decide_eq_true (by omega)
        show ∃ acc, (upd H3 T (.tup [.int (l[i] : Nat), .int (z : Nat)])) D2 = some (.lst acc) ∧ acc.length < sizeLine ∧ Nx (upd (upd H3 T (.tup [.int (l[i] : Nat), .int (z : Nat)])) D2 (.lst (acc ++ [V.bl (decide (((l[i] : Nat) : Int) < ((z : Nat) : Int)))])))
        rw [e5]
        exact kk _ (same_new nT)
      · intro H3 e3 hD3
        refine ⟨D2, _, rfl, hD3, ?_⟩
        rw [all_map]
        have e4 : ((l.drop 1).all fun _ => true) = true := by simp
        rw [e4]
        exact q _ (same_trans e1 (same_trans e2 e3))
theorem sc_check_offers : FnScope ["way", "offers"] ["way", "offers"] d_check_offers.scope := ⟨rfl, rfl, rfl, by decide +kernel, rfl, by decide +kernel, by decide +kernel⟩
structure OffOk (wy : List Cv) (l : List Nat) : Prop where
  lot : LotOk wy l
  pos : 1 ≤ l.length
  few : l.length ≤ 4
def sp_check_offers (K : PySem.W.Frag) : Sp := fun vs H Q _ => ∃ (v1 v2 : V) (wy : List Cv) (l : List Nat), vs = [v1, v2] ∧ Dp K H v1 (wayD wy) ∧ Dp K H v2 (lotD l) ∧ OffOk wy l ∧ ∀ H', Same H H' → Q .non H'
theorem ok_check_offers (G : Glb K w mg) (c1 : Cal P w K mg base 1 "check_way" ["way"] (sp_check_way K)) (c2 : Cal P w K mg base 2 "are_indices" ["way", "thing"] (sp_are_indices K)) (F : FnP K d_check_offers f fd) : FnOk P w K mg base CX0 3 f fd ["way", "offers"] (sp_check_offers K) := by
  refine F.ok sc_check_offers (fun vs H Q E h => ?_) (fun cdv A outer s H vs Q E hr h => ?_)
  · obtain ⟨v1, v2, wy, l, rfl, _⟩ := h
    rfl
  · obtain ⟨v1, v2, wy, l, rfl, h1, h2, ok, q⟩ := h
    obtain ⟨tm, hm⟩ := G.mostO
    refine ⟨_, PSs.nox (pss_cons (ps_expr (pe_cal c1 hr (by decide) rfl (pa_cons (pv 0) pa_nil)))
      (pss_one (ps_if (PW.pt (pw_or (pt_not (pt_val (pe_cal c2 hr (by decide) rfl (pa_cons (pv 0) (pa_cons (pv 1) pa_nil))))) (pw_or1 (pt_not (pt_chain op_le op_le pe_int (pe_callB (c_len K) (by rfl) G.len b_len (pa_cons (pv 1) pa_nil)) (pe_glob (v := .int 4) (by rfl) hm ⟨_, rfl⟩)))))) (pss_one ps_never) pss_nil))), ?_⟩
    refine ⟨_, rfl, v1, wy, rfl, h1, ok.lot.wl, fun H1 e1 => ?_⟩
    refine ⟨_, rfl, _, rfl, v1, v2, wy, l, rfl, Same.dp e1 h1, Same.dp e1 h2, ok.lot, fun H2 e2 => ⟨_, rfl, iteF ?_⟩⟩
    obtain ⟨a, rfl, ha⟩ := dp_lot (Same.dp (same_trans e1 e2) h2)
    have p1 := ok.pos
    have p2 := ok.few
    refine ⟨_, rfl, a, _, rfl, .inr ha, _, _, rfl, rfl, _, rfl, ?_⟩
    rw [List.length_map, decide_eq_true (by omega)]
    refine iteT ⟨_, _, rfl, rfl, _, rfl, ?_⟩
    rw [decide_eq_true (by omega)]
    exact iteF (q _ (same_trans e1 e2))
theorem sc_check_three : FnScope ["way", "offers", "kind"] ["way", "offers", "kind"] d_check_three.scope := ⟨rfl, rfl, rfl, by decide +kernel, rfl, by decide +kernel, by decide +kernel⟩
def sp_check_three (K : PySem.W.Frag) : Sp := fun vs H Q _ => ∃ (v1 v2 : V) (wy : List Cv) (l : List Nat) (k : Kd), vs = [v1, v2, .str (kdS k)] ∧ Dp K H v1 (wayD wy) ∧ Dp K H v2 (lotD l) ∧ OffOk wy l ∧ ∀ H', Same H H' → Q .non H'
theorem ok_check_three (c1 : Cal P w K mg base 3 "check_offers" ["way", "offers"] (sp_check_offers K)) (c2 : Cal P w K mg base 1 "check_kind" ["kind"] sp_check_kind) (F : FnP K d_check_three f fd) : FnOk P w K mg base CX0 4 f fd ["way", "offers", "kind"] (sp_check_three K) := by
  refine F.ok sc_check_three (fun vs H Q E h => ?_) (fun cdv A outer s H vs Q E hr h => ?_)
  · obtain ⟨v1, v2, wy, l, k, rfl, _⟩ := h
    rfl
  · obtain ⟨v1, v2, wy, l, k, rfl, h1, h2, ok, q⟩ := h
    refine ⟨_, PSs.nox (pss_cons (ps_expr (pe_cal c1 hr (by decide) rfl (pa_cons (pv 0) (pa_cons (pv 1) pa_nil)))) (pss_one (ps_expr (pe_cal c2 hr (by decide) rfl (pa_cons (pv 2) pa_nil))))), ?_⟩
    exact ⟨_, rfl, _, rfl, v1, v2, wy, l, rfl, h1, h2, ok, fun H1 e1 => ⟨_, rfl, k, rfl, q _ e1⟩⟩
theorem sc_left_of : FnScope ["way", "lot", "index", "word"] ["way", "lot"] d_left_of.scope := ⟨rfl, rfl, rfl, by decide +kernel, rfl, by decide +kernel, by decide +kernel⟩
def sp_left_of (K : PySem.W.Frag) : Sp := fun vs H Q _ => ∃ (v1 v2 : V) (wy : List Cv) (l : List Nat), vs = [v1, v2] ∧ Dp K H v1 (wayD wy) ∧ Dp K H v2 (lotD l) ∧ wy.length ≤ 6 ∧ ∀ H' r, Same H H' → Dp K H' r (wayD (leftOf wy l)) → Q r H'
theorem in_ints (i : Nat) (l : List Nat) : inV (.int (i : Nat)) (l.map fun n => V.int (n : Nat)) = decide (i ∈ l) := by
  unfold inV
  rw [List.any_map, Bool.eq_iff_iff, List.any_eq_true, decide_eq_true_eq]
  constructor
  · rintro ⟨x, hx, e⟩
    have e' : eqV (.int (x : Nat)) (.int (i : Nat)) = true := e
    have e2 : x = i := by
      unfold eqV at e'
      have e3 : (x : Int) = (i : Int) := by simpa using e'
      omega
    rw [← e2]
    exact hx
  · intro h
    refine ⟨i, h, ?_⟩
    show eqV (.int (i : Nat)) (.int (i : Nat)) = true
    unfold eqV
    simp
theorem flat_ints (l : List Nat) : (l.map fun n => V.int (n : Nat)).all flatV = true := by
  rw [List.all_map, List.all_eq_true]
  intro x _
  rfl
theorem left_core {H : Hp} {a la : Addr} {wy : List Cv} {l : List Nat} (g : TG) (tt : TT) (te : L2.TE) (vs : List Nat) (σ : L2.St) {Qd : Hp → Prop} (h6 : wy.length ≤ 6) (ha : SqT K H a (wy.map fun c => V.str (cvS c))) {D : Addr} (nD : H D = none)
    (hs : ∀ i c T H1 (Nx : Hp → Prop), wy[i]? = some c → Same H H1 → H1 T = some (.tup [.int (i : Nat), .str (cvS c)]) → (i ∉ l → ∃ acc, H1 D = some (.lst acc) ∧ acc.length < sizeLine ∧ Nx (upd H1 D (.lst (acc ++ [.str (cvS c)])))) → (i ∈ l → Nx H1) →
      g (.ref T) (wipe σ vs) H1 fun σ2 H2 => wipe σ2 vs = wipe σ vs ∧ tt σ2 H2 fun b H3 => if b = true then te σ2 H3 fun y H4 => ∃ acc, H4 D = some (.lst acc) ∧ acc.length < sizeLine ∧ Nx (upd H4 D (.lst (acc ++ [y]))) else Nx H3)
    (hd : ∀ H', Same H H' → H' D = some (.lst ((leftOf wy l).map fun c => V.str (cvS c))) → Qd H') :
    ∃ W : Nat → Nat → Hp → Prop, (∃ m, W 0 m (upd H D (.lst []))) ∧ ∀ i m H, W i m H →
      ((ItEt K a).stop i H ∧ Qd H) ∨ ((ItEt K a).go i H ∧ ∃ Nx : Hp → Prop, (∀ H', Nx H' → ∃ m', m' < m ∧ W (i + 1) m' H') ∧ ∀ x H', (ItEt K a).yld i H x H' → g x (wipe σ vs) H' fun σ2 H2 => wipe σ2 vs = wipe σ vs ∧ tt σ2 H2 fun b H3 =>
        if b = true then te σ2 H3 fun y H4 => ∃ acc, H4 D = some (.lst acc) ∧ acc.length < sizeLine ∧ Nx (upd H4 D (.lst (acc ++ [y]))) else Nx H3) := by
  have wk := walk_et (K := K) (a := a) (xs := wy.map fun c => V.str (cvS c))
  rw [List.length_map] at wk
  have sl := sizeLine_eq
  refine lc_it wk (fun i H' => Same H H' ∧ H' D = some (.lst ((leftTo wy l i).map fun c => V.str (cvS c)))) ⟨same_new nD, upd_same⟩ (fun i H' _ p => Same.tup p.1 ha) (fun i x H1 H2 hi p y => ?_) fun H' p => hd H' p.1 p.2
  obtain ⟨T, x1, x2, rfl, nT, rfl, hx1, hx2⟩ := y
  have hw : wy[i]? = some wy[i] := List.getElem?_eq_getElem hi
  have hx2' : (wy.map fun c => V.str (cvS c))[i]? = some x2 := hx2
  rw [List.getElem?_map, hw] at hx2'
  obtain rfl := Option.some.inj hx2'
  obtain rfl : V.int (i : Nat) = x1 := Option.some.inj hx1
  have e2 := same_new (o := HO.tup [.int (i : Nat), .str (cvS wy[i])]) nT
  have hl := leftTo_len wy l i
  refine hs i wy[i] T _ _ hw (same_trans p.1 e2) upd_same (fun hn => ⟨_, e2 _ _ p.2, by rw [List.length_map]; omega, same_upd (same_trans p.1 e2) nD, ?_⟩) fun hm => ⟨same_trans p.1 e2, ?_⟩
  · rw [upd_same]
    show _ = some (HO.lst ((leftTo wy l i ++ (if i ∈ l then [] else wy[i]?.toList)).map fun c => V.str (cvS c)))
    rw [if_neg hn, hw, List.map_append]
    rfl
  · rw [e2 _ _ p.2]
    show _ = some (HO.lst ((leftTo wy l i ++ (if i ∈ l then [] else wy[i]?.toList)).map fun c => V.str (cvS c)))
    rw [if_pos hm, List.append_nil]
theorem ok_left_of (G : Glb K w mg) (F : FnP K d_left_of f fd) : FnOk P w K mg base CX0 1 f fd ["way", "lot"] (sp_left_of K) := by
  refine F.ok sc_left_of (fun vs H Q E h => ?_) (fun cdv A outer s H vs Q E hr h => ?_)
  · obtain ⟨v1, v2, wy, l, rfl, _⟩ := h
    rfl
  · obtain ⟨v1, v2, wy, l, rfl, h1, h2, h6, q⟩ := h
    obtain ⟨a, rfl, ha⟩ := dp_way h1
    obtain ⟨la, rfl, hla⟩ := dp_lot h2
    refine ⟨_, PSs.nox (pss_one (ps_ret (pe_callTy call_tuple_of (by rfl) G.tuple b_tuple (pa_cons (pe_lc (own := [("index", 2), ("word", 3)]) (g := gTup K 2 (gCons (gName 2) (gCons (gName 3) gNil))) rfl sc_left_of.nd (pi_enumT (by rfl) G.enumerate (pa_cons (pv 0) pa_nil)) (blkOk_by (own := [("index", 2), ("word", 3)]) (N := ["way", "lot", "index", "word"]) (sc := d_left_of.scope) (by decide +kernel))
      (fun _ _ _ _ _ => pg_tup rfl (pgs_cons (pg_name (i := 2) sc_left_of.nd rfl (.inl rfl)) (pgs_cons (pg_name (i := 3) sc_left_of.nd rfl (.inl rfl)) pgs_nil))) (fun _ _ _ _ _ => pts_one (pt_cmpR (o_notin K) (pv 2) (pv 1) rfl)) (fun _ _ _ _ _ => pv 3)) pa_nil)))), ?_⟩
    refine ⟨_, rfl, a, _, rfl, ha, fun D nD => left_core (la := la) (wy := wy) (l := l) _ _ _ _ _ h6 ha nD ?_ fun H1 e1 hD => ?_⟩
    · intro i c T H1 Nx hc e hT hyes hno
      refine ⟨T, _, rfl, .inl (.inl hT), rfl, _, _, rfl, _, _, rfl, rfl, rfl, ?_⟩
      refine ⟨_, rfl, _, rfl, la, _, rfl, .inr (Same.tup e hla), rfl, flat_ints l, _, rfl, ?_⟩
      rw [if_pos rfl, in_ints]
      by_cases hm : i ∈ l
      · rw [decide_eq_true hm]
        exact iteF (hno hm)
      · rw [decide_eq_false hm]
        exact iteT ⟨_, rfl, hyes hm⟩
    · refine ⟨D, _, rfl, .inl ⟨.inl (.inl hD), fun p np => ?_⟩⟩
      exact q _ _ (same_trans e1 (same_new np)) (way_dp (.inl (.inl upd_same)))
theorem sc_is_within : FnScope ["one", "lot", "index"] ["one", "lot"] d_is_within.scope := ⟨rfl, rfl, rfl, by decide +kernel, rfl, by decide +kernel, by decide +kernel⟩
def sp_is_within (K : PySem.W.Frag) : Sp := fun vs H Q _ => ∃ (v1 v2 : V) (l m : List Nat), vs = [v1, v2] ∧ Dp K H v1 (lotD l) ∧ Dp K H v2 (lotD m) ∧ l.length ≤ 64 ∧ ∀ H', Same H H' → Q (.bl (within l m)) H'
theorem ok_is_within (G : Glb K w mg) (F : FnP K d_is_within f fd) : FnOk P w K mg base CX0 1 f fd ["one", "lot"] (sp_is_within K) := by
  refine F.ok sc_is_within (fun vs H Q E h => ?_) (fun cdv A outer s H vs Q E hr h => ?_)
  · obtain ⟨v1, v2, l, m, rfl, _⟩ := h
    rfl
  · obtain ⟨v1, v2, l, m, rfl, h1, h2, hl, q⟩ := h
    have sl := sizeLine_eq
    obtain ⟨a, rfl, ha⟩ := dp_lot h1
    obtain ⟨b, rfl, hb⟩ := dp_lot h2
    refine ⟨_, PSs.nox (pss_one (ps_ret (pe_callB (c_all K rfl) (by rfl) G.all b_all (pa_cons (pe_lc (own := [("index", 2)]) (g := gName 2) (tt := tYes) rfl sc_is_within.nd (pi_tup (pv 0)) (blkOk_by (own := [("index", 2)]) (N := ["one", "lot", "index"]) (sc := d_is_within.scope) (by decide +kernel))
      (fun _ _ _ _ _ => pg_name (i := 2) sc_is_within.nd rfl (.inl rfl)) (fun _ _ _ _ _ => pts_nil) (fun _ _ _ _ _ => pe_cmpR (o_in K) (pv 2) (pv 1) rfl)) pa_nil)))), ?_⟩
    refine ⟨_, rfl, a, rfl, ⟨_, ha⟩, fun D nD => lc_bools (K := K) (L := l) (p := fun i => decide (i ∈ m)) (walk_tupD (g := fun n => .int (n : Nat))) nD (by omega) (fun H' e => Same.dp e h1) ?_ gName_mono ?_⟩
    · rintro i z x H1 H2 Nx hz e ⟨rfl, y⟩ kk
      obtain rfl := dp_int (y z hz)
      refine ⟨rfl, _, rfl, _, rfl, b, _, rfl, .inr (Same.tup e hb), rfl, flat_ints m, ?_⟩
      rw [if_neg Bool.false_ne_true, in_ints]
      exact kk _ fun _ _ z => z
    · intro H1 e1 hD
      refine ⟨D, _, rfl, hD, ?_⟩
      rw [all_map]
      exact q _ e1
theorem sc_without : FnScope ["way", "lot"] ["way", "lot"] d_without.scope := ⟨rfl, rfl, rfl, by decide +kernel, rfl, by decide +kernel, by decide +kernel⟩
def sp_without (K : PySem.W.Frag) : Sp := fun vs H Q _ => ∃ (v1 v2 : V) (wy : List Cv) (l : List Nat), vs = [v1, v2] ∧ Dp K H v1 (wayD wy) ∧ Dp K H v2 (lotD l) ∧ LotOk wy l ∧ ∀ H' r, Same H H' → Dp K H' r (wayD (leftOf wy l)) → Q r H'
theorem ok_without (c1 : Cal P w K mg base 1 "check_way" ["way"] (sp_check_way K)) (c2 : Cal P w K mg base 2 "are_indices" ["way", "thing"] (sp_are_indices K)) (c3 : Cal P w K mg base 1 "left_of" ["way", "lot"] (sp_left_of K)) (F : FnP K d_without f fd) : FnOk P w K mg base CX0 3 f fd ["way", "lot"] (sp_without K) := by
  refine F.ok sc_without (fun vs H Q E h => ?_) (fun cdv A outer s H vs Q E hr h => ?_)
  · obtain ⟨v1, v2, wy, l, rfl, _⟩ := h
    rfl
  · obtain ⟨v1, v2, wy, l, rfl, h1, h2, ok, q⟩ := h
    refine ⟨_, PSs.nox (pss_cons (ps_expr (pe_cal c1 hr (by decide) rfl (pa_cons (pv 0) pa_nil)))
      (pss_cons (ps_if (pt_not (pt_val (pe_cal c2 hr (by decide) rfl (pa_cons (pv 0) (pa_cons (pv 1) pa_nil))))) (pss_one ps_never) pss_nil)
      (pss_one (ps_ret (pe_cal c3 hr (by decide) rfl (pa_cons (pv 0) (pa_cons (pv 1) pa_nil))))))), ?_⟩
    refine ⟨_, rfl, v1, wy, rfl, h1, ok.wl, fun H1 e1 => ?_⟩
    refine ⟨_, rfl, _, rfl, v1, v2, wy, l, rfl, Same.dp e1 h1, Same.dp e1 h2, ok, fun H2 e2 => ⟨_, rfl, iteF ?_⟩⟩
    have e12 := same_trans e1 e2
    exact ⟨_, rfl, _, rfl, v1, v2, wy, l, rfl, Same.dp e12 h1, Same.dp e12 h2, ok.wl, fun H3 r e3 d => q _ _ (same_trans e12 e3) d⟩
end
end TE

set_option Elab.async false
set_option linter.all false
set_option maxRecDepth 100000
set_option maxHeartbeats 4000000
/-! The defs: sparing, two: lots. -/
namespace TE
open PySem PySem.Spec PyProof.Rows L2 TM
section
variable {P : Program} {w : World} {K : PySem.W.Frag} {mg : Str → Option Value} {base : Heap} {x qual : Str} {params : Arguments} {body : List Stmt} {scope : Scope} {f : Addr} {fd : FuncData}
/-- the rule for a def, its code object told -/
theorem fun_okC {CX : CXT} {N ps : List Str} {k : Nat} {sp : Sp} (F : FunD K x qual params body scope [] [] f fd) (S : FnScope N ps scope) (len : ∀ vs H Q E, sp vs H Q E → vs.length = ps.length)
    (hbody : ∀ (A : Around) (outer : List Env) (s : Shared) (H : Hp) (vs : List V) (Q : VK) (E : XK), Room k (A.deeper (envOfC qual scope s.heap.objs.size f fd.code)) → sp vs H Q E →
      ∃ t, PSs (cxOf CX P w K mg base N qual scope f fd.code A outer s H E) body t ∧ t { nx := fun _ H' => Q .non H', rt := Q } (L2.start N vs) H) : FnOk P w K mg base CX (k + 1) f fd ps sp := by
  obtain ⟨oc, od, dV, kV, doc, pm, an, cdv, ct, osl, rfl, lk, hcd, _, _⟩ := F.ex
  exact fn_of lk hcd S len hbody
end
theorem subsTo_snoc : ∀ (l : List Nat) (f : List (List Nat)) (i : Nat), subsTo f (l ++ [i]) = subsTo f l ++ (subsTo f l).map (· ++ [i])
  | [], f, i => rfl
  | a :: l, f, i => subsTo_snoc l _ i
theorem subs_take {l : List Nat} {i a : Nat} (h : l[i]? = some a) : subs (l.take (i + 1)) = subs (l.take i) ++ (subs (l.take i)).map (· ++ [a]) := by
  rw [take_at h]
  exact subsTo_snoc _ _ _
theorem lot_snoc (l : List Nat) (i : Nat) : lotD (l ++ [i]) = .tuple ((l.map fun n => PyData.int (n : Nat)) ++ [.int (i : Nat)]) := by
  unfold lotD
  rw [List.map_append]
  rfl
section
variable {P : Program} {w : World} {K : PySem.W.Frag} {mg : Str → Option Value} {base : Heap} {f : Addr} {fd : FuncData}
theorem sc_lots_of : FnScope ["offers", "found", "index", "lot"] ["offers"] d_lots_of.scope := ⟨rfl, rfl, rfl, by decide +kernel, rfl, by decide +kernel, by decide +kernel⟩
def sp_lots_of (K : PySem.W.Frag) (T : List (Addr × Str)) : Sp := fun vs H Q _ => ∃ (v : V) (l : List Nat), vs = [v] ∧ Dp K H v (lotD l) ∧ l.length ≤ 4 ∧ LamX.Tabs T H ∧ ∀ H' p, LamX.ExtN H H' → LamX.Tabs T H' → Dp K H' (.ref p) (lotsD (sortLots (subs l))) → Q (.ref p) H'
/-- one index more -/
theorem lots_turn {H : Hp} {found : List (List Nat)} {a i : Nat} (h : Dp K H (.ref a) (lotsD found)) : True := True.intro
theorem ok_lots_of {T : List (Addr × Str)} {c Pt : Addr} (G : Glb K w mg) (TB : LamX.TabB base mg c Pt) (hcode : fd.code = .ref c) (hm : (Pt, ("lots_of" ++ ".<locals>." : Str) ++ "<lambda>") ∈ T) (hu : ∀ p ∈ T, p.1 = Pt → p.2 = ("lots_of" ++ ".<locals>." : Str) ++ "<lambda>") (F : FnP K d_lots_of f fd) :
    FnOk P w K mg base CX0 4 f fd ["offers"] (sp_lots_of K T) := by
  refine fun_okC F sc_lots_of (fun vs H Q E h => ?_) (fun A outer s H vs Q E hr h => ?_)
  · obtain ⟨v, l, rfl, _⟩ := h
    rfl
  · obtain ⟨v, l, rfl, h1, hl, hT, q⟩ := h
    have sl := sizeLine_eq
    obtain ⟨oa, rfl, hoa⟩ := dp_lot h1
    refine ⟨_, PSs.nox (pss_cons (ps_set (i := 1) sc_lots_of.nd rfl (.inl rfl) (pe_lst (pa_cons (pe_tup pa_nil) pa_nil)))
      (pss_cons (ps_for PassesOwn.never rfl (pi_tup (pv 0)) (pg_name (i := 2) sc_lots_of.nd rfl (.inr rfl))
        (pss_one (ps_set (i := 1) sc_lots_of.nd rfl (.inl rfl) (pe_lst (p_star K (pv 1) (p_star K (pe_lc (own := [("lot", 3)]) (g := gName 3) (tt := tYes) rfl sc_lots_of.nd (pi_list (pv 1)) (blkOk_by (own := [("lot", 3)]) (N := ["offers", "found", "index", "lot"]) (sc := d_lots_of.scope) (by decide +kernel))
          (fun _ _ _ _ _ => pg_name (i := 3) sc_lots_of.nd rfl (.inl rfl)) (fun _ _ _ _ _ => pts_nil) (fun _ _ _ _ _ => pe_tup (p_star K (pv 3) (pa_cons (pv 2) pa_nil)))) pa_nil))))))
      (pss_one (ps_ret (pe_sortLots (T := T) (c := c) (P := Pt) hr TB hcode hm hu (by rfl) G.sorted G.len rfl (fun _ _ _ _ _ => rfl) rfl (by decide +kernel) rfl rfl (by decide +kernel) rfl rfl rfl (pv 1)))))), ?_⟩
    refine ⟨Nat.zero_le _, fun e0 ne0 => ⟨by show 1 ≤ sizeLine; decide, fun f0 nf0 => ?_⟩⟩
    have s1 := same_new (o := HO.tup []) ne0
    have s2 := same_new (o := HO.lst [.ref e0]) nf0
    refine ⟨_, rfl, oa, rfl, ⟨_, Same.tup (same_trans s1 s2) hoa⟩, for_it (walk_tupD (K := K) (a := oa) (L := l) (g := fun n => .int (n : Nat))) (fun i σ H' => ∃ (fa : Addr) (v2 v3 : Option V), Same H H' ∧ Dp K H' (.ref fa) (lotsD (subs (l.take i))) ∧ σ = [some (.ref oa), some (.ref fa), v2, v3])
      ⟨f0, none, none, same_trans s1 s2, ?_, rfl⟩ (fun i σ H' _ ⟨_, _, _, e, _⟩ => Same.dp e h1) ?_ ?_⟩
    · exact .lst (.inl (.inl upd_same)) (.cons (lot_dp (l := []) (.inl (.inl (s2 _ _ upd_same)))) .nil)
    · rintro i x σ H1 H2 hi ⟨fa, v2, v3, e1, d1, rfl⟩ ⟨rfl, y⟩
      have hz : l[i]? = some l[i] := List.getElem?_eq_getElem hi
      obtain rfl := dp_int (y _ hz)
      obtain ⟨fa', vs1, ef, hfa, dfa⟩ := dp_lst d1
      cases ef
      have hfl : (subs (l.take i)).length ≤ 16 := by
        rw [subs_len]
        exact Nat.le_trans (Nat.pow_le_pow_right (by decide) (by rw [List.length_take]; omega : (l.take i).length ≤ 4)) (by decide)
      refine ⟨_, rfl, fa, vs1, rfl, .inr hfa, ?_⟩
      refine ⟨_, rfl, fa, rfl, ⟨_, hfa⟩, fun D nD => lc_data (K := K) (L := subs (l.take i)) (f := fun lot => lotD (lot ++ [l[i]])) (sel := fun _ => true) (walk_lstD (K := K) (a := fa) (L := subs (l.take i)) (g := lotD)) nD (fun _ => flt_lot _) (by omega) (fun H' e => Same.dp e d1) ?_ ?_⟩
      · rintro j lot x H3 H4 Nx hj e ⟨rfl, y3⟩ hyes hno
        obtain ⟨la, rfl, hla⟩ := dp_lot (y3 lot hj)
        have hl6 : lot.length ≤ 4 := by
          have := subs_el lot (List.mem_of_getElem? hj)
          rw [List.length_take] at this
          omega
        refine ⟨rfl, _, rfl, la, _, rfl, .inl hla, _, rfl, by rw [List.length_append, List.length_map]; show lot.length + 1 ≤ _; omega, fun p np => hyes rfl _ _ (same_new np) ?_⟩
        refine lot_dp (.inl (.inl ?_))
        rw [upd_same, List.map_append]
        rfl
      · intro H3 ys e hD dall
        have elen := dpAll_len dall
        have elen1 := dpAll_len dfa
        rw [List.length_map] at elen1
        have e2 : ((subs (l.take i)).filter fun _ => true).map (fun lot => lotD (lot ++ [l[i]])) = ((subs (l.take i)).map (· ++ [l[i]])).map lotD := by
          rw [List.filter_eq_self.mpr fun _ _ => rfl, List.map_map]
          rfl
        rw [e2] at dall elen
        rw [List.length_map, List.length_map] at elen
        refine ⟨D, ys, rfl, .inr (.inl (.inl hD)), ?_, fun p np => ?_⟩
        · rw [List.append_nil, List.length_append]
          omega
        · refine ⟨p, _, _, same_trans e1 (same_trans e (same_new np)), .lst (.inl (.inl upd_same)) ?_, rfl⟩
          rw [List.append_nil, subs_take hz, List.map_append]
          exact Same.dpAll (same_new np) (dpAll_app (Same.dpAll e dfa) dall)
    · rintro σ H1 ⟨fa, v2, v3, e1, d1, rfl⟩
      rw [List.take_length] at d1
      have hT1 : LamX.Tabs T H1 := hT.ext e1
      refine ⟨_, rfl, subs l, d1, ?_, hT1, fun H2 p e2 hT2 ⟨vs2, hp, dp⟩ => q H2 p (fun b o z n => e2 b o (e1 b o z) n) hT2 (.lst (.inl (.inl hp)) dp)⟩
      rw [subs_len]
      exact Nat.le_trans (Nat.pow_le_pow_right (by decide) hl : 2 ^ l.length ≤ 2 ^ 4) (by decide)
end
end TE

set_option Elab.async false
set_option linter.all false
set_option maxRecDepth 100000
set_option maxHeartbeats 4000000
/-! The defs: sparing, three: what spare gives. -/
namespace TE
open PySem PySem.Spec PyProof.Rows L2 TM
/-! ### hashes of lots -/
theorem hashes_ints (w : World) : ∀ l : List Nat, NestedKey.hashes w (nks (l.map fun n => PyData.int (n : Nat))) = l.map fun n => hashInt (n : Nat)
  | [] => by simp [nks, NestedKey.hashes]
  | a :: l => by
    rw [List.map_cons, nks, NestedKey.hashes, hashes_ints w l, nk, NestedKey.hash, List.map_cons]
def lotHash (l : List Nat) : Int := reduceHash (Builtin.Tuple.tupleHashOf (l.map fun n => hashInt (n : Nat)))
theorem hash_lot (w : World) (l : List Nat) : (nk (lotD l)).hash w = lotHash l := by
  show NestedKey.hash w (.tup (nks (l.map fun n => PyData.int (n : Nat)))) = _
  rw [NestedKey.hash, hashes_ints]
  rfl
theorem lots6 : ((subs [0, 1, 2, 3, 4, 5]).map lotHash).Nodup := by decide +kernel
theorem nodup_inj {α β : Type} {f : α → β} : ∀ {l : List α}, (l.map f).Nodup → ∀ {x y : α}, x ∈ l → y ∈ l → f x = f y → x = y
  | a :: l, h, x, y, hx, hy, e => by
    have h1 := List.nodup_cons.mp h
    rcases List.mem_cons.mp hx with z | z
    · rcases List.mem_cons.mp hy with z2 | z2
      · rw [z, z2]
      · exact absurd (List.mem_map.mpr ⟨y, z2, by rw [← e, z]⟩) h1.1
    · rcases List.mem_cons.mp hy with z2 | z2
      · exact absurd (List.mem_map.mpr ⟨x, z, by rw [e, z2]⟩) h1.1
      · exact nodup_inj h1.2 z z2 e
theorem mem_subs_range : ∀ (n : Nat) (l : List Nat), Asc l → (∀ i ∈ l, i < n) → l ∈ subs (List.range n)
  | 0, [], _, _ => List.mem_cons_self
  | 0, a :: l, _, h => absurd (h a List.mem_cons_self) (Nat.not_lt_zero _)
  | n + 1, l, ha, h => by
    rw [List.range_succ]
    show l ∈ subsTo _ _
    rw [subsTo_snoc]
    by_cases hn : n ∈ l
    · refine List.mem_append_right _ ?_
      obtain ⟨l1, l2, rfl⟩ := List.append_of_mem hn
      have hp := List.pairwise_append.mp ha
      have h2 : l2 = [] := by
        cases l2 with
        | nil => rfl
        | cons b l2 =>
          have q1 := (List.pairwise_cons.mp hp.2.1).1 b List.mem_cons_self
          have q2 := h b (List.mem_append_right _ (List.mem_cons_of_mem _ List.mem_cons_self))
          omega
      subst h2
      exact List.mem_map.mpr ⟨l1, mem_subs_range n l1 hp.1 (fun i hi => hp.2.2 i hi n List.mem_cons_self), rfl⟩
    · refine List.mem_append_left _ (mem_subs_range n l ha fun i hi => ?_)
      have := h i hi
      have : i ≠ n := fun e => hn (by rw [← e]; exact hi)
      omega
theorem hash_inj {a b : List Nat} (ha : Asc a) (hb : Asc b) (la : ∀ i ∈ a, i < 6) (lb : ∀ i ∈ b, i < 6) (h : lotHash a = lotHash b) : a = b :=
  nodup_inj lots6 (show a ∈ subs (List.range 6) from mem_subs_range 6 a ha la) (show b ∈ subs (List.range 6) from mem_subs_range 6 b hb lb) h
/-! ### the mathematics of spare -/
abbrev everyL (l : List Nat) : List (List Nat) := sortLots (subs l)
noncomputable def goodL (wy : List Cv) (k : Kd) (l : List Nat) : List (List Nat) := (everyL l).filter fun lot => alikeB wy (leftOf wy lot) k
noncomputable def someL (wy : List Cv) (k : Kd) (l : List Nat) : List (List Nat) := greatest (goodL wy k l)
noncomputable def restL (wy : List Cv) (k : Kd) (l : List Nat) : List (List Nat) := outside (everyL l) (someL wy k l)
section
variable {wy : List Cv} {k : Kd} {l : List Nat}
theorem every_sub (ok : OffOk wy l) : SubsOk (everyL l) wy.length := by
  have h := subs_ok ok.lot.asc ok.lot.lt
  have p := sortLots_perm (subs l)
  exact ⟨p.nodup_iff.mpr h.nd, fun x hx => h.asc x (p.mem_iff.mp hx), fun x hx => h.lt x (p.mem_iff.mp hx)⟩
theorem every_lot (ok : OffOk wy l) {lot : List Nat} (h : lot ∈ everyL l) : LotOk wy lot := ⟨(every_sub ok).asc lot h, (every_sub ok).lt lot h, ok.lot.wl⟩
theorem every_len (ok : OffOk wy l) : (everyL l).length ≤ 16 := by
  rw [(sortLots_perm (subs l)).length_eq, subs_len]
  exact Nat.le_trans (Nat.pow_le_pow_right (by decide) ok.few : 2 ^ l.length ≤ 2 ^ 4) (by decide)
theorem good_mem {lot : List Nat} : lot ∈ goodL wy k l ↔ lot ∈ everyL l ∧ alikeB wy (leftOf wy lot) k = true := List.mem_filter
theorem some_good {lot : List Nat} (h : lot ∈ someL wy k l) : lot ∈ goodL wy k l := (List.mem_filter.mp h).1
theorem some_every {lot : List Nat} (h : lot ∈ someL wy k l) : lot ∈ everyL l := (good_mem.mp (some_good h)).1
theorem some_nd (ok : OffOk wy l) : (someL wy k l).Nodup := ((every_sub ok).nd.sublist List.filter_sublist).sublist List.filter_sublist
theorem rest_nd (ok : OffOk wy l) : (restL wy k l).Nodup := (every_sub ok).nd.sublist List.filter_sublist
theorem rest_every {lot : List Nat} (h : lot ∈ restL wy k l) : lot ∈ everyL l := (List.mem_filter.mp h).1
theorem rest_not (ok : OffOk wy l) {lot : List Nat} (h : lot ∈ restL wy k l) : alikeB wy (leftOf wy lot) k = false := by
  have h2 := outside_not (every := everyL l) (good := goodL wy k l) (fun x hx => (every_sub ok).asc x hx) (fun x hx => (good_mem.mp hx).1) 6 (fun x hx => (every_lot ok hx).len) h
  cases e : alikeB wy (leftOf wy lot) k with
  | false => rfl
  | true => exact absurd (good_mem.mpr ⟨h2.1, e⟩) h2.2
theorem some_len (ok : OffOk wy l) : (someL wy k l).length ≤ 16 := Nat.le_trans (List.length_filter_le _ _) (Nat.le_trans (List.length_filter_le _ _) (every_len ok))
theorem rest_len (ok : OffOk wy l) : (restL wy k l).length ≤ 16 := Nat.le_trans (List.length_filter_le _ _) (every_len ok)
/-- no great one lies within another -/
theorem some_anti {one lot : List Nat} (h1 : one ∈ someL wy k l) (h2 : lot ∈ someL wy k l) : (!decide (one = lot) && within one lot) = false := by
  have h3 := (List.mem_filter.mp h1).2
  cases e : (!decide (one = lot) && within one lot) with
  | false => rfl
  | true =>
    have : ((goodL wy k l).any fun x => !decide (one = x) && within one x) = true := List.any_eq_true.mpr ⟨lot, some_good h2, e⟩
    have h4 : (!((goodL wy k l).any fun x => !decide (one = x) && within one x)) = true := h3
    rw [this] at h4
    cases h4
theorem hash_nd {ls : List (List Nat)} (nd : ls.Nodup) (h : ∀ x ∈ ls, Asc x ∧ ∀ i ∈ x, i < 6) : (ls.map lotHash).Nodup :=
  nodup_map _ _ nd fun x hx y hy e => hash_inj (h x hx).1 (h y hy).1 (h x hx).2 (h y hy).2 e
end
/-! ### neither a list nor a tuple stands there -/
def NotSq : Option HO → Prop
  | some (.tup _) => False
  | some (.lst _) => False
  | some (.frz _ (.tup _)) => False
  | some (.frz _ (.lst _)) => False
  | _ => True
section
variable {K : PySem.W.Frag} {w : World} {H H' : Hp} {a b d : Addr} {o : HO} {xs : List V}
theorem sqT_upd (n : NotSq (H a)) (h : SqT K H b xs) : SqT K (upd H a o) b xs := by
  rcases h with (h | ⟨o', h⟩) | h
  · refine .inl (.inl ?_)
    rw [upd_ne (fun e => by rw [← e, h] at n; exact n)]
    exact h
  · refine .inl (.inr ⟨o', ?_⟩)
    rw [upd_ne (fun e => by rw [← e, h] at n; exact n)]
    exact h
  · exact .inr h
theorem sqL_upd (n : NotSq (H a)) (h : SqL K H b xs) : SqL K (upd H a o) b xs := by
  rcases h with (h | ⟨o', h⟩) | h
  · refine .inl (.inl ?_)
    rw [upd_ne (fun e => by rw [← e, h] at n; exact n)]
    exact h
  · refine .inl (.inr ⟨o', ?_⟩)
    rw [upd_ne (fun e => by rw [← e, h] at n; exact n)]
    exact h
  · exact .inr h
theorem dp_updA {v : V} {dd : PyData} (n : NotSq (H a)) (h : Dp K H v dd) : Dp K (upd H a o) v dd := dp_at (fun _ _ q => sqT_upd n q) (fun _ _ q => sqL_upd n q) dd v h
theorem DcAt.otherA {kvs : List (PyData × V)} (hb : d ≠ a) (n : NotSq (H a)) (h : DcAt K w H d kvs) : DcAt K w (upd H a o) d kvs :=
  let ⟨xs, h1, h2⟩ := h
  ⟨xs, (upd_ne hb).trans h1, h2.keep fun _ _ q => sqT_upd n q⟩
theorem notSq_dc {x : List Ent} (h : H a = some (DcO w d x)) : NotSq (H a) := by
  rw [h]
  exact True.intro
theorem notSq_frz {x : List Ent} {od : Obj} (h : H a = some (.frz od (DcO w d x))) : NotSq (H a) := by
  rw [h]
  exact True.intro
theorem notSq_ins {C dx : Addr} {fs : List (Str × V)} (h : H a = some (.ins C dx fs)) : NotSq (H a) := by
  rw [h]
  exact True.intro
theorem dcO_ne {x : List Ent} (ps : Array Value) : DcO w d x ≠ .tbl ps := fun z => by
  unfold DcO at z
  cases z
theorem DcAt.extN {kvs : List (PyData × V)} (e : LamX.ExtN H H') (h : DcAt K w H d kvs) : DcAt K w H' d kvs :=
  let ⟨xs, h1, h2⟩ := h
  ⟨xs, e _ _ h1 dcO_ne, h2.keep fun _ _ q => ExtN.tup e q⟩
theorem AlikeAt.extN {C x : Addr} {w1 w2 : List Cv} {k : Kd} (e : LamX.ExtN H H') (h : AlikeAt K C H x w1 w2 k) : AlikeAt K C H' x w1 w2 k :=
  let ⟨dx, l, rs, h1, h2, h3⟩ := h
  ⟨dx, l, rs, e _ _ h1 (fun _ z => nomatch z), ExtN.dp e h2, h3⟩
theorem PartedAt.extN {C x : Addr} {w1 w2 : List Cv} {k : Kd} (e : LamX.ExtN H H') (h : PartedAt C H x w1 w2 k) : PartedAt C H' x w1 w2 k :=
  let ⟨dx, t, h1, h2, h3⟩ := h
  ⟨dx, t, e _ _ h1 (fun _ z => nomatch z), h2, h3⟩
/-- a dict of rows, a dict of texts -/
def GoodE (K : PySem.W.Frag) (H : Hp) (wy : List Cv) (k : Kd) (lot : List Nat) (q : PyData × V) : Prop := q.1 = lotD lot ∧ ∃ a rs, q.2 = .ref a ∧ Dp K H (.ref a) (rowsD rs) ∧ RowsOk wy (leftOf wy lot) k rs
def GoodAt (K : PySem.W.Frag) (H : Hp) (wy : List Cv) (k : Kd) (some : List (List Nat)) (kvs : List (PyData × V)) : Prop := Paired (GoodE K H wy k) some kvs
def FailE (wy : List Cv) (k : Kd) (lot : List Nat) (q : PyData × V) : Prop := q.1 = lotD lot ∧ ∃ t, q.2 = .str (txS t) ∧ Parts wy (leftOf wy lot) k t ∧ t.length ≤ 8192
def FailAt (wy : List Cv) (k : Kd) (rest : List (List Nat)) (kvs : List (PyData × V)) : Prop := Paired (FailE wy k) rest kvs
theorem GoodAt.map {wy : List Cv} {k : Kd} {ls : List (List Nat)} {kvs : List (PyData × V)} (h : GoodAt K H wy k ls kvs) (hh : ∀ a rs, Dp K H (.ref a) (rowsD rs) → Dp K H' (.ref a) (rowsD rs)) : GoodAt K H' wy k ls kvs :=
  Paired.mapP h fun _ _ ⟨h1, a, rs, h2, h3, h4⟩ => ⟨h1, a, rs, h2, hh a rs h3, h4⟩
theorem GoodAt.ext {wy : List Cv} {k : Kd} {ls : List (List Nat)} {kvs : List (PyData × V)} (h : GoodAt K H wy k ls kvs) (e : Same H H') : GoodAt K H' wy k ls kvs := h.map fun _ _ q => Same.dp e q
theorem GoodAt.extN {wy : List Cv} {k : Kd} {ls : List (List Nat)} {kvs : List (PyData × V)} (h : GoodAt K H wy k ls kvs) (e : LamX.ExtN H H') : GoodAt K H' wy k ls kvs := h.map fun _ _ q => ExtN.dp e q
theorem paired_keys {α : Type} {G : α → PyData × V → Prop} {f : α → PyData} (hG : ∀ a q, G a q → q.1 = f a) : ∀ {ls : List α} {kvs : List (PyData × V)}, Paired G ls kvs → kvs.map (·.1) = ls.map f
  | _, _, .nil => rfl
  | _, _, .cons h t => by rw [List.map_cons, List.map_cons, hG _ _ h, paired_keys hG t]
def SparedAt (K : PySem.W.Frag) (w : World) (C : Addr) (H : Hp) (x : Addr) (wy : List Cv) (k : Kd) (some rest : List (List Nat)) : Prop := ∃ dx d1 d2 gk fk, H x = Option.some (.ins C dx [("good", .ref d1), ("fails", .ref d2)]) ∧ DcAt K w H d1 gk ∧ GoodAt K H wy k some gk ∧ DcAt K w H d2 fk ∧ FailAt wy k rest fk
theorem SparedAt.extN {C x : Addr} {wy : List Cv} {k : Kd} {some rest : List (List Nat)} (h : SparedAt K w C H x wy k some rest) (e : LamX.ExtN H H') : SparedAt K w C H' x wy k some rest :=
  let ⟨dx, d1, d2, gk, fk, h1, h2, h3, h4, h5⟩ := h
  ⟨dx, d1, d2, gk, fk, e _ _ h1 (fun _ z => nomatch z), h2.extN e, h3.extN e, h4.extN e, h5⟩
theorem SparedAt.ext {C x : Addr} {wy : List Cv} {k : Kd} {some rest : List (List Nat)} (h : SparedAt K w C H x wy k some rest) (e : Same H H') : SparedAt K w C H' x wy k some rest := h.extN (LamX.ExtN.of e)
/-- the value of a lot -/
theorem lot_lk {G : List Nat → PyData × V → Prop} (hG : ∀ a q, G a q → q.1 = lotD a) {ls : List (List Nat)} {kvs : List (PyData × V)} (h : Paired G ls kvs) (nd : ls.Nodup) {lot : List Nat} (hl : lot ∈ ls) : ∃ v, lk kvs (lotD lot) = some v ∧ G lot (lotD lot, v) := by
  obtain ⟨i, hi, e⟩ := List.mem_iff_getElem.mp hl
  obtain ⟨q, hq, g⟩ := paired_at h (i := i) (a := lot) (by rw [List.getElem?_eq_getElem hi, e])
  have hn : (kvs.map fun q => nk q.1).Nodup := by
    have e1 : (kvs.map fun q => nk q.1) = (ls.map lotD).map nk := by rw [← paired_keys hG h, List.map_map]; rfl
    rw [e1, List.map_map]
    exact nodup_map _ _ nd fun x _ y _ z => nk_lot z
  refine ⟨q.2, lk_at hn (List.mem_of_getElem? hq) (by rw [hG _ _ g]), ?_⟩
  have e2 := hG _ _ g
  rw [← e2]
  exact g
theorem lot_lk_in {G : List Nat → PyData × V → Prop} (hG : ∀ a q, G a q → q.1 = lotD a) {ls : List (List Nat)} {kvs : List (PyData × V)} (h : Paired G ls kvs) {lot : List Nat} (hl : lot ∉ ls) : lk kvs (lotD lot) = none := by
  refine lk_none fun q hq e => hl ?_
  have : q.1 ∈ ls.map lotD := by
    rw [← paired_keys hG h]
    exact List.mem_map.mpr ⟨q, hq, rfl⟩
  obtain ⟨x, hx, ex⟩ := List.mem_map.mp this
  rw [← ex] at e
  rw [← nk_lot e]
  exact hx
end
end TE

set_option Elab.async false
set_option linter.all false
set_option maxRecDepth 100000
set_option maxHeartbeats 4000000
/-! The defs: sparing, four: Spared. -/
namespace TE
open PySem PySem.Spec PyProof.Rows L2 TM
section
variable {X : Cx} (K : PySem.W.Frag) {w : World}
theorem p_dcc {kx vx tg iter : Expr} {ifs : List Expr} {scope : Scope} {own : List (Str × Nat)} {pos : Pos} {wi : TI} {g : TG} {tt : TT} {tk tv : L2.TE} (hu : X.A.units + 64 < cLine) (hc : X.calm = true) (hN : X.N.Nodup) (hi : PI X tg iter wi) (ok : BlkOk X.N X.env.scope scope own)
    (hg : ∀ (s : Shared) (H : Hp) (C : Addr) (cl : List (Str × Addr)) (fp : List Addr), PG (X.blk s H scope (compEnvC scope cl C X.env) fp) tg g) (ht : ∀ (s : Shared) (H : Hp) (C : Addr) (cl : List (Str × Addr)) (fp : List Addr), PTs (X.blk s H scope (compEnvC scope cl C X.env) fp) ifs tt)
    (hk : ∀ (s : Shared) (H : Hp) (C : Addr) (cl : List (Str × Addr)) (fp : List Addr), PE (X.blk s H scope (compEnvC scope cl C X.env) fp) kx tk)
    (he : ∀ (s : Shared) (H : Hp) (C : Addr) (cl : List (Str × Addr)) (fp : List Addr), PE (X.blk s H scope (compEnvC scope cl C X.env) fp) vx tv) (h : X.K = K := by rfl) (hw : X.w = w := by rfl) (hs : ∀ x, foldedSetIterable iter X.env x = pure x := by intro _; rfl) :
    PE X (.DictComp kx vx [⟨tg, iter, ifs, 0⟩] scope pos) (tDcc K w wi g tt tk tv (own.map (·.2))) := by subst h hw; exact pe_dcc hu hc hN hi ok hg ht hk he hs
theorem c_dcDict (hu : X.A.units + 64 < cLine) (h : X.K = K := by rfl) (hw : X.w = w := by rfl) : CallR X (.type "dict") (fun vs H Q => ∃ d kvs, vs = [.ref d] ∧ DcAt K w H d kvs ∧ (∀ q ∈ kvs, ∃ ds, q.1 = .tuple ds) ∧ (kvs.map fun q => (nk q.1).hash w).Nodup ∧
    ∀ p xs, H p = none → DcAt K w (upd H p (DcO w p xs)) p kvs → Q (.ref p) (upd H p (DcO w p xs))) := by subst h hw; exact call_dcDict hu
theorem c_dcList (hc : X.calm = true) (h : X.K = K := by rfl) (hw : X.w = w := by rfl) : CallR X (.type "list") (fun vs H Q => ∃ d kvs, vs = [.ref d] ∧ DcAt K w H d kvs ∧ ∀ l xs, H l = none → DpAll K (upd H l (.lst xs)) xs (kvs.map (·.1)) → Q (.ref l) (upd H l (.lst xs))) := by subst h hw; exact call_dcList hc
theorem c_dcLen (h : X.K = K := by rfl) (hw : X.w = w := by rfl) : CallR X (.builtin "len") (fun vs H Q => ∃ d kvs, vs = [.ref d] ∧ DcAt K w H d kvs ∧ Q (.int kvs.length) H) := by subst h hw; exact call_dcLen
theorem c_listof (h : X.K = K := by rfl) : CallR X (.type "list") (fun xs H Q => ∃ p ys, xs = [.ref p] ∧ (SqL K H p ys ∨ SqT K H p ys) ∧ ∀ l, H l = none → Q (.ref l) (upd H l (.lst ys))) := by subst h; exact call_list_of
theorem p_fld {e : Expr} {f : Str} {pos : Pos} {ta : L2.TE} (he : PE X e ta) (h : X.K = K := by rfl) (hb : attributeBase e f X.env (eval e X.env) = eval e X.env := by rfl) : PE X (.Attribute e f pos) (tFld K ta f) := by subst h; exact pe_fld he hb
end
theorem paired_take {α β : Type} {G : α → β → Prop} : ∀ {l : List α} {m : List β} (i : Nat), Paired G l m → Paired G (l.take i) (m.take i)
  | _, _, 0, _ => by rw [List.take_zero, List.take_zero]; exact .nil
  | _, _, _ + 1, .nil => .nil
  | _, _, i + 1, .cons h t => .cons h (paired_take i t)
section
variable {P : Program} {w : World} {K : PySem.W.Frag} {mg : Str → Option Value} {base : Heap} {f : Addr} {fd : FuncData}
theorem sc_Spared_init : FnScope ["self", "good", "fails", "lot", "rows"] ["self", "good", "fails"] d_Spared_init.scope := ⟨rfl, rfl, rfl, by decide +kernel, rfl, by decide +kernel, by decide +kernel⟩
def sp_Spared_init (K : PySem.W.Frag) (w : World) (C : Addr) : Sp := fun vs H Q _ => ∃ (p dx a b : Addr) (gk fk : List (PyData × V)) (wy : List Cv) (k : Kd) (some rest : List (List Nat)), vs = [.ref p, .ref a, .ref b] ∧ H p = Option.some (.ins C dx []) ∧ DcAt K w H a gk ∧ GoodAt K H wy k some gk ∧ DcAt K w H b fk ∧ FailAt wy k rest fk ∧
  some.Nodup ∧ some.length ≤ 1000 ∧ (rest.map lotHash).Nodup ∧ ∀ H', (∀ c o, c ≠ p → H c = Option.some o → H' c = Option.some o) → SparedAt K w C H' p wy k some rest → Q .non H'
theorem ok_Spared_init {C : Addr} (G : Glb K w mg) (cl : Cls K C) (na : NoAttr K C "good") (na2 : NoAttr K C "fails") (F : FnP K d_Spared_init f fd) : FnOk P w K mg base CX0 1 f fd ["self", "good", "fails"] (sp_Spared_init K w C) := by
  refine F.ok sc_Spared_init (fun vs H Q E h => ?_) (fun cdv A outer s H vs Q E hr h => ?_)
  · obtain ⟨p, dx, a, b, gk, fk, wy, k, some, rest, rfl, _⟩ := h
    rfl
  · obtain ⟨p, dx, a, b, gk, fk, wy, k, some, rest, rfl, hp, da, ga, db, fb, nd, hlen, hnd, q⟩ := h
    have sl := sizeLine_eq
    have hu := hr.units
    refine ⟨_, PSs.nox (pss_cons (ps_fld (pv 0) (pe_lock (p_dcc K (w := w) (own := [("lot", 3), ("rows", 4)]) (g := gTup K 2 (gCons (gName 3) (gCons (gName 4) gNil))) (tt := tYes) hu rfl sc_Spared_init.nd (w_di K (w := w) (pv 1)) (blkOk_by (own := [("lot", 3), ("rows", 4)]) (N := ["self", "good", "fails", "lot", "rows"]) (sc := d_Spared_init.scope) (by decide +kernel))
        (fun _ _ _ _ _ => pg_tup rfl (pgs_cons (pg_name (i := 3) sc_Spared_init.nd rfl (.inl rfl)) (pgs_cons (pg_name (i := 4) sc_Spared_init.nd rfl (.inl rfl)) pgs_nil))) (fun _ _ _ _ _ => pts_nil) (fun _ _ _ _ _ => pv 3) (fun _ _ _ _ _ => pe_callTy (c_listof K) (by rfl) G.list b_list (pa_cons (pv 4) pa_nil)))) rfl)
      (pss_one (ps_fld (pv 0) (pe_callTy (c_dcDict K (w := w) hu) (by rfl) G.dict b_dict (pa_cons (pv 2) pa_nil)) rfl))), ?_⟩
    obtain ⟨xa, ha, ra⟩ := da
    have hap : a ≠ p := fun z => by
      rw [z, hp] at ha
      cases ha
    have hbp : b ≠ p := fun z => by
      obtain ⟨xb, hb, _⟩ := db
      rw [z, hp] at hb
      cases hb
    refine ⟨a, _, ha, True.intro, fun od => ?_⟩
    have lk1 : LkD K w (upd H a (.frz od (DcO w a xa))) a od gk := lkd_lock ha ra
    have ga1 : GoodAt K (upd H a (.frz od (DcO w a xa))) wy k some gk := ga.map fun _ _ z => dp_updA (notSq_dc ha) z
    have f1 : (upd H a (.frz od (DcO w a xa))) a = Option.some (.frz od (DcO w a xa)) := upd_same
    have keep1 : ∀ c o, c ≠ a → H c = Option.some o → (upd H a (.frz od (DcO w a xa))) c = Option.some o := fun c o n z => (upd_ne n).trans z
    have db1 : ∀ H2, Same (upd H a (.frz od (DcO w a xa))) H2 → DcAt K w (upd H2 a (DcO w a xa)) b fk := fun H2 e => by
      by_cases hab : b = a
      · subst hab
        obtain ⟨xb, hb, rb⟩ := db
        have : DcO w b xb = DcO w b xa := Option.some.inj (hb.symm.trans ha)
        refine ⟨xb, by rw [upd_same, this], rb.keep fun c zs z => ?_⟩
        exact sqT_upd (notSq_frz (e _ _ f1)) (Same.tup e (sqT_upd (notSq_dc ha) z))
      · exact (DcAt.same e (db.otherA hab (notSq_dc ha))).otherA hab (notSq_frz (e _ _ f1))
    generalize upd H a (.frz od (DcO w a xa)) = H1 at *
    have hlg := Paired.length ga1
    refine ⟨_, rfl, a, od, gk, rfl, lk1, fun D nD => ?_⟩
    have wk := walk_di (K := K) (w := w) (d := a) (o := od) (kvs := gk)
    rw [← hlg] at wk
    refine dcc_it wk (fun i H' => Same H1 H' ∧ ∃ kvs2, DcAt K w H' D kvs2 ∧ GoodAt K H' wy k (some.take i) kvs2) ⟨same_new nD, [], ⟨[], upd_same, .nil⟩, .nil⟩ (fun i H' _ p => lk1.same p.1) ?_ ?_
    · rintro i x H2 H3 hi ⟨e2, kvs2, dk2, gk2⟩ ⟨T, kk, vv, ak, hkv, rfl, nT, dk, rfl⟩
      have hi1 : some[i]? = Option.some some[i] := List.getElem?_eq_getElem hi
      obtain ⟨q1, hq1, eq1, ar, rs, eq2, dr, rok⟩ := paired_at ga1 hi1
      rw [hkv] at hq1
      obtain rfl := Option.some.inj hq1
      obtain rfl : kk = lotD some[i] := eq1
      obtain rfl : vv = .ref ar := eq2
      have e3 := same_new (o := HO.tup [.ref ak, .ref ar]) nT
      have e23 := same_trans e2 e3
      obtain ⟨ar', ys, ear, hsq, dys⟩ := dp_lst (Same.dp e23 dr)
      cases ear
      refine ⟨T, _, rfl, .inl (.inl upd_same), rfl, _, _, rfl, _, _, rfl, rfl, rfl, ?_⟩
      refine ⟨_, rfl, _, rfl, ar, ys, rfl, .inl hsq, fun la nla => ?_⟩
      have e4 := same_new (o := HO.lst ys) nla
      have e34 := same_trans e3 e4
      have dl : Dp K (upd (upd H2 T (.tup [.ref ak, .ref ar])) la (.lst ys)) (.ref la) (rowsD rs) := .lst (.inl (.inl upd_same)) (Same.dpAll e4 dys)
      have dk4 := dk2.same e34
      have gk4 := gk2.ext e34
      have dak := Same.dp e34 dk
      have e24 := same_trans e2 e34
      generalize upd (upd H2 T (.tup [.ref ak, .ref ar])) la (.lst ys) = H4 at *
      have hl2 := Paired.length gk4
      rw [List.length_take] at hl2
      obtain ⟨xs4, hd4, _⟩ := id dk4
      refine ⟨ak, kvs2, lotD some[i], rfl, dk4, dak, ok_lot _, lot_lk_in (fun _ _ z => z.1) gk4 ?_, by omega, fun xs dc => ⟨same_upd e24 nD, _, dc, ?_⟩⟩
      · intro hm
        obtain ⟨j, hj, ej⟩ := List.mem_iff_getElem.mp hm
        rw [List.length_take] at hj
        rw [List.getElem_take] at ej
        exact List.pairwise_iff_getElem.mp nd j i (by omega) hi (by omega) ej
      · rw [take_at hi1]
        exact paired_snoc ⟨rfl, la, rs, rfl, dp_updA (notSq_dc hd4) dl, rok⟩ (gk4.map fun _ _ z => dp_updA (notSq_dc hd4) z)
    · rintro H2 ⟨e2, gk2, dk2, ga2⟩
      rw [List.take_length] at ga2
      have fa := e2 _ _ f1
      have hDa : D ≠ a := fun z => by
        rw [z, f1] at nD
        cases nD
      have nDH : H D = none := by
        cases z : H D with
        | none => rfl
        | some o => rw [keep1 _ _ hDa z] at nD; cases nD
      have dk3 := dk2.otherA (o := DcO w a xa) hDa (notSq_frz fa)
      have ga3 := ga2.map (H' := upd H2 a (DcO w a xa)) fun _ _ z => dp_updA (notSq_frz fa) z
      have db3 := db1 H2 e2
      have kp3 : ∀ c o, H c = Option.some o → (upd H2 a (DcO w a xa)) c = Option.some o := fun c o z => by
        by_cases hc : c = a
        · rw [hc, upd_same, ← ha, ← hc]
          exact z
        · rw [upd_ne hc]
          exact e2 _ _ (keep1 c o hc z)
      generalize upd H2 a (DcO w a xa) = H3 at *
      refine ⟨fa, ?_⟩
      have hp3 := kp3 _ _ hp
      refine ⟨_, rfl, p, C, dx, [], rfl, hp3, cl, na, by decide, ?_⟩
      have ns : NotSq (H3 p) := notSq_ins hp3
      have hDp : D ≠ p := fun z => by
        rw [z, hp] at nDH
        cases nDH
      have dk4 := dk3.otherA (o := HO.ins C dx (putF "good" (.ref D) [])) hDp ns
      have ga4 := ga3.map (H' := upd H3 p (HO.ins C dx (putF "good" (.ref D) []))) fun _ _ z => dp_updA ns z
      have db4 := db3.otherA (o := HO.ins C dx (putF "good" (.ref D) [])) hbp ns
      have hp4 : (upd H3 p (HO.ins C dx (putF "good" (.ref D) []))) p = Option.some (HO.ins C dx (putF "good" (.ref D) [])) := upd_same
      have kp4 : ∀ c o, c ≠ p → H c = Option.some o → (upd H3 p (HO.ins C dx (putF "good" (.ref D) []))) c = Option.some o := fun c o n z => (upd_ne n).trans (kp3 c o z)
      generalize upd H3 p (HO.ins C dx (putF "good" (.ref D) [])) = H4 at *
      have hkeys : fk.map (·.1) = rest.map lotD := paired_keys (fun _ _ z => z.1) fb
      refine ⟨_, rfl, b, fk, rfl, db4, fun q hq => ?_, ?_, fun d2 xs2 nd2 dc2 => ?_⟩
      · have : q.1 ∈ rest.map lotD := by
          rw [← hkeys]
          exact List.mem_map.mpr ⟨q, hq, rfl⟩
        obtain ⟨x, _, e⟩ := List.mem_map.mp this
        exact ⟨_, e.symm⟩
      · have e1 : (fk.map fun q => (nk q.1).hash w) = rest.map lotHash := by
          have e2 : (fk.map fun q => (nk q.1).hash w) = (fk.map (·.1)).map fun d => (nk d).hash w := by rw [List.map_map]; rfl
          rw [e2, hkeys, List.map_map]
          exact List.map_congr_left fun x _ => hash_lot w x
        rw [e1]
        exact hnd
      · have e5 := same_new (o := DcO w d2 xs2) nd2
        have hp5 := e5 _ _ hp4
        have hd2p : d2 ≠ p := fun z => by
          rw [z, hp4] at nd2
          cases nd2
        have dk5 := dk4.same e5
        have ga5 := ga4.ext e5
        refine ⟨_, rfl, p, C, dx, _, rfl, hp5, cl, na2, by show 1 < 1000; decide, ?_⟩
        have ns5 : NotSq ((upd H4 d2 (DcO w d2 xs2)) p) := notSq_ins hp5
        refine q _ (fun c o n z => (upd_ne n).trans (e5 _ _ (kp4 c o n z))) ⟨dx, D, d2, gk2, fk, ?_, dk5.otherA hDp ns5, ga5.map fun _ _ z => dp_updA ns5 z, dc2.otherA hd2p ns5, fb⟩
        rw [upd_same]
        have e6 : ¬ (("good" : Str) = "fails") := by decide +kernel
        show Option.some (HO.ins C dx (if ("good" : Str) = "fails" then _ else (("good" : Str), V.ref D) :: putF "fails" (V.ref d2) [])) = _
        rw [if_neg e6]
        rfl
theorem sc_text_in : FnScope ["answer"] ["answer"] d_text_in.scope := ⟨rfl, rfl, rfl, by decide +kernel, rfl, by decide +kernel, by decide +kernel⟩
def sp_text_in (C : Addr) : Sp := fun vs H Q _ => ∃ (x dx : Addr) (v : V), vs = [.ref x] ∧ H x = some (.ins C dx [("text", v)]) ∧ Q v H
theorem ok_text_in {C : Addr} (cl : Cls K C) (na : NoAttr K C "text") (F : FnP K d_text_in f fd) : FnOk P w K mg base CX0 1 f fd ["answer"] (sp_text_in C) := by
  refine F.ok sc_text_in (fun vs H Q E h => ?_) (fun cdv A outer s H vs Q E hr h => ?_)
  · obtain ⟨x, dx, v, rfl, _⟩ := h
    rfl
  · obtain ⟨x, dx, v, rfl, hx, q⟩ := h
    refine ⟨_, PSs.nox (pss_one (ps_ret (pe_fld (pv 0) rfl))), ?_⟩
    exact ⟨_, rfl, x, C, dx, _, _, rfl, hx, cl, na, rfl, q⟩
theorem sc_lots : FnScope ["way", "offers"] ["way", "offers"] d_lots.scope := ⟨rfl, rfl, rfl, by decide +kernel, rfl, by decide +kernel, by decide +kernel⟩
def sp_lots (K : PySem.W.Frag) (T : List (Addr × Str)) : Sp := fun vs H Q _ => ∃ (v1 v2 : V) (wy : List Cv) (l : List Nat), vs = [v1, v2] ∧ Dp K H v1 (wayD wy) ∧ Dp K H v2 (lotD l) ∧ OffOk wy l ∧ LamX.Tabs T H ∧ ∀ H' p, LamX.ExtN H H' → LamX.Tabs T H' → Dp K H' (.ref p) (lotsD (everyL l)) → Q (.ref p) H'
theorem ok_lots {T : List (Addr × Str)} (c1 : Cal P w K mg base 3 "check_offers" ["way", "offers"] (sp_check_offers K)) (c2 : Cal P w K mg base 4 "lots_of" ["offers"] (sp_lots_of K T)) (F : FnP K d_lots f fd) : FnOk P w K mg base CX0 5 f fd ["way", "offers"] (sp_lots K T) := by
  refine F.ok sc_lots (fun vs H Q E h => ?_) (fun cdv A outer s H vs Q E hr h => ?_)
  · obtain ⟨v1, v2, wy, l, rfl, _⟩ := h
    rfl
  · obtain ⟨v1, v2, wy, l, rfl, h1, h2, ok, hT, q⟩ := h
    refine ⟨_, PSs.nox (pss_cons (ps_expr (pe_cal c1 hr (by decide) rfl (pa_cons (pv 0) (pa_cons (pv 1) pa_nil)))) (pss_one (ps_ret (pe_cal c2 hr (by decide) rfl (pa_cons (pv 1) pa_nil))))), ?_⟩
    exact ⟨_, rfl, _, rfl, v1, v2, wy, l, rfl, h1, h2, ok, fun H1 e1 => ⟨_, rfl, v2, l, rfl, Same.dp e1 h2, ok.few, hT.ext e1, fun H2 p e2 t2 d => q H2 p (fun b o z n => e2 b o (e1 b o z) n) t2 d⟩⟩
end
end TE

set_option Elab.async false
set_option linter.all false
set_option maxRecDepth 100000
set_option maxHeartbeats 4000000
/-! The defs: sparing, five: spare. -/
namespace TE
open PySem PySem.Spec PyProof.Rows L2 TM
section
variable {X : Cx} (K : PySem.W.Frag) {w : World}
theorem w_list {tg e : Expr} {te : L2.TE} (he : PE X e te) (h : X.K = K := by rfl) : PI X tg e (iList K te) := by subst h; exact pi_list he
theorem w_tup {tg e : Expr} {te : L2.TE} (he : PE X e te) (h : X.K = K := by rfl) : PI X tg e (iTup K te) := by subst h; exact pi_tup he
end
structure NotObj (H : Hp) (a : Addr) : Prop where
  sq : NotSq (H a)
  ins : ∀ C dx fs, H a ≠ some (.ins C dx fs)
section
variable {K : PySem.W.Frag} {w : World} {H H' B : Hp} {a d D : Addr} {o : HO} {xs : List Ent} {od : Obj} {CA CP : Addr} {wy : List Cv} {k : Kd} {ls : List (List Nat)}
theorem notObj_dc (h : H a = some (DcO w d xs)) : NotObj H a := ⟨notSq_dc h, fun C dx fs z => by
  rw [h] at z
  have := Option.some.inj z
  unfold DcO at this
  cases this⟩
theorem notObj_frz (h : H a = some (.frz od (DcO w d xs))) : NotObj H a := ⟨notSq_frz h, fun C dx fs z => by
  rw [h] at z
  have := Option.some.inj z
  cases this⟩
theorem AlikeAt.upd {C x : Addr} {w1 w2 : List Cv} (n : NotObj H a) (h : AlikeAt K C H x w1 w2 k) : AlikeAt K C (L2.upd H a o) x w1 w2 k :=
  let ⟨dx, l, rs, h1, h2, h3⟩ := h
  ⟨dx, l, rs, (upd_ne (fun z => n.ins _ _ _ (by rw [← z]; exact h1))).trans h1, dp_updA n.sq h2, h3⟩
theorem PartedAt.upd {C x : Addr} {w1 w2 : List Cv} (n : NotObj H a) (h : PartedAt C H x w1 w2 k) : PartedAt C (L2.upd H a o) x w1 w2 k :=
  let ⟨dx, t, h1, h2, h3⟩ := h
  ⟨dx, t, (upd_ne (fun z => n.ins _ _ _ (by rw [← z]; exact h1))).trans h1, h2, h3⟩
/-- a lot's answer -/
def AnsE (K : PySem.W.Frag) (CA CP : Addr) (H : Hp) (wy : List Cv) (k : Kd) (lot : List Nat) (q : PyData × V) : Prop := q.1 = lotD lot ∧ ∃ x, q.2 = .ref x ∧ (AlikeAt K CA H x wy (leftOf wy lot) k ∨ PartedAt CP H x wy (leftOf wy lot) k)
def AnsAt (K : PySem.W.Frag) (CA CP : Addr) (H : Hp) (wy : List Cv) (k : Kd) (ls : List (List Nat)) (kvs : List (PyData × V)) : Prop := Paired (AnsE K CA CP H wy k) ls kvs
theorem AnsE.ext {lot : List Nat} {q : PyData × V} (e : Same H H') (h : AnsE K CA CP H wy k lot q) : AnsE K CA CP H' wy k lot q :=
  let ⟨h1, x, h2, h3⟩ := h
  ⟨h1, x, h2, h3.imp (fun z => z.ext e) fun z => z.ext e⟩
theorem AnsE.upd {lot : List Nat} {q : PyData × V} (n : NotObj H a) (h : AnsE K CA CP H wy k lot q) : AnsE K CA CP (L2.upd H a o) wy k lot q :=
  let ⟨h1, x, h2, h3⟩ := h
  ⟨h1, x, h2, h3.imp (fun z => z.upd n) fun z => z.upd n⟩
theorem AnsAt.ext {kvs : List (PyData × V)} (e : Same H H') (h : AnsAt K CA CP H wy k ls kvs) : AnsAt K CA CP H' wy k ls kvs := Paired.mapP h fun _ _ z => z.ext e
theorem AnsAt.upd {kvs : List (PyData × V)} (n : NotObj H a) (h : AnsAt K CA CP H wy k ls kvs) : AnsAt K CA CP (L2.upd H a o) wy k ls kvs := Paired.mapP h fun _ _ z => z.upd n
/-- the answers stand at D -/
structure AnsH (K : PySem.W.Frag) (w : World) (CA CP D : Addr) (wy : List Cv) (k : Kd) (ls : List (List Nat)) (H : Hp) : Prop where
  ex : ∃ kvs, DcAt K w H D kvs ∧ AnsAt K CA CP H wy k ls kvs
theorem AnsH.ext (e : Same H H') (h : AnsH K w CA CP D wy k ls H) : AnsH K w CA CP D wy k ls H' :=
  let ⟨kvs, h1, h2⟩ := h.ex
  ⟨kvs, h1.same e, h2.ext e⟩
/-- .. while they are walked -/
structure AnsK (K : PySem.W.Frag) (w : World) (CA CP D : Addr) (od : Obj) (xs : List Ent) (wy : List Cv) (k : Kd) (ls : List (List Nat)) (kvs : List (PyData × V)) (H : Hp) : Prop where
  at_ : H D = some (.frz od (DcO w D xs))
  r : DcR K H kvs xs
  a : AnsAt K CA CP H wy k ls kvs
theorem AnsK.lk {kvs : List (PyData × V)} (h : AnsK K w CA CP D od xs wy k ls kvs H) : LkD K w H D od kvs := ⟨xs, h.at_, h.r⟩
theorem AnsK.ext {kvs : List (PyData × V)} (e : Same H H') (h : AnsK K w CA CP D od xs wy k ls kvs H) : AnsK K w CA CP D od xs wy k ls kvs H' := ⟨e _ _ h.at_, h.r.keep fun _ _ z => Same.tup e z, h.a.ext e⟩
theorem AnsH.lock (h : AnsH K w CA CP D wy k ls H) : ∃ xs kvs, H D = some (DcO w D xs) ∧ ∀ od, AnsK K w CA CP D od xs wy k ls kvs (L2.upd H D (.frz od (DcO w D xs))) := by
  obtain ⟨kvs, ⟨xs, h1, h2⟩, h3⟩ := h.ex
  exact ⟨xs, kvs, h1, fun od => ⟨upd_same, h2.keep fun _ _ z => sqT_upd (notSq_dc h1) z, h3.upd (notObj_dc h1)⟩⟩
theorem AnsK.unlock {kvs : List (PyData × V)} (h : AnsK K w CA CP D od xs wy k ls kvs H) : AnsH K w CA CP D wy k ls (L2.upd H D (DcO w D xs)) :=
  ⟨kvs, ⟨xs, upd_same, h.r.keep fun _ _ z => sqT_upd (notSq_frz h.at_) z⟩, h.a.upd (notObj_frz h.at_)⟩
theorem AnsH.at {lot : List Nat} (h : AnsH K w CA CP D wy k ls H) (nd : ls.Nodup) (hl : lot ∈ ls) : ∃ kvs x, DcAt K w H D kvs ∧ lk kvs (lotD lot) = some (.ref x) ∧ (AlikeAt K CA H x wy (leftOf wy lot) k ∨ PartedAt CP H x wy (leftOf wy lot) k) := by
  obtain ⟨kvs, h1, h2⟩ := h.ex
  obtain ⟨v, h3, _, x, h4, h5⟩ := lot_lk (fun _ _ z => z.1) h2 nd hl
  have h4' : v = .ref x := h4
  exact ⟨kvs, x, h1, by rw [h3, h4'], h5⟩
end
theorem not_take {ls : List (List Nat)} (nd : ls.Nodup) {i : Nat} (hi : i < ls.length) : ls[i] ∉ ls.take i := fun hm => by
  obtain ⟨j, hj, ej⟩ := List.mem_iff_getElem.mp hm
  rw [List.length_take] at hj
  rw [List.getElem_take] at ej
  exact List.pairwise_iff_getElem.mp nd j i (by omega) hi (by omega) ej
section
variable {P : Program} {w : World} {K : PySem.W.Frag} {mg : Str → Option Value} {base : Heap} {f : Addr} {fd : FuncData}
abbrev nSpare : List Str := ["way", "offers", "kind", "answers", "enough", "some", "rest", "lot", "answer", "one"]
theorem sc_spare : FnScope nSpare ["way", "offers", "kind"] d_spare.scope := ⟨rfl, rfl, rfl, by decide +kernel, rfl, by decide +kernel, by decide +kernel⟩
def sp_spare (K : PySem.W.Frag) (w : World) (T : List (Addr × Str)) (CS : Addr) : Sp := fun vs H Q _ => ∃ (v1 v2 : V) (wy : List Cv) (l : List Nat) (k : Kd), vs = [v1, v2, .str (kdS k)] ∧ Dp K H v1 (wayD wy) ∧ Dp K H v2 (lotD l) ∧ OffOk wy l ∧ LamX.Tabs T H ∧
  ∀ H' x, LamX.ExtN H H' → LamX.Tabs T H' → SparedAt K w CS H' x wy k (someL wy k l) (restL wy k l) → Q (.ref x) H'
theorem ok_spare {T : List (Addr × Str)} {CA CP CS : Addr} (G : Glb K w mg) (kt : Kits K CA CP) (gA : mg "Alike" = some (.ref CA)) (naR : NoAttr K CA "rows")
    (c1 : Cal P w K mg base 4 "check_three" ["way", "offers", "kind"] (sp_check_three K)) (c2 : Cal P w K mg base 4 "lots_of" ["offers"] (sp_lots_of K T)) (c3 : Cal P w K mg base 1 "left_of" ["way", "lot"] (sp_left_of K)) (c4 : Cal P w K mg base 6 "compared" ["one", "other", "kind"] (sp_compared K CA CP))
    (c5 : Cal P w K mg base 1 "is_within" ["one", "lot"] (sp_is_within K)) (c6 : Cal P w K mg base 1 "text_in" ["answer"] (sp_text_in CP)) (mS : CalM P w K mg base 1 "Spared" CS ["self", "good", "fails"] (sp_Spared_init K w CS)) (F : FnP K d_spare f fd) :
    FnOk P w K mg base CX0 7 f fd ["way", "offers", "kind"] (sp_spare K w T CS) := by
  refine F.ok sc_spare (fun vs H Q E h => ?_) (fun cdv A outer s H vs Q E hr h => ?_)
  · obtain ⟨v1, v2, wy, l, k, rfl, _⟩ := h
    rfl
  · obtain ⟨v1, v2, wy, l, k, rfl, h1, h2, ok, hT, q⟩ := h
    have sl := sizeLine_eq
    have hu := hr.units
    refine ⟨_, PSs.nox (pss_cons (ps_expr (pe_cal c1 hr (by decide) rfl (pa_cons (pv 0) (pa_cons (pv 1) (pa_cons (pv 2) pa_nil)))))
      (pss_cons (ps_set (i := 3) sc_spare.nd rfl (.inr rfl) (p_dcc K (w := w) (own := [("lot", 7)]) (g := gName 7) (tt := tYes) hu rfl sc_spare.nd (pi_list (pe_cal c2 hr (by decide) rfl (pa_cons (pv 1) pa_nil))) (blkOk_by (own := [("lot", 7)]) (N := nSpare) (sc := d_spare.scope) (by decide +kernel))
          (fun _ _ _ _ _ => pg_name (i := 7) sc_spare.nd rfl (.inl rfl)) (fun _ _ _ _ _ => pts_nil) (fun _ _ _ _ _ => pv 7) (fun _ _ _ _ _ => pe_cal c4 hr (by decide) rfl (pa_cons (pv 0) (pa_cons (pe_cal c3 hr (by decide) rfl (pa_cons (pv 0) (pa_cons (pv 7) pa_nil))) (pa_cons (pv 2) pa_nil))))))
      (pss_cons (ps_set (i := 4) sc_spare.nd rfl (.inr rfl) (pe_lock (pe_lc (own := [("lot", 7), ("answer", 8)]) (g := gTup K 2 (gCons (gName 7) (gCons (gName 8) gNil))) rfl sc_spare.nd (w_di K (w := w) (pv 3)) (blkOk_by (own := [("lot", 7), ("answer", 8)]) (N := nSpare) (sc := d_spare.scope) (by decide +kernel))
          (fun _ _ _ _ _ => pg_tup rfl (pgs_cons (pg_name (i := 7) sc_spare.nd rfl (.inl rfl)) (pgs_cons (pg_name (i := 8) sc_spare.nd rfl (.inl rfl)) pgs_nil)))
          (fun _ _ _ _ _ => pts_one (pt_val (pe_callB (c_isi K) (by rfl) G.isinstance b_isinstance (pa_cons (pv 8) (pa_cons (pe_glob (v := .ref CA) (by rfl) gA rfl) pa_nil))))) (fun _ _ _ _ _ => pv 7))))
      (pss_cons (ps_set (i := 5) sc_spare.nd rfl (.inr rfl) (pe_lc (own := [("lot", 7)]) (g := gName 7) rfl sc_spare.nd (pi_list (pv 4)) (blkOk_by (own := [("lot", 7)]) (N := nSpare) (sc := d_spare.scope) (by decide +kernel))
          (fun _ _ _ _ _ => pg_name (i := 7) sc_spare.nd rfl (.inr rfl))
          (fun _ _ _ _ _ => pts_one (pt_not (pt_val (pe_callB (c_any K rfl) (by rfl) G.any b_any (pa_cons (pe_lc (own := [("one", 9)]) (g := gName 9) (tt := tYes) rfl sc_spare.nd (w_list K (pv 4)) (blk_in (own := [("one", 9)]) (N := nSpare) d_spare.scope (by decide +kernel))
            (fun _ _ _ _ _ => pg_name (i := 9) sc_spare.nd rfl (.inl rfl)) (fun _ _ _ _ _ => pts_nil) (fun _ _ _ _ _ => pe_and (pe_cmpR (o_neD K hu) (pv 7) (pv 9) (nomark _)) (pe_one (pe_cal c5 hr (by decide) rfl (pa_cons (pv 7) (pa_cons (pv 9) pa_nil)))))) pa_nil))))) (fun _ _ _ _ _ => pv 7)))
      (pss_cons (ps_lock (ps_setLc (i := 6) (own := [("lot", 7)]) (g := gName 7) rfl sc_spare.nd rfl rfl (sw_true rfl rfl rfl (by decide +kernel)) (w_dk K (w := w) (pv 3)) (blkOk_by (own := [("lot", 7)]) (N := nSpare) (sc := d_spare.scope) (by decide +kernel))
          (fun _ _ _ _ _ => pg_name (i := 7) sc_spare.nd rfl (.inr rfl))
          (fun _ _ _ _ _ => pts_one (pt_not (pt_val (pe_callB (c_any K rfl) (by rfl) G.any b_any (pa_cons (pe_lc (own := [("one", 9)]) (g := gName 9) (tt := tYes) rfl sc_spare.nd (w_list K (pv 5)) (blk_in (own := [("one", 9)]) (N := nSpare) d_spare.scope (by decide +kernel))
            (fun _ _ _ _ _ => pg_name (i := 9) sc_spare.nd rfl (.inl rfl)) (fun _ _ _ _ _ => pts_nil) (fun _ _ _ _ _ => pe_cal c5 hr (by decide) rfl (pa_cons (pv 7) (pa_cons (pv 9) pa_nil)))) pa_nil))))) (fun _ _ _ _ _ => pv 7)))
      (pss_one (ps_ret (pe_mk mS hr (by decide) rfl (pa_cons (p_dcc K (w := w) (own := [("lot", 7)]) (g := gName 7) (tt := tYes) hu rfl sc_spare.nd (pi_list (pv 5)) (blkOk_by (own := [("lot", 7)]) (N := nSpare) (sc := d_spare.scope) (by decide +kernel))
            (fun _ _ _ _ _ => pg_name (i := 7) sc_spare.nd rfl (.inl rfl)) (fun _ _ _ _ _ => pts_nil) (fun _ _ _ _ _ => pv 7) (fun _ _ _ _ _ => p_fld K (pe_ix (x_dc K (w := w) hu) (pv 3) (pv 7) (fun _ _ => rfl))))
          (pa_cons (p_dcc K (w := w) (own := [("lot", 7)]) (g := gName 7) (tt := tYes) hu rfl sc_spare.nd (pi_list (pv 6)) (blkOk_by (own := [("lot", 7)]) (N := nSpare) (sc := d_spare.scope) (by decide +kernel))
            (fun _ _ _ _ _ => pg_name (i := 7) sc_spare.nd rfl (.inl rfl)) (fun _ _ _ _ _ => pts_nil) (fun _ _ _ _ _ => pv 7) (fun _ _ _ _ _ => pe_cal c6 hr (by decide) rfl (pa_cons (pe_ix (x_dc K (w := w) hu) (pv 3) (pv 7) (fun _ _ => rfl)) pa_nil))) pa_nil)))))))))), ?_⟩
    have hsub := every_sub ok
    have hel := every_len ok
    have hsl := some_len (k := k) ok
    have hrl := rest_len (k := k) ok
    have hgl : (goodL wy k l).length ≤ 16 := Nat.le_trans (List.length_filter_le _ _) hel
    refine ⟨_, rfl, _, rfl, _, rfl, v1, v2, wy, l, k, rfl, h1, h2, ok, fun H0 e0 => ?_⟩
    refine ⟨_, rfl, v2, l, rfl, Same.dp e0 h2, ok.few, hT.ext e0, fun B p eB0 tB dB => ?_⟩
    have eB : LamX.ExtN H B := (LamX.ExtN.of e0).trans eB0
    have h1B := ExtN.dp eB h1
    obtain ⟨p', ps, ep, hps, dps⟩ := dp_lst dB
    cases ep
    refine ⟨p, rfl, ⟨_, hps⟩, fun D nD => ?_⟩
    refine dcc_it (walk_lstD (K := K) (a := p) (L := everyL l) (g := lotD)) (fun i H' => Same B H' ∧ ∃ kvs, DcAt K w H' D kvs ∧ AnsAt K CA CP H' wy k ((everyL l).take i) kvs) ⟨same_new nD, [], ⟨[], upd_same, .nil⟩, .nil⟩ (fun i H' _ z => Same.dp z.1 dB) ?_ ?_
    · rintro i x H2 H3 hi ⟨e2, kvs2, dk2, ak2⟩ ⟨rfl, y⟩
      have hi1 : (everyL l)[i]? = some (everyL l)[i] := List.getElem?_eq_getElem hi
      have dlot := y _ hi1
      obtain ⟨la, rfl, hla⟩ := dp_lot dlot
      refine ⟨rfl, ?_⟩
      refine ⟨_, rfl, _, rfl, _, rfl, _, rfl, v1, .ref la, wy, (everyL l)[i], rfl, Same.dp e2 h1B, dlot, ok.lot.wl, fun H4 r e4 dr => ?_⟩
      refine ⟨_, rfl, v1, r, wy, leftOf wy (everyL l)[i], k, rfl, Same.dp (same_trans e2 e4) h1B, dr, ok.lot.wl, Nat.le_trans (leftOf_len _ _) ok.lot.wl, fun H5 x e5 hx => ?_⟩
      have e25 := same_trans e2 (same_trans e4 e5)
      have dk5 := dk2.same (same_trans e4 e5)
      have ak5 := ak2.ext (same_trans e4 e5)
      obtain ⟨xs5, hd5, _⟩ := id dk5
      have hl2 := Paired.length ak5
      rw [List.length_take] at hl2
      refine ⟨la, kvs2, lotD (everyL l)[i], rfl, dk5, Same.dp (same_trans e4 e5) dlot, ok_lot _, lot_lk_in (fun _ _ z => z.1) ak5 (not_take hsub.nd hi), by omega, fun xs dc => ⟨same_upd e25 nD, _, dc, ?_⟩⟩
      rw [take_at hi1]
      exact paired_snoc ⟨rfl, x, rfl, hx.imp (fun z => z.upd (notObj_dc hd5)) fun z => z.upd (notObj_dc hd5)⟩ (ak5.upd (notObj_dc hd5))
    · rintro H2 ⟨e2, kvs2, dk2, ak2⟩
      rw [List.take_length] at ak2
      have AH2 : AnsH K w CA CP D wy k (everyL l) H2 := ⟨kvs2, dk2, ak2⟩
      -- enough
      obtain ⟨xs, kvs, hD2, lock⟩ := AH2.lock
      refine ⟨D, _, hD2, True.intro, fun od => ?_⟩
      have AK3 := lock od
      have e3 : Same B (upd H2 D (.frz od (DcO w D xs))) := same_upd e2 nD
      generalize upd H2 D (.frz od (DcO w D xs)) = H3 at *
      refine ⟨_, rfl, D, od, kvs, rfl, AK3.lk, fun D4 nD4 => ?_⟩
      have wk := walk_di (K := K) (w := w) (d := D) (o := od) (kvs := kvs)
      rw [← Paired.length AK3.a] at wk
      refine lc_data (K := K) (L := everyL l) (f := lotD) (sel := fun lot => alikeB wy (leftOf wy lot) k) wk nD4 flt_lot (by omega) (fun H' e => (AK3.ext e).lk) ?_ ?_
      · rintro i lot x H4 H5 Nx hz e ⟨T, kk, vv, ak, hkv, rfl, nT, dk, rfl⟩ hyes hno
        obtain ⟨q1, hq1, eq1, x, eq2, hx⟩ := paired_at (AK3.ext e).a hz
        rw [hkv] at hq1
        obtain rfl := Option.some.inj hq1
        obtain rfl : kk = lotD lot := eq1
        obtain rfl : vv = .ref x := eq2
        have e5 := same_new (o := HO.tup [.ref ak, .ref x]) nT
        obtain ⟨t, ht, hk⟩ := kit_is kt (hx.imp (fun z => z.ext e5) fun z => z.ext e5)
        refine ⟨T, _, rfl, .inl (.inl upd_same), rfl, _, _, rfl, _, _, rfl, rfl, rfl, ?_⟩
        refine ⟨_, rfl, _, _, t, _, _, rfl, .own CA, ht, hk, _, rfl, ?_⟩
        cases hal : alikeB wy (leftOf wy lot) k with
        | true => exact iteT ⟨_, rfl, hyes hal _ _ e5 (Same.dp e5 dk)⟩
        | false => exact iteF (hno hal _ e5)
      · intro H5 ys e5 hD4 dall
        have AK5 := AK3.ext e5
        refine ⟨AK5.at_, ?_⟩
        have AH6 := AK5.unlock
        have e6 : Same B (upd H5 D (DcO w D xs)) := same_upd (same_trans e3 e5) nD
        have dE : Dp K (upd H5 D (DcO w D xs)) (.ref D4) (lotsD (goodL wy k l)) := dp_updA (notSq_frz AK5.at_) (.lst (.inl (.inl hD4)) dall)
        generalize upd H5 D (DcO w D xs) = H6 at *
        -- some
        obtain ⟨_, es, ep, hes, _⟩ := dp_lst dE
        cases ep
        refine ⟨_, rfl, D4, rfl, ⟨_, hes⟩, fun D7 nD7 => ?_⟩
        refine lc_data (K := K) (L := goodL wy k l) (f := lotD) (sel := fun lot => !((goodL wy k l).any fun one => !decide (lot = one) && within lot one)) (walk_lstD (K := K) (a := D4) (L := goodL wy k l) (g := lotD)) nD7 flt_lot (by omega) (fun H' e => Same.dp e dE) ?_ ?_
        · rintro i lot x H7 H8 Nx hz e ⟨rfl, y⟩ hyes hno
          have dlot := y lot hz
          obtain ⟨la, rfl, hla⟩ := dp_lot dlot
          have hlot := every_lot ok (good_mem.mp (List.mem_of_getElem? hz)).1
          have dE8 := Same.dp e dE
          obtain ⟨_, es8, ep, hes8, _⟩ := dp_lst dE8
          cases ep
          refine ⟨rfl, ?_⟩
          refine ⟨_, rfl, D4, rfl, ⟨_, hes8⟩, fun D9 nD9 => lc_bools (K := K) (L := goodL wy k l) (p := fun one => !decide (lot = one) && within lot one) (walk_lstD (K := K) (a := D4) (L := goodL wy k l) (g := lotD)) nD9 (by omega) (fun H' e' => Same.dp e' dE8) ?_ gName_mono ?_⟩
          · rintro i9 one x9 H9 H10 Nx9 hz9 e9 ⟨rfl, y9⟩ kk
            have done_ := y9 one hz9
            obtain ⟨oa, rfl, hoa⟩ := dp_lot done_
            have dlot9 := Same.dp e9 dlot
            refine ⟨rfl, ?_⟩
            refine ⟨_, rfl, _, rfl, lotD lot, lotD one, dlot9, done_, sh_lot _, sh_lot _, _, rfl, ?_⟩
            rw [eqv_lot]
            cases hdec : decide (lot = one) with
            | true =>
              rw [hdec] at kk
              exact iteF (kk _ fun _ _ z => z)
            | false =>
              rw [hdec] at kk
              refine iteT ⟨_, rfl, _, rfl, .ref la, .ref oa, lot, one, rfl, dlot9, done_, by have := hlot.len; omega, fun H11 e11 => ?_⟩
              exact kk _ e11
          · intro H10 e10 hD9
            refine ⟨D9, _, rfl, hD9, _, rfl, ?_⟩
            rw [any_map]
            cases hany : (goodL wy k l).any (fun one => !decide (lot = one) && within lot one) with
            | true => exact iteF (hno (by show (!_) = false; rw [hany]; rfl) _ e10)
            | false => exact iteT ⟨_, rfl, hyes (by show (!_) = true; rw [hany]; rfl) _ _ e10 (Same.dp e10 dlot)⟩
        · intro H8 ys8 e8 hD7 dall8
          have dS8 : Dp K H8 (.ref D7) (lotsD (someL wy k l)) := .lst (.inl (.inl hD7)) dall8
          have AH8 := AH6.ext e8
          have e08 := same_trans e6 e8
          -- rest
          obtain ⟨xs9, kvs9, hD9, lock9⟩ := AH8.lock
          refine ⟨D, _, hD9, True.intro, fun od9 => ?_⟩
          have AK9 := lock9 od9
          have e9 : Same B (upd H8 D (.frz od9 (DcO w D xs9))) := same_upd e08 nD
          have dS9 : Dp K (upd H8 D (.frz od9 (DcO w D xs9))) (.ref D7) (lotsD (someL wy k l)) := dp_updA (notSq_dc hD9) dS8
          generalize upd H8 D (.frz od9 (DcO w D xs9)) = H9 at *
          refine ⟨_, rfl, D, od9, kvs9, rfl, AK9.lk, fun D10 nD10 => ?_⟩
          have wk9 := walk_dk (K := K) (w := w) (d := D) (o := od9) (kvs := kvs9)
          rw [← Paired.length AK9.a] at wk9
          refine lc_data (K := K) (L := everyL l) (f := lotD) (sel := fun lot => !((someL wy k l).any fun one => within lot one)) wk9 nD10 flt_lot (by omega) (fun H' e => (AK9.ext e).lk) ?_ ?_
          · rintro i lot x H10 H11 Nx hz e ⟨rfl, kk, vv, ak, hkv, rfl, dk⟩ hyes hno
            obtain ⟨q1, hq1, eq1, _⟩ := paired_at (AK9.ext e).a hz
            rw [hkv] at hq1
            obtain rfl := Option.some.inj hq1
            obtain rfl : kk = lotD lot := eq1
            have hlot := every_lot ok (List.mem_of_getElem? hz)
            have dS11 := Same.dp e dS9
            obtain ⟨_, es8, ep, hes8, _⟩ := dp_lst dS11
            cases ep
            refine ⟨rfl, ?_⟩
            refine ⟨_, rfl, D7, rfl, ⟨_, hes8⟩, fun D12 nD12 => lc_bools (K := K) (L := someL wy k l) (p := fun one => within lot one) (walk_lstD (K := K) (a := D7) (L := someL wy k l) (g := lotD)) nD12 (by omega) (fun H' e' => Same.dp e' dS11) ?_ gName_mono ?_⟩
            · rintro i9 one x9 H12 H13 Nx9 hz9 e12 ⟨rfl, y9⟩ kk
              have done_ := y9 one hz9
              obtain ⟨oa, rfl, hoa⟩ := dp_lot done_
              refine ⟨rfl, ?_⟩
              exact ⟨_, rfl, _, rfl, .ref ak, .ref oa, lot, one, rfl, Same.dp e12 dk, done_, by have := hlot.len; omega, fun H14 e14 => kk _ e14⟩
            · intro H12 e12 hD12
              refine ⟨D12, _, rfl, hD12, _, rfl, ?_⟩
              rw [any_map]
              cases hany : (someL wy k l).any (fun one => within lot one) with
              | true => exact iteF (hno (by show (!_) = false; rw [hany]; rfl) _ e12)
              | false => exact iteT ⟨_, rfl, hyes (by show (!_) = true; rw [hany]; rfl) _ _ e12 (Same.dp e12 dk)⟩
          · intro H11 ys11 e11 hD10 dall11
            have AK11 := AK9.ext e11
            refine ⟨AK11.at_, ?_⟩
            have AH12 := AK11.unlock
            have e12 : Same B (upd H11 D (DcO w D xs9)) := same_upd (same_trans e9 e11) nD
            have dS12 : Dp K (upd H11 D (DcO w D xs9)) (.ref D7) (lotsD (someL wy k l)) := dp_updA (notSq_frz AK11.at_) (Same.dp e11 dS9)
            have dR12 : Dp K (upd H11 D (DcO w D xs9)) (.ref D10) (lotsD (restL wy k l)) := dp_updA (notSq_frz AK11.at_) (.lst (.inl (.inl hD10)) dall11)
            generalize upd H11 D (DcO w D xs9) = H12 at *
            -- Spared(..)
            obtain ⟨_, ss, ep, hss, _⟩ := dp_lst dS12
            cases ep
            refine ⟨_, rfl, D7, rfl, ⟨_, hss⟩, fun D13 nD13 => ?_⟩
            refine dcc_it (walk_lstD (K := K) (a := D7) (L := someL wy k l) (g := lotD)) (fun i H' => Same H12 H' ∧ ∃ gk, DcAt K w H' D13 gk ∧ GoodAt K H' wy k ((someL wy k l).take i) gk) ⟨same_new nD13, [], ⟨[], upd_same, .nil⟩, .nil⟩ (fun i H' _ z => Same.dp z.1 dS12) ?_ ?_
            · rintro i x H13 H14 hi ⟨e13, gk, dk13, ga13⟩ ⟨rfl, y⟩
              have hi1 : (someL wy k l)[i]? = some (someL wy k l)[i] := List.getElem?_eq_getElem hi
              have dlot := y _ hi1
              obtain ⟨la, rfl, hla⟩ := dp_lot dlot
              have hmem : (someL wy k l)[i] ∈ someL wy k l := List.getElem_mem hi
              obtain ⟨kvs14, x, dc14, hlk, hx⟩ := (AH12.ext e13).at hsub.nd (some_every hmem)
              have hal : AlikeAt K CA H14 x wy (leftOf wy (someL wy k l)[i]) k := hx.resolve_right fun z => by
                have z1 := z.is
                rw [(good_mem.mp (some_good hmem)).2] at z1
                cases z1
              obtain ⟨dx, lr, rs, hx1, hx2, hx3⟩ := hal
              obtain ⟨xs14, hd14, _⟩ := id dk13
              have hl2 := Paired.length ga13
              rw [List.length_take] at hl2
              refine ⟨rfl, ?_⟩
              refine ⟨_, rfl, _, rfl, _, rfl, la, D, kvs14, lotD (someL wy k l)[i], .ref x, rfl, rfl, dc14, dlot, ok_lot _, hlk, x, CA, dx, _, _, rfl, hx1, kt.a.cl, naR, rfl, ?_⟩
              refine ⟨la, gk, lotD (someL wy k l)[i], rfl, dk13, dlot, ok_lot _, lot_lk_in (fun _ _ z => z.1) ga13 (not_take (some_nd ok) hi), by omega, fun xs dc => ⟨same_upd e13 nD13, _, dc, ?_⟩⟩
              rw [take_at hi1]
              exact paired_snoc ⟨rfl, lr, rs, rfl, dp_updA (notSq_dc hd14) hx2, hx3⟩ (ga13.map fun _ _ z => dp_updA (notSq_dc hd14) z)
            · rintro H13 ⟨e13, gk, dk13, ga13⟩
              rw [List.take_length] at ga13
              have AH13 := AH12.ext e13
              have dR13 := Same.dp e13 dR12
              obtain ⟨_, rr, ep, hrr, _⟩ := dp_lst dR13
              cases ep
              refine ⟨_, rfl, D10, rfl, ⟨_, hrr⟩, fun D14 nD14 => ?_⟩
              refine dcc_it (walk_lstD (K := K) (a := D10) (L := restL wy k l) (g := lotD)) (fun i H' => Same H13 H' ∧ ∃ fk, DcAt K w H' D14 fk ∧ FailAt wy k ((restL wy k l).take i) fk) ⟨same_new nD14, [], ⟨[], upd_same, .nil⟩, .nil⟩ (fun i H' _ z => Same.dp z.1 dR13) ?_ ?_
              · rintro i x H14 H15 hi ⟨e14, fk, dk14, fb14⟩ ⟨rfl, y⟩
                have hi1 : (restL wy k l)[i]? = some (restL wy k l)[i] := List.getElem?_eq_getElem hi
                have dlot := y _ hi1
                obtain ⟨la, rfl, hla⟩ := dp_lot dlot
                have hmem : (restL wy k l)[i] ∈ restL wy k l := List.getElem_mem hi
                obtain ⟨kvs15, x, dc15, hlk, hx⟩ := (AH13.ext e14).at hsub.nd (rest_every hmem)
                have hpt : PartedAt CP H15 x wy (leftOf wy (restL wy k l)[i]) k := hx.resolve_left fun z => by
                  have z1 := z.is
                  rw [rest_not ok hmem] at z1
                  cases z1
                obtain ⟨dx, t, hx1, hx2, hx3⟩ := hpt
                have hl2 := Paired.length fb14
                rw [List.length_take] at hl2
                refine ⟨rfl, ?_⟩
                refine ⟨_, rfl, _, rfl, _, rfl, la, D, kvs15, lotD (restL wy k l)[i], .ref x, rfl, rfl, dc15, dlot, ok_lot _, hlk, x, dx, _, rfl, hx1, ?_⟩
                refine ⟨la, fk, lotD (restL wy k l)[i], rfl, dk14, dlot, ok_lot _, lot_lk_in (fun _ _ z => z.1) fb14 (not_take (rest_nd ok) hi), by omega, fun xs dc => ⟨same_upd e14 nD14, _, dc, ?_⟩⟩
                rw [take_at hi1]
                exact paired_snoc ⟨rfl, t, rfl, hx2, hx3⟩ fb14
              · rintro H14 ⟨e14, fk, dk14, fb14⟩
                rw [List.take_length] at fb14
                intro x dx nx ndx nex
                have e15 := same_new (o := HO.own x) ndx
                have nx9 : (upd H14 dx (.own x)) x = none := (upd_ne nex.symm).trans nx
                have e16 := same_new (o := HO.ins CS dx []) nx9
                have e1416 := same_trans e15 e16
                have e014 := same_trans e12 (same_trans e13 e14)
                have nxB : B x = none := Same.none e014 nx
                refine ⟨x, dx, D13, D14, gk, fk, wy, k, someL wy k l, restL wy k l, rfl, upd_same, (dk13.same e14).same e1416, (ga13.ext e14).ext e1416, dk14.same e1416, fb14, some_nd ok, by omega, ?_, fun H' keep hs => ⟨rfl, ?_⟩⟩
                · refine hash_nd (rest_nd ok) fun z hz => ?_
                  have hz2 := every_lot ok (rest_every hz)
                  exact ⟨hz2.asc, fun i hi => by have := hz2.lt i hi; have := hz2.wl; omega⟩
                · have eBH : Same B H' := fun c o z => keep c o (fun z2 => by rw [z2, nxB] at z; cases z) (e1416 _ _ (e014 _ _ z))
                  exact q H' x (eB.trans (LamX.ExtN.of eBH)) (tB.ext eBH) hs
end
end TE

set_option Elab.async false
set_option linter.all false
set_option maxRecDepth 100000
set_option maxHeartbeats 4000000
/-! The defs: sparing, six: shows. -/
namespace TE
open PySem PySem.Spec PyProof.Rows L2 TM
/-- a walk, turn by turn -/
theorem wk_it {J : It} {n : Nat} {G : Hp → Prop} {Y : Nat → Hp → V → Hp → Prop} (w : Walk J n G Y) {S : V → Hp → (Hp → Prop) → Prop} {Qd : Hp → Prop} {H0 : Hp} (Pv : Nat → Hp → Prop) (h0 : Pv 0 H0) (hG : ∀ i H, i ≤ n → Pv i H → G H)
    (hs : ∀ i x H H', i < n → Pv i H → Y i H x H' → S x H' (Pv (i + 1))) (hd : ∀ H, Pv n H → Qd H) :
    ∃ W : Nat → Nat → Hp → Prop, (∃ m, W 0 m H0) ∧ ∀ i m H, W i m H → (J.stop i H ∧ Qd H) ∨ (J.go i H ∧ ∃ Nx : Hp → Prop, (∀ H', Nx H' → ∃ m', m' < m ∧ W (i + 1) m' H') ∧ ∀ x H', J.yld i H x H' → S x H' Nx) := by
  refine ⟨fun i m H => m = n - i ∧ i ≤ n ∧ Pv i H, ⟨n, rfl, Nat.zero_le _, h0⟩, ?_⟩
  rintro i m H ⟨rfl, hi, p⟩
  have q := hG i H hi p
  by_cases hlt : i < n
  · exact .inr ⟨w.goes i H hlt q, Pv (i + 1), fun H' p' => ⟨n - (i + 1), by omega, rfl, hlt, p'⟩, fun x H' y => hs i x H H' hlt p (w.yields i H x H' hlt q y)⟩
  · have e : i = n := by omega
    subst e
    exact .inl ⟨w.stops H q, hd H p⟩
theorem lk_good {a b : V} : ([("good", a), ("fails", b)] : List (Str × V)).lookup ("good" : Str) = some a := by
  have e : (("good" : Str) == ("good" : Str)) = true := by decide +kernel
  show (match (("good" : Str) == ("good" : Str)) with | true => some a | false => ([("fails", b)] : List (Str × V)).lookup ("good" : Str)) = some a
  rw [e]
theorem lk_fails {a b : V} : ([("good", a), ("fails", b)] : List (Str × V)).lookup ("fails" : Str) = some b := by
  have e : (("fails" : Str) == ("good" : Str)) = false := by decide +kernel
  have e2 : (("fails" : Str) == ("fails" : Str)) = true := by decide +kernel
  show (match (("fails" : Str) == ("good" : Str)) with | true => some a | false => (match (("fails" : Str) == ("fails" : Str)) with | true => some b | false => none)) = some b
  rw [e, e2]
theorem all_true {α : Type} (L : List α) : (L.all fun _ => true) = true := by simp
theorem any_rep (n : Nat) : (List.replicate n false).any id = false := by
  induction n with
  | zero => rfl
  | succ n ih => rw [List.replicate_succ, List.any_cons, ih]; rfl
section
variable {P : Program} {w : World} {K : PySem.W.Frag} {mg : Str → Option Value} {base : Heap} {f : Addr} {fd : FuncData}
abbrev nShows : List Str := ["self", "way", "offers", "kind", "every", "some", "rest", "lot", "one"]
theorem sc_Spared_shows : FnScope nShows ["self", "way", "offers", "kind"] d_Spared_shows.scope := ⟨rfl, rfl, rfl, by decide +kernel, rfl, by decide +kernel, by decide +kernel⟩
def sp_Spared_shows (K : PySem.W.Frag) (w : World) (T : List (Addr × Str)) (CS : Addr) : Sp := fun vs H Q _ => ∃ (x : Addr) (v1 v2 : V) (wy : List Cv) (l : List Nat) (k : Kd), vs = [.ref x, v1, v2, .str (kdS k)] ∧ Dp K H v1 (wayD wy) ∧ Dp K H v2 (lotD l) ∧ OffOk wy l ∧ LamX.Tabs T H ∧
  SparedAt K w CS H x wy k (someL wy k l) (restL wy k l) ∧ ∀ H', LamX.ExtN H H' → LamX.Tabs T H' → Q (.bl true) H'
theorem ok_Spared_shows {T : List (Addr × Str)} {CS : Addr} (G : Glb K w mg) (cl : Cls K CS) (na : NoAttr K CS "good") (na2 : NoAttr K CS "fails")
    (c1 : Cal P w K mg base 4 "check_three" ["way", "offers", "kind"] (sp_check_three K)) (c2 : Cal P w K mg base 4 "lots_of" ["offers"] (sp_lots_of K T)) (c3 : Cal P w K mg base 1 "left_of" ["way", "lot"] (sp_left_of K)) (c5 : Cal P w K mg base 1 "is_within" ["one", "lot"] (sp_is_within K))
    (c6 : Cal P w K mg base 6 "are_rows" ["one", "other", "kind", "rows"] (sp_are_rows K)) (c7 : Cal P w K mg base 6 "is_parting" ["one", "other", "kind", "text"] (sp_is_parting K)) (F : FnP K d_Spared_shows f fd) :
    FnOk P w K mg base CX0 7 f fd ["self", "way", "offers", "kind"] (sp_Spared_shows K w T CS) := by
  refine F.ok sc_Spared_shows (fun vs H Q E h => ?_) (fun cdv A outer s H vs Q E hr h => ?_)
  · obtain ⟨x, v1, v2, wy, l, k, rfl, _⟩ := h
    rfl
  · obtain ⟨x, v1, v2, wy, l, k, rfl, h1, h2, ok, hT, hsp, q⟩ := h
    have sl := sizeLine_eq
    have hu := hr.units
    have hu65 : (A.deeper (envOfC d_Spared_shows.qual d_Spared_shows.scope s.heap.objs.size f cdv)).units + 65 < cLine := by
      have := hr.un
      omega
    refine ⟨_, PSs.nox (pss_cons (ps_expr (pe_cal c1 hr (by decide) rfl (pa_cons (pv 1) (pa_cons (pv 2) (pa_cons (pv 3) pa_nil)))))
      (pss_cons (ps_asg (pe_tup (pa_cons (pe_cal c2 hr (by decide) rfl (pa_cons (pv 2) pa_nil)) (pa_cons (pe_callTy (c_dcList K (w := w) rfl) (by rfl) G.list b_list (pa_cons (p_fld K (pv 0)) pa_nil)) pa_nil))) (pg_tup rfl (pgs_cons (pg_name (i := 4) sc_Spared_shows.nd rfl (.inr rfl)) (pgs_cons (pg_name (i := 5) sc_Spared_shows.nd rfl (.inr rfl)) pgs_nil))))
      (pss_cons (ps_setLc (i := 6) (own := [("lot", 7)]) (g := gName 7) rfl sc_Spared_shows.nd rfl rfl (sw_true rfl rfl rfl (by decide +kernel)) (pi_list (pv 4)) (blkOk_by (own := [("lot", 7)]) (N := nShows) (sc := d_Spared_shows.scope) (by decide +kernel))
          (fun _ _ _ _ _ => pg_name (i := 7) sc_Spared_shows.nd rfl (.inr rfl))
          (fun _ _ _ _ _ => pts_one (pt_not (pt_val (pe_callB (c_any K rfl) (by rfl) G.any b_any (pa_cons (pe_lc (own := [("one", 8)]) (g := gName 8) (tt := tYes) rfl sc_Spared_shows.nd (w_list K (pv 5)) (blk_in (own := [("one", 8)]) (N := nShows) d_Spared_shows.scope (by decide +kernel))
            (fun _ _ _ _ _ => pg_name (i := 8) sc_Spared_shows.nd rfl (.inl rfl)) (fun _ _ _ _ _ => pts_nil) (fun _ _ _ _ _ => pe_cal c5 hr (by decide) rfl (pa_cons (pv 7) (pa_cons (pv 8) pa_nil)))) pa_nil))))) (fun _ _ _ _ _ => pv 7))
      (pss_cons (ps_if (PW.pt (pw_or (pt_not (pt_val (pe_callB (c_all K rfl) (by rfl) G.all b_all (pa_cons (pe_lc (own := [("lot", 7)]) (g := gName 7) (tt := tYes) rfl sc_Spared_shows.nd (pi_list (pv 5)) (blkOk_by (own := [("lot", 7)]) (N := nShows) (sc := d_Spared_shows.scope) (by decide +kernel))
            (fun _ _ _ _ _ => pg_name (i := 7) sc_Spared_shows.nd rfl (.inl rfl)) (fun _ _ _ _ _ => pts_nil) (fun _ _ _ _ _ => pe_cmpR (o_inD K hu65) (pv 7) (pv 4) rfl)) pa_nil))))
          (pw_or1 (pt_cmpR op_ne (pe_callB (c_len K) (by rfl) G.len b_len (pa_cons (pv 6) pa_nil)) (pe_callB (c_dcLen K (w := w)) (by rfl) G.len b_len (pa_cons (p_fld K (pv 0)) pa_nil)) (nomark _))))) (pss_one (ps_ret pe_bl)) pss_nil)
      (pss_cons (ps_if (pt_val (pe_callB (c_any K rfl) (by rfl) G.any b_any (pa_cons (pe_lc2 (own := [("one", 8), ("lot", 7)]) (vs1 := [7]) (g := gName 8) (g1 := gName 7) (tt := tYes) (tt1 := tYes) rfl sc_Spared_shows.nd (pi_list (pv 5)) (blkOk_by (own := [("one", 8), ("lot", 7)]) (N := nShows) (sc := d_Spared_shows.scope) (by decide +kernel)) (by decide)
            (fun _ _ _ _ _ => pg_name (i := 8) sc_Spared_shows.nd rfl (.inl rfl)) (fun _ _ _ _ _ => pts_nil) (fun _ _ _ _ _ => w_list K (pv 5)) (fun _ _ _ _ _ => pg_name (i := 7) sc_Spared_shows.nd rfl (.inl rfl)) (fun _ _ _ _ _ => pts_nil)
            (fun _ _ _ _ _ => pe_and (pe_cmpR (o_neD K hu) (pv 8) (pv 7) (nomark _)) (pe_one (pe_cal c5 hr (by decide) rfl (pa_cons (pv 8) (pa_cons (pv 7) pa_nil)))))) pa_nil))) (pss_one (ps_ret pe_bl)) pss_nil)
      (pss_cons (ps_if (pt_not (pt_val (pe_callB (c_all K rfl) (by rfl) G.all b_all (pa_cons (pe_lc (own := [("lot", 7)]) (g := gName 7) (tt := tYes) rfl sc_Spared_shows.nd (pi_list (pv 6)) (blkOk_by (own := [("lot", 7)]) (N := nShows) (sc := d_Spared_shows.scope) (by decide +kernel))
            (fun _ _ _ _ _ => pg_name (i := 7) sc_Spared_shows.nd rfl (.inl rfl)) (fun _ _ _ _ _ => pts_nil) (fun _ _ _ _ _ => pe_cmpR (o_dcIn K (w := w) hu) (pv 7) (p_fld K (pv 0)) rfl)) pa_nil)))) (pss_one (ps_ret pe_bl)) pss_nil)
      (pss_cons (ps_if (pt_not (pt_val (pe_callB (c_all K rfl) (by rfl) G.all b_all (pa_cons (pe_lc (own := [("lot", 7)]) (g := gName 7) (tt := tYes) rfl sc_Spared_shows.nd (pi_list (pv 5)) (blkOk_by (own := [("lot", 7)]) (N := nShows) (sc := d_Spared_shows.scope) (by decide +kernel))
            (fun _ _ _ _ _ => pg_name (i := 7) sc_Spared_shows.nd rfl (.inl rfl)) (fun _ _ _ _ _ => pts_nil) (fun _ _ _ _ _ => pe_cal c6 hr (by decide) rfl (pa_cons (pv 1) (pa_cons (pe_cal c3 hr (by decide) rfl (pa_cons (pv 1) (pa_cons (pv 7) pa_nil))) (pa_cons (pv 3) (pa_cons (pe_ix (x_dc K (w := w) hu) (p_fld K (pv 0)) (pv 7) (fun _ _ => rfl)) pa_nil)))))) pa_nil)))) (pss_one (ps_ret pe_bl)) pss_nil)
      (pss_one (ps_ret (pe_callB (c_all K rfl) (by rfl) G.all b_all (pa_cons (pe_lc (own := [("lot", 7)]) (g := gName 7) (tt := tYes) rfl sc_Spared_shows.nd (pi_list (pv 6)) (blkOk_by (own := [("lot", 7)]) (N := nShows) (sc := d_Spared_shows.scope) (by decide +kernel))
            (fun _ _ _ _ _ => pg_name (i := 7) sc_Spared_shows.nd rfl (.inl rfl)) (fun _ _ _ _ _ => pts_nil) (fun _ _ _ _ _ => pe_cal c7 hr (by decide) rfl (pa_cons (pv 1) (pa_cons (pe_cal c3 hr (by decide) rfl (pa_cons (pv 1) (pa_cons (pv 7) pa_nil))) (pa_cons (pv 3) (pa_cons (pe_ix (x_dc K (w := w) hu) (p_fld K (pv 0)) (pv 7) (fun _ _ => rfl)) pa_nil)))))) pa_nil))))))))))), ?_⟩
    have hsub := every_sub ok
    have hel := every_len ok
    have hsl := some_len (k := k) ok
    have hrl := rest_len (k := k) ok
    refine ⟨_, rfl, _, rfl, _, rfl, v1, v2, wy, l, k, rfl, h1, h2, ok, fun H0 e0 => ?_⟩
    refine ⟨_, rfl, v2, l, rfl, Same.dp e0 h2, ok.few, hT.ext e0, fun B p eB0 tB dB => ?_⟩
    have eB : LamX.ExtN H B := (LamX.ExtN.of e0).trans eB0
    have h1B := ExtN.dp eB h1
    obtain ⟨dx, d1, d2, gk, fk, hx, dc1, ga, dc2, fb⟩ := hsp.extN eB
    refine ⟨_, rfl, x, CS, dx, _, _, rfl, hx, cl, na, lk_good, d1, gk, rfl, dc1, fun la xs nla dall => ⟨two_line, fun T0 nT0 => ?_⟩⟩
    rw [paired_keys (fun _ _ z => z.1) ga] at dall
    have ea := same_new (o := HO.lst xs) nla
    have eb := same_new (o := HO.tup [.ref p, .ref la]) nT0
    have eab := same_trans ea eb
    refine ⟨T0, _, rfl, .inl (.inl upd_same), rfl, _, _, rfl, _, _, rfl, rfl, ?_⟩
    have dS0 : Dp K (upd B la (.lst xs)) (.ref la) (lotsD (someL wy k l)) := .lst (.inl (.inl upd_same)) dall
    have dS := Same.dp eb dS0
    have dE := Same.dp eab dB
    have h1c := Same.dp eab h1B
    have hxc := eab _ _ hx
    have dc1c := dc1.same eab
    have gac := ga.ext eab
    have dc2c := dc2.same eab
    generalize upd (upd B la (.lst xs)) T0 (.tup [.ref p, .ref la]) = C at *
    -- rest
    obtain ⟨_, es, ep, hes, _⟩ := dp_lst dE
    cases ep
    refine ⟨_, rfl, p, rfl, ⟨_, hes⟩, fun D nD => ?_⟩
    refine lc_data (K := K) (L := everyL l) (f := lotD) (sel := fun lot => !((someL wy k l).any fun one => within lot one)) (walk_lstD (K := K) (a := p) (L := everyL l) (g := lotD)) nD flt_lot (by omega) (fun H' e => Same.dp e dE) ?_ ?_
    · rintro i lot y2 H10 H11 Nx hz e ⟨rfl, y⟩ hyes hno
      have dlot := y lot hz
      obtain ⟨ak, rfl, hak⟩ := dp_lot dlot
      have hlot := every_lot ok (List.mem_of_getElem? hz)
      have dS11 := Same.dp e dS
      obtain ⟨_, es8, ep, hes8, _⟩ := dp_lst dS11
      cases ep
      refine ⟨rfl, ?_⟩
      refine ⟨_, rfl, la, rfl, ⟨_, hes8⟩, fun D12 nD12 => lc_bools (K := K) (L := someL wy k l) (p := fun one => within lot one) (walk_lstD (K := K) (a := la) (L := someL wy k l) (g := lotD)) nD12 (by omega) (fun H' e' => Same.dp e' dS11) ?_ gName_mono ?_⟩
      · rintro i9 one x9 H12 H13 Nx9 hz9 e12 ⟨rfl, y9⟩ kk
        have done_ := y9 one hz9
        obtain ⟨oa, rfl, hoa⟩ := dp_lot done_
        refine ⟨rfl, ?_⟩
        exact ⟨_, rfl, _, rfl, .ref ak, .ref oa, lot, one, rfl, Same.dp e12 dlot, done_, by have := hlot.len; omega, fun H14 e14 => kk _ e14⟩
      · intro H12 e12 hD12
        refine ⟨D12, _, rfl, hD12, _, rfl, ?_⟩
        rw [any_map]
        cases hany : (someL wy k l).any (fun one => within lot one) with
        | true => exact iteF (hno (by show (!_) = false; rw [hany]; rfl) _ e12)
        | false => exact iteT ⟨_, rfl, hyes (by show (!_) = true; rw [hany]; rfl) _ _ e12 (Same.dp e12 dlot)⟩
    intro H1 ys1 e1 hD1 dall1
    have dR1 : Dp K H1 (.ref D) (lotsD (restL wy k l)) := .lst (.inl (.inl hD1)) dall1
    have hys1 := dpAll_len dall1
    rw [List.length_map] at hys1
    have hys1 : ys1.length = (restL wy k l).length := hys1
    -- lot in every
    have dS1 := Same.dp e1 dS
    obtain ⟨_, s1, ep, hs1, _⟩ := dp_lst dS1
    cases ep
    refine ⟨_, rfl, la, rfl, ⟨_, hs1⟩, fun D2 nD2 => lc_bools (K := K) (L := someL wy k l) (p := fun _ => true) (walk_lstD (K := K) (a := la) (L := someL wy k l) (g := lotD)) nD2 (by omega) (fun H' e => Same.dp e dS1) ?_ gName_mono ?_⟩
    · rintro i lot y2 H2 H3 Nx hz e ⟨rfl, y⟩ kk
      have dlot := y lot hz
      obtain ⟨ak, rfl, hak⟩ := dp_lot dlot
      refine ⟨rfl, _, rfl, _, rfl, lotD lot, (everyL l).map lotD, dlot, Same.dp (same_trans e1 e) dE, sh_lot _, sh_lots _, ?_⟩
      rw [eqv_in, decide_eq_true (some_every (List.mem_of_getElem? hz))]
      exact kk _ fun _ _ z => z
    intro H2 e2 hD2
    refine ⟨D2, _, rfl, hD2, _, rfl, ?_⟩
    rw [all_map, all_true]
    refine iteF ?_
    have e02 := same_trans e1 e2
    have hD12 := e2 _ _ hD1
    refine ⟨_, rfl, D, ys1, rfl, .inl (.inl (.inl hD12)), _, rfl, x, CS, dx, _, _, rfl, e02 _ _ hxc, cl, na2, lk_fails, d2, fk, rfl, dc2c.same e02, rfl, _, rfl, ?_⟩
    have hfk := Paired.length fb
    have hlen : decide (V.int (ys1.length : Nat) = V.int (fk.length : Nat)) = true := decide_eq_true (by rw [hys1, hfk])
    rw [hlen]
    refine iteF ?_
    -- none within another
    have dS2 := Same.dp e02 dS
    obtain ⟨_, s2, ep, hs2, _⟩ := dp_lst dS2
    cases ep
    refine ⟨_, rfl, la, rfl, ⟨_, hs2⟩, fun D3 nD3 => ?_⟩
    refine wk_it (walk_lstD (K := K) (a := la) (L := someL wy k l) (g := lotD)) (fun i H' => Same H2 H' ∧ ∃ n, n ≤ i * 16 ∧ H' D3 = some (.lst (List.replicate n (V.bl false)))) ⟨same_new nD3, 0, Nat.zero_le _, upd_same⟩ (fun i H' _ z => Same.dp z.1 dS2) ?_ ?_
    · rintro i y2 H3 H4 hi ⟨e3, n, hn, hD3⟩ ⟨rfl, y⟩
      have hi1 : (someL wy k l)[i]? = some (someL wy k l)[i] := List.getElem?_eq_getElem hi
      have done_ := y _ hi1
      obtain ⟨oa, rfl, hoa⟩ := dp_lot done_
      have hmem1 : (someL wy k l)[i] ∈ someL wy k l := List.getElem_mem hi
      have dS4 := Same.dp e3 dS2
      obtain ⟨_, s4, ep, hs4, _⟩ := dp_lst dS4
      cases ep
      refine ⟨rfl, ?_⟩
      refine ⟨_, rfl, la, rfl, ⟨_, hs4⟩, ?_⟩
      refine wk_it (walk_lstD (K := K) (a := la) (L := someL wy k l) (g := lotD)) (fun j H' => Same H2 H' ∧ Dp K H' (.ref oa) (lotD (someL wy k l)[i]) ∧ ∃ n, n ≤ i * 16 + j ∧ H' D3 = some (.lst (List.replicate n (V.bl false)))) ⟨e3, done_, n, by omega, hD3⟩ (fun i H' _ z => Same.dp z.1 dS2) ?_ ?_
      · rintro j y3 H5 H6 hj ⟨e5, do5, n5, hn5, hD5⟩ ⟨rfl, y5⟩
        have hj1 : (someL wy k l)[j]? = some (someL wy k l)[j] := List.getElem?_eq_getElem hj
        have dlot := y5 _ hj1
        obtain ⟨lb, rfl, hlb⟩ := dp_lot dlot
        have hmem2 : (someL wy k l)[j] ∈ someL wy k l := List.getElem_mem hj
        have anti := some_anti hmem1 hmem2
        have hlot := every_lot ok (some_every hmem1)
        have fin : ∀ H7, Same H6 H7 → ∃ acc, H7 D3 = some (.lst acc) ∧ acc.length < sizeLine ∧ (Same H2 (upd H7 D3 (.lst (acc ++ [.bl false]))) ∧ Dp K (upd H7 D3 (.lst (acc ++ [.bl false]))) (.ref oa) (lotD (someL wy k l)[i]) ∧ ∃ n, n ≤ i * 16 + (j + 1) ∧ (upd H7 D3 (.lst (acc ++ [.bl false]))) D3 = some (.lst (List.replicate n (V.bl false)))) := fun H7 e7 => by
          have h7 := e7 _ _ hD5
          refine ⟨_, h7, ?_, same_upd (same_trans e5 e7) nD3, dp_upd (noT_lst h7) (flt_lot _) (Same.dp e7 do5), n5 + 1, by omega, ?_⟩
          · rw [List.length_replicate]
            omega
          · rw [upd_same, ← List.replicate_succ']
        refine ⟨rfl, ?_⟩
        refine ⟨_, rfl, _, rfl, lotD (someL wy k l)[i], lotD (someL wy k l)[j], do5, dlot, sh_lot _, sh_lot _, _, rfl, ?_⟩
        rw [eqv_lot]
        cases hdec : decide ((someL wy k l)[i] = (someL wy k l)[j]) with
        | true => exact iteF (fin _ fun _ _ z => z)
        | false =>
          rw [hdec, Bool.not_false, Bool.true_and] at anti
          refine iteT ⟨_, rfl, _, rfl, .ref oa, .ref lb, (someL wy k l)[i], (someL wy k l)[j], rfl, do5, dlot, by have := hlot.len; omega, fun H7 e7 => ?_⟩
          rw [anti]
          exact fin _ e7
      · rintro H5 ⟨e5, _, n5, hn5, hD5⟩
        exact ⟨e5, n5, by omega, hD5⟩
    rintro H3 ⟨e3, n3, hn3, hD3⟩
    refine ⟨D3, List.replicate n3 false, rfl, ?_, _, rfl, ?_⟩
    · rw [List.map_replicate]
      exact .inl (.inl hD3)
    rw [any_rep]
    refine iteF ?_
    have e03 := same_trans e02 e3
    -- lot in self.fails
    have dR3 := Same.dp (same_trans e2 e3) dR1
    obtain ⟨_, r3, ep, hr3, _⟩ := dp_lst dR3
    cases ep
    refine ⟨_, rfl, D, rfl, ⟨_, hr3⟩, fun D4 nD4 => lc_bools (K := K) (L := restL wy k l) (p := fun _ => true) (walk_lstD (K := K) (a := D) (L := restL wy k l) (g := lotD)) nD4 (by omega) (fun H' e => Same.dp e dR3) ?_ gName_mono ?_⟩
    · rintro i lot y2 H4 H5 Nx hz e ⟨rfl, y⟩ kk
      have dlot := y lot hz
      obtain ⟨ak, rfl, hak⟩ := dp_lot dlot
      obtain ⟨v, hv, _⟩ := lot_lk (fun _ _ z => z.1) fb (rest_nd ok) (List.mem_of_getElem? hz)
      have e05 := same_trans e03 e
      refine ⟨rfl, _, rfl, _, rfl, x, CS, dx, _, _, rfl, e05 _ _ hxc, cl, na2, lk_fails, ak, d2, fk, lotD lot, rfl, rfl, dc2c.same e05, dlot, ok_lot _, ?_⟩
      rw [if_neg Bool.false_ne_true, hv]
      exact kk _ fun _ _ z => z
    intro H4 e4 hD4
    refine ⟨D4, _, rfl, hD4, _, rfl, ?_⟩
    rw [all_map, all_true]
    refine iteF ?_
    have e04 := same_trans e03 e4
    -- are_rows
    have dS4 := Same.dp e04 dS
    obtain ⟨_, s4, ep, hs4, _⟩ := dp_lst dS4
    cases ep
    refine ⟨_, rfl, la, rfl, ⟨_, hs4⟩, fun D5 nD5 => lc_bools (K := K) (L := someL wy k l) (p := fun _ => true) (walk_lstD (K := K) (a := la) (L := someL wy k l) (g := lotD)) nD5 (by omega) (fun H' e => Same.dp e dS4) ?_ gName_mono ?_⟩
    · rintro i lot y2 H5 H6 Nx hz e ⟨rfl, y⟩ kk
      have dlot := y lot hz
      obtain ⟨ak, rfl, hak⟩ := dp_lot dlot
      have e06 := same_trans e04 e
      refine ⟨rfl, _, rfl, _, rfl, _, rfl, v1, .ref ak, wy, lot, rfl, Same.dp e06 h1c, dlot, ok.lot.wl, fun H7 r e7 dr => ?_⟩
      have e07 := same_trans e06 e7
      obtain ⟨v, hv, _, ar, rs, ev, dr2, rok⟩ := lot_lk (fun _ _ z => z.1) (gac.ext e07) (some_nd ok) (List.mem_of_getElem? hz)
      obtain rfl : v = .ref ar := ev
      refine ⟨_, rfl, _, rfl, x, CS, dx, _, _, rfl, e07 _ _ hxc, cl, na, lk_good, _, rfl, ak, d1, gk, lotD lot, .ref ar, rfl, rfl, dc1c.same e07, Same.dp e7 dlot, ok_lot _, hv, ?_⟩
      exact ⟨v1, r, .ref ar, wy, leftOf wy lot, k, rs, rfl, Same.dp e07 h1c, dr, ok.lot.wl, Nat.le_trans (leftOf_len _ _) ok.lot.wl, dr2, rok, fun H8 e8 => kk _ (same_trans e7 e8)⟩
    intro H5 e5 hD5
    refine ⟨D5, _, rfl, hD5, _, rfl, ?_⟩
    rw [all_map, all_true]
    refine iteF ?_
    have e05 := same_trans e04 e5
    -- is_parting
    have dR5 := Same.dp (same_trans e4 e5) dR3
    obtain ⟨_, r5, ep, hr5, _⟩ := dp_lst dR5
    cases ep
    refine ⟨_, rfl, D, rfl, ⟨_, hr5⟩, fun D6 nD6 => lc_bools (K := K) (L := restL wy k l) (p := fun _ => true) (walk_lstD (K := K) (a := D) (L := restL wy k l) (g := lotD)) nD6 (by omega) (fun H' e => Same.dp e dR5) ?_ gName_mono ?_⟩
    · rintro i lot y2 H6 H7 Nx hz e ⟨rfl, y⟩ kk
      have dlot := y lot hz
      obtain ⟨ak, rfl, hak⟩ := dp_lot dlot
      have e06 := same_trans e05 e
      refine ⟨rfl, _, rfl, _, rfl, _, rfl, v1, .ref ak, wy, lot, rfl, Same.dp e06 h1c, dlot, ok.lot.wl, fun H8 r e7 dr => ?_⟩
      have e07 := same_trans e06 e7
      obtain ⟨v, hv, _, t, ev, hpt, htl⟩ := lot_lk (fun _ _ z => z.1) fb (rest_nd ok) (List.mem_of_getElem? hz)
      obtain rfl : v = .str (txS t) := ev
      refine ⟨_, rfl, _, rfl, x, CS, dx, _, _, rfl, e07 _ _ hxc, cl, na2, lk_fails, _, rfl, ak, d2, fk, lotD lot, _, rfl, rfl, dc2c.same e07, Same.dp e7 dlot, ok_lot _, hv, ?_⟩
      exact ⟨v1, r, wy, leftOf wy lot, k, t, rfl, Same.dp e07 h1c, dr, ok.lot.wl, Nat.le_trans (leftOf_len _ _) ok.lot.wl, htl, hpt, fun H9 e8 => kk _ (same_trans e7 e8)⟩
    intro H6 e6 hD6
    refine ⟨D6, _, rfl, hD6, ?_⟩
    rw [all_map, all_true]
    have eBf : Same B H6 := same_trans eab (same_trans e05 e6)
    exact q H6 (eB.trans (LamX.ExtN.of eBf)) (tB.ext eBf)
end
end TE

set_option Elab.async false
set_option linter.all false
set_option maxRecDepth 100000
set_option maxHeartbeats 4000000
/-! The law's own defs, one. -/
namespace TE
open PySem PySem.Spec PyProof.Rows L2 TM
section
variable {P : Program} {w : World} {K : PySem.W.Frag} {mg : Str → Option Value} {base : Heap} {f : Addr} {fd : FuncData}
theorem sc_greatest_lots : FnScope ["way", "offers", "kind"] ["way", "offers", "kind"] d_greatest_lots.scope := ⟨rfl, rfl, rfl, by decide +kernel, rfl, by decide +kernel, by decide +kernel⟩
def sp_greatest_lots (K : PySem.W.Frag) (T : List (Addr × Str)) : Sp := fun vs H Q _ => ∃ (v1 v2 : V) (wy : List Cv) (l : List Nat) (k : Kd), vs = [v1, v2, .str (kdS k)] ∧ Dp K H v1 (wayD wy) ∧ Dp K H v2 (lotD l) ∧ OffOk wy l ∧ LamX.Tabs T H ∧
  ∀ H' r, LamX.ExtN H H' → LamX.Tabs T H' → Dp K H' (.ref r) (lotsD (someL wy k l)) → Q (.ref r) H'
theorem ok_greatest_lots {T : List (Addr × Str)} {CS : Addr} (G : Glb K w mg) (cl : Cls K CS) (na : NoAttr K CS "good") (c1 : Cal P w K mg base 7 "spare" ["way", "offers", "kind"] (sp_spare K w T CS)) (F : FnP K d_greatest_lots f fd) : FnOk P w K mg base CX0 8 f fd ["way", "offers", "kind"] (sp_greatest_lots K T) := by
  refine F.ok sc_greatest_lots (fun vs H Q E h => ?_) (fun cdv A outer s H vs Q E hr h => ?_)
  · obtain ⟨v1, v2, wy, l, k, rfl, _⟩ := h
    rfl
  · obtain ⟨v1, v2, wy, l, k, rfl, h1, h2, ok, hT, q⟩ := h
    refine ⟨_, PSs.nox (pss_one (ps_ret (pe_callTy (c_dcList K (w := w) rfl) (by rfl) G.list b_list (pa_cons (p_fld K (pe_cal c1 hr (by decide) rfl (pa_cons (pv 0) (pa_cons (pv 1) (pa_cons (pv 2) pa_nil))))) pa_nil)))), ?_⟩
    refine ⟨_, rfl, _, rfl, _, rfl, v1, v2, wy, l, k, rfl, h1, h2, ok, hT, fun H1 x e1 t1 hsp => ?_⟩
    obtain ⟨dx, d1, d2, gk, fk, hx, dc1, ga, _, _⟩ := hsp
    refine ⟨x, CS, dx, _, _, rfl, hx, cl, na, lk_good, d1, gk, rfl, dc1, fun la xs nla dall => ?_⟩
    rw [paired_keys (fun _ _ z => z.1) ga] at dall
    have ea := same_new (o := HO.lst xs) nla
    exact q _ la (e1.trans (LamX.ExtN.of ea)) (t1.ext ea) (.lst (.inl (.inl upd_same)) dall)
theorem sc_law_left : FnScope ["way", "lot", "place", "word"] ["way", "lot"] d__law_left.scope := ⟨rfl, rfl, rfl, by decide +kernel, rfl, by decide +kernel, by decide +kernel⟩
theorem ok_law_left (G : Glb K w mg) (F : FnP K d__law_left f fd) : FnOk P w K mg base CX0 1 f fd ["way", "lot"] (sp_left_of K) := by
  refine F.ok sc_law_left (fun vs H Q E h => ?_) (fun cdv A outer s H vs Q E hr h => ?_)
  · obtain ⟨v1, v2, wy, l, rfl, _⟩ := h
    rfl
  · obtain ⟨v1, v2, wy, l, rfl, h1, h2, h6, q⟩ := h
    obtain ⟨a, rfl, ha⟩ := dp_way h1
    obtain ⟨la, rfl, hla⟩ := dp_lot h2
    refine ⟨_, PSs.nox (pss_one (ps_ret (pe_callTy call_tuple_of (by rfl) G.tuple b_tuple (pa_cons (pe_lc (own := [("place", 2), ("word", 3)]) (g := gTup K 2 (gCons (gName 2) (gCons (gName 3) gNil))) rfl sc_law_left.nd (pi_enumT (by rfl) G.enumerate (pa_cons (pv 0) pa_nil)) (blkOk_by (own := [("place", 2), ("word", 3)]) (N := ["way", "lot", "place", "word"]) (sc := d__law_left.scope) (by decide +kernel))
      (fun _ _ _ _ _ => pg_tup rfl (pgs_cons (pg_name (i := 2) sc_law_left.nd rfl (.inl rfl)) (pgs_cons (pg_name (i := 3) sc_law_left.nd rfl (.inl rfl)) pgs_nil))) (fun _ _ _ _ _ => pts_one (pt_cmpR (o_notin K) (pv 2) (pv 1) rfl)) (fun _ _ _ _ _ => pv 3)) pa_nil)))), ?_⟩
    refine ⟨_, rfl, a, _, rfl, ha, fun D nD => left_core (la := la) (wy := wy) (l := l) _ _ _ _ _ h6 ha nD ?_ fun H1 e1 hD => ?_⟩
    · intro i c T H1 Nx hc e hT hyes hno
      refine ⟨T, _, rfl, .inl (.inl hT), rfl, _, _, rfl, _, _, rfl, rfl, rfl, ?_⟩
      refine ⟨_, rfl, _, rfl, la, _, rfl, .inr (Same.tup e hla), rfl, flat_ints l, _, rfl, ?_⟩
      rw [if_pos rfl, in_ints]
      by_cases hm : i ∈ l
      · rw [decide_eq_true hm]
        exact iteF (hno hm)
      · rw [decide_eq_false hm]
        exact iteT ⟨_, rfl, hyes hm⟩
    · refine ⟨D, _, rfl, .inl ⟨.inl (.inl hD), fun p np => ?_⟩⟩
      exact q _ _ (same_trans e1 (same_new np)) (way_dp (.inl (.inl upd_same)))
theorem sc_law_in : FnScope ["one", "lot", "place"] ["one", "lot"] d__law_in.scope := ⟨rfl, rfl, rfl, by decide +kernel, rfl, by decide +kernel, by decide +kernel⟩
theorem ok_law_in (G : Glb K w mg) (F : FnP K d__law_in f fd) : FnOk P w K mg base CX0 1 f fd ["one", "lot"] (sp_is_within K) := by
  refine F.ok sc_law_in (fun vs H Q E h => ?_) (fun cdv A outer s H vs Q E hr h => ?_)
  · obtain ⟨v1, v2, l, m, rfl, _⟩ := h
    rfl
  · obtain ⟨v1, v2, l, m, rfl, h1, h2, hl, q⟩ := h
    have sl := sizeLine_eq
    obtain ⟨a, rfl, ha⟩ := dp_lot h1
    obtain ⟨b, rfl, hb⟩ := dp_lot h2
    refine ⟨_, PSs.nox (pss_one (ps_ret (pe_callB (c_all K rfl) (by rfl) G.all b_all (pa_cons (pe_lc (own := [("place", 2)]) (g := gName 2) (tt := tYes) rfl sc_law_in.nd (pi_tup (pv 0)) (blkOk_by (own := [("place", 2)]) (N := ["one", "lot", "place"]) (sc := d__law_in.scope) (by decide +kernel))
      (fun _ _ _ _ _ => pg_name (i := 2) sc_law_in.nd rfl (.inl rfl)) (fun _ _ _ _ _ => pts_nil) (fun _ _ _ _ _ => pe_cmpR (o_in K) (pv 2) (pv 1) rfl)) pa_nil)))), ?_⟩
    refine ⟨_, rfl, a, rfl, ⟨_, ha⟩, fun D nD => lc_bools (K := K) (L := l) (p := fun i => decide (i ∈ m)) (walk_tupD (g := fun n => .int (n : Nat))) nD (by omega) (fun H' e => Same.dp e h1) ?_ gName_mono ?_⟩
    · rintro i z x H1 H2 Nx hz e ⟨rfl, y⟩ kk
      obtain rfl := dp_int (y z hz)
      refine ⟨rfl, _, rfl, _, rfl, b, _, rfl, .inr (Same.tup e hb), rfl, flat_ints m, ?_⟩
      rw [if_neg Bool.false_ne_true, in_ints]
      exact kk _ fun _ _ z => z
    · intro H1 e1 hD
      refine ⟨D, _, rfl, hD, ?_⟩
      rw [all_map]
      exact q _ e1
theorem sc_law_lots : FnScope ["offers", "found", "place", "lot"] ["offers"] d__law_lots.scope := ⟨rfl, rfl, rfl, by decide +kernel, rfl, by decide +kernel, by decide +kernel⟩
theorem cat_ints (a b : List Nat) : (a.map fun n => V.int (n : Nat)) ++ (b.map fun n => V.int (n : Nat)) = (a ++ b).map fun n => V.int (n : Nat) := by rw [List.map_append]
theorem ok_law_lots {T : List (Addr × Str)} {c Pt : Addr} (G : Glb K w mg) (TB : LamX.TabB base mg c Pt) (hcode : fd.code = .ref c) (hm : (Pt, ("_law_lots" ++ ".<locals>." : Str) ++ "<lambda>") ∈ T) (hu : ∀ p ∈ T, p.1 = Pt → p.2 = ("_law_lots" ++ ".<locals>." : Str) ++ "<lambda>") (F : FnP K d__law_lots f fd) :
    FnOk P w K mg base CX0 4 f fd ["offers"] (sp_lots_of K T) := by
  refine fun_okC F sc_law_lots (fun vs H Q E h => ?_) (fun A outer s H vs Q E hr h => ?_)
  · obtain ⟨v, l, rfl, _⟩ := h
    rfl
  · obtain ⟨v, l, rfl, h1, hl, hT, q⟩ := h
    have sl := sizeLine_eq
    obtain ⟨oa, rfl, hoa⟩ := dp_lot h1
    refine ⟨_, PSs.nox (pss_cons (ps_set (i := 1) sc_law_lots.nd rfl (.inl rfl) (pe_lst (pa_cons (pe_tup pa_nil) pa_nil)))
      (pss_cons (ps_for PassesOwn.never rfl (pi_tup (pv 0)) (pg_name (i := 2) sc_law_lots.nd rfl (.inr rfl))
        (pss_one (ps_set (i := 1) sc_law_lots.nd rfl (.inl rfl) (pe_op op_cat (pv 1) (pe_lc (own := [("lot", 3)]) (g := gName 3) (tt := tYes) rfl sc_law_lots.nd (pi_list (pv 1)) (blkOk_by (own := [("lot", 3)]) (N := ["offers", "found", "place", "lot"]) (sc := d__law_lots.scope) (by decide +kernel))
          (fun _ _ _ _ _ => pg_name (i := 3) sc_law_lots.nd rfl (.inl rfl)) (fun _ _ _ _ _ => pts_nil) (fun _ _ _ _ _ => pe_op (o_catA K) (pv 3) (pe_tup (pa_cons (pv 2) pa_nil))))))))
      (pss_one (ps_ret (pe_sortLots (T := T) (c := c) (P := Pt) hr TB hcode hm hu (by rfl) G.sorted G.len rfl (fun _ _ _ _ _ => rfl) rfl (by decide +kernel) rfl rfl (by decide +kernel) rfl rfl rfl (pv 1)))))), ?_⟩
    refine ⟨Nat.zero_le _, fun e0 ne0 => ⟨by show 1 ≤ sizeLine; decide, fun f0 nf0 => ?_⟩⟩
    have s1 := same_new (o := HO.tup []) ne0
    have s2 := same_new (o := HO.lst [.ref e0]) nf0
    refine ⟨_, rfl, oa, rfl, ⟨_, Same.tup (same_trans s1 s2) hoa⟩, for_it (walk_tupD (K := K) (a := oa) (L := l) (g := fun n => .int (n : Nat))) (fun i σ H' => ∃ (fa : Addr) (vs1 : List V) (v2 v3 : Option V), Same H H' ∧ H' fa = some (.lst vs1) ∧ DpAll K H' vs1 ((subs (l.take i)).map lotD) ∧ σ = [some (.ref oa), some (.ref fa), v2, v3])
      ⟨f0, _, none, none, same_trans s1 s2, upd_same, .cons (lot_dp (l := []) (.inl (.inl (s2 _ _ upd_same)))) .nil, rfl⟩ (fun i σ H' _ ⟨_, _, _, _, e, _⟩ => Same.dp e h1) ?_ ?_⟩
    · rintro i x σ H1 H2 hi ⟨fa, vs1, v2, v3, e1, hfa, dfa, rfl⟩ ⟨rfl, y⟩
      have hz : l[i]? = some l[i] := List.getElem?_eq_getElem hi
      obtain rfl := dp_int (y _ hz)
      have d1 : Dp K H2 (.ref fa) (lotsD (subs (l.take i))) := .lst (.inl (.inl hfa)) dfa
      have hfl : (subs (l.take i)).length ≤ 16 := by
        rw [subs_len]
        exact Nat.le_trans (Nat.pow_le_pow_right (by decide) (by rw [List.length_take]; omega : (l.take i).length ≤ 4)) (by decide)
      refine ⟨_, rfl, ?_⟩
      refine ⟨_, rfl, fa, rfl, ⟨_, .inl (.inl hfa)⟩, fun D nD => lc_data (K := K) (L := subs (l.take i)) (f := fun lot => lotD (lot ++ [l[i]])) (sel := fun _ => true) (walk_lstD (K := K) (a := fa) (L := subs (l.take i)) (g := lotD)) nD (fun _ => flt_lot _) (by omega) (fun H' e => Same.dp e d1) ?_ ?_⟩
      · rintro j lot x H3 H4 Nx hj e ⟨rfl, y3⟩ hyes hno
        obtain ⟨la, rfl, hla⟩ := dp_lot (y3 lot hj)
        have hl6 : lot.length ≤ 4 := by
          have := subs_el lot (List.mem_of_getElem? hj)
          rw [List.length_take] at this
          omega
        refine ⟨rfl, _, rfl, _, rfl, by show 1 ≤ sizeLine; decide, fun p1 np1 => ?_⟩
        have e1' := same_new (o := HO.tup [.int (l[i] : Nat)]) np1
        refine ⟨la, p1, lot.map fun n => V.int (n : Nat), [l[i]].map fun n => V.int (n : Nat), rfl, rfl, Same.tup e1' hla, .inl (.inl upd_same), by rw [List.length_map]; show lot.length + 1 ≤ _; omega, fun hx => ?_, fun _ hy => (by cases hy), fun _ _ p np => ?_⟩
        · have hx2 : lot = [] := by
            cases lot with
            | nil => rfl
            | cons a b => cases hx
          subst hx2
          exact hyes rfl _ _ e1' (lot_dp (l := [l[i]]) (.inl (.inl upd_same)))
        · refine hyes rfl _ _ (same_trans e1' (same_new np)) (lot_dp (.inl (.inl ?_)))
          rw [upd_same, cat_ints]
      · intro H3 ys e hD dall
        have elen := dpAll_len dall
        have elen1 := dpAll_len dfa
        rw [List.length_map] at elen1
        have e2 : ((subs (l.take i)).filter fun _ => true).map (fun lot => lotD (lot ++ [l[i]])) = ((subs (l.take i)).map (· ++ [l[i]])).map lotD := by
          rw [List.filter_eq_self.mpr fun _ _ => rfl, List.map_map]
          rfl
        rw [e2] at dall elen
        rw [List.length_map, List.length_map] at elen
        refine ⟨fa, D, vs1, ys, rfl, rfl, e _ _ hfa, hD, by omega, fun p np => ?_⟩
        refine ⟨p, _, _, _, same_trans e1 (same_trans e (same_new np)), upd_same, ?_, rfl⟩
        rw [subs_take hz, List.map_append]
        exact Same.dpAll (same_new np) (dpAll_app (Same.dpAll e dfa) dall)
    · rintro σ H1 ⟨fa, vs1, v2, v3, e1, hfa, d1, rfl⟩
      rw [List.take_length] at d1
      have hT1 : LamX.Tabs T H1 := hT.ext e1
      refine ⟨_, rfl, subs l, .lst (.inl (.inl hfa)) d1, ?_, hT1, fun H2 p e2 hT2 ⟨vs2, hp, dp⟩ => q H2 p (fun b o z n => e2 b o (e1 b o z) n) hT2 (.lst (.inl (.inl hp)) dp)⟩
      rw [subs_len]
      exact Nat.le_trans (Nat.pow_le_pow_right (by decide) hl : 2 ^ l.length ≤ 2 ^ 4) (by decide)
end
end TE

set_option Elab.async false
set_option linter.all false
set_option maxRecDepth 100000
set_option maxHeartbeats 4000000
/-! The law's own defs, two: what is drawn. -/
namespace TE
open PySem PySem.Spec PyProof.Rows L2 TM
def intsD (ns : List Int) : PyData := .list (ns.map .int)
section
variable {K : PySem.W.Frag} {H H' : Hp}
theorem ints_dp (ns : List Int) : DpAll K H (ns.map V.int) (ns.map PyData.int) := by
  induction ns with
  | nil => exact .nil
  | cons a l ih => exact .cons (.int a) ih
theorem sh_ints (ns : List Int) : SeqAt.shaped (intsD ns) = true := shaped_of (by
  show PyData.canLay0 (.list _) = true
  simp only [PyData.canLay0]
  exact lay_map (fun _ => by simp [PyData.canLay0]) ns) (by
  have := deps_map (f := PyData.int) (n := 1) (fun _ => by simp [PyData.depth]) ns
  show PyData.depth (.list _) ≤ 64
  simp only [PyData.depth]
  omega)
theorem cut63 {xs : List V} (h : xs.length ≤ 63) : cutV xs none (some 63) = xs := by
  unfold cutV
  have e : HT.sIx xs.length xs.length (some ((63 : Nat) : Int)) = min 63 xs.length := HT.sIx_nat _ _ _
  have e' : HT.sIx xs.length xs.length (some (63 : Int)) = min 63 xs.length := e
  rw [e', HT.sIx_none, List.drop_zero]
  exact List.take_of_length_le (by omega)
theorem fmod_nat {n : Int} {m : Nat} (h : 0 < m) : ∃ j : Nat, n.fmod (m : Int) = (j : Int) ∧ j < m := by
  have h1 := Int.fmod_nonneg_of_pos n (b := (m : Int)) (by omega)
  have h2 := Int.fmod_lt_of_pos n (b := (m : Int)) (by omega)
  exact ⟨(n.fmod (m : Int)).toNat, by omega, by omega⟩
end
section
variable {P : Program} {w : World} {K : PySem.W.Frag} {mg : Str → Option Value} {base : Heap} {f : Addr} {fd : FuncData}
theorem sc_law_number : FnScope ["script", "index", "cells", "cell", "low", "high", "total", "blend"] ["script", "index"] d__law_number.scope := ⟨rfl, rfl, rfl, by decide +kernel, rfl, by decide +kernel, by decide +kernel⟩
def sp_law_number (K : PySem.W.Frag) : Sp := fun vs H Q _ => ∃ (sa : Addr) (ns : List Int) (n : Int), vs = [.ref sa, .int n] ∧ SqL K H sa (ns.map V.int) ∧ ns.length ≤ 63 ∧ ∀ H' (r : Int), Same H H' → Q (.int r) H'
theorem ok_law_number (G : Glb K w mg) (F : FnP K d__law_number f fd) : FnOk P w K mg base CX0 1 f fd ["script", "index"] (sp_law_number K) := by
  refine F.ok sc_law_number (fun vs H Q E h => ?_) (fun cdv A outer s H vs Q E hr h => ?_)
  · obtain ⟨sa, ns, n, rfl, _⟩ := h
    rfl
  · obtain ⟨sa, ns, n, rfl, hs, hl, q⟩ := h
    have sl := sizeLine_eq
    have hu := hr.units
    refine ⟨_, PSs.nox (pss_cons (ps_set (i := 2) sc_law_number.nd rfl (.inl rfl) (pe_ifExp (pt_cmpR (o_neD K hu) (pv 0) (pe_lst pa_nil) (nomark _)) (pe_slice sl_list (pv 0) po_none (po_some pe_int)) (pe_lst (pa_cons pe_int pa_nil))))
      (pss_cons (ps_set (i := 3) sc_law_number.nd rfl (.inl rfl) (pe_op op_add (pe_ix (x_lst K) (pv 2) (pe_op op_modN (pe_callTy call_int1 (by rfl) G.int b_int (pa_cons (pv 1) pa_nil)) (pe_callB (c_len K) (by rfl) G.len b_len (pa_cons (pv 2) pa_nil))) (fun _ _ => rfl)) (pe_op op_mul pe_int (pe_op op_fdivN (pv 1) (pe_callB (c_len K) (by rfl) G.len b_len (pa_cons (pv 2) pa_nil))))))
      (pss_cons (ps_par (i := 4) (j := 5) (by rfl) sc_law_number.nd rfl rfl (by decide) rfl rfl (pa_cons (pe_op op_modN (pe_callTy call_int1 (by rfl) G.int b_int (pa_cons (pv 3) pa_nil)) pe_int) (pa_cons (pe_op op_modN (pe_callTy call_int1 (by rfl) G.int b_int (pa_cons (pe_op op_fdivN (pv 3) pe_int) pa_nil)) pe_int) pa_nil)) (by rfl))
      (pss_cons (ps_set (i := 6) sc_law_number.nd rfl (.inl rfl) (pe_op op_modN (pe_callTy call_int1 (by rfl) G.int b_int (pa_cons (pe_callB (cr_sum rfl) (by rfl) G.sum b_sum (pa_cons (pv 2) pa_nil)) pa_nil)) pe_int))
      (pss_cons (ps_set (i := 7) sc_law_number.nd rfl (.inl rfl) (pe_op op_modN (pe_callTy call_int1 (by rfl) G.int b_int (pa_cons (pe_op op_add (pe_op op_add (pe_op op_mul (pe_op op_add (pv 4) (pe_op op_mul pe_int (pv 1))) pe_int) (pe_op op_mul pe_int (pv 5))) (pv 6)) pa_nil)) pe_int))
      (pss_one (ps_ret (pe_op op_add (pe_op op_mul (pe_op op_modN (pe_callTy call_int1 (by rfl) G.int b_int (pa_cons (pe_op op_mul (pv 7) (pe_op op_add (pe_op op_add (pv 7) (pe_op op_mul pe_int (pv 1))) pe_int)) pa_nil)) pe_int) pe_int) (pv 5))))))))), ?_⟩
    have dS : Dp K H (.ref sa) (intsD ns) := .lst hs (ints_dp ns)
    refine ⟨_, rfl, Nat.zero_le _, fun p0 np0 => ?_⟩
    have e0 := same_new (o := HO.lst []) np0
    refine ⟨_, _, Same.dp e0 dS, .lst (.inl (.inl upd_same)) .nil, sh_ints ns, by decide, _, rfl, ?_⟩
    have hs0 := e0.seq hs
    generalize upd H p0 (.lst []) = H1 at *
    refine ite_dec (fun hb => ?_) (fun hb => ?_)
    refine ⟨_, rfl, 63, rfl, sa, _, rfl, hs0, fun p np => ?_⟩
    rw [cut63 (by rw [List.length_map]; exact hl)]
    obtain ⟨ms, hms⟩ : ∃ ms : List Int, ms = ns := ⟨ns, rfl⟩
    rw [← hms]
    have hne : 0 < ms.length := by
      rw [hms]
      cases ns with
      | nil => simp [PyData.eqv, intsD, PyData.eqvAll] at hb
      | cons a b => exact Nat.succ_pos _
    have hlm : ms.length ≤ 63 := by rw [hms]; exact hl
    rotate_left
    refine ⟨by show 1 ≤ sizeLine; decide, fun p np => ?_⟩
    have e5 : [V.int 5] = ([5] : List Int).map V.int := rfl
    obtain ⟨ms, hms⟩ : ∃ ms : List Int, ms = [5] := ⟨[5], rfl⟩
    rw [e5, ← hms]
    have hne : 0 < ms.length := by rw [hms]; exact Nat.one_pos
    have hlm : ms.length ≤ 63 := by rw [hms]; decide
    all_goals
      have hc : SqL K (upd H1 p (.lst (ms.map V.int))) p (ms.map V.int) := .inl (.inl upd_same)
      have e2 := same_trans e0 (same_new (o := HO.lst (ms.map V.int)) np)
      generalize upd H1 p (.lst (ms.map V.int)) = H2 at *
      obtain ⟨j, ej, hj⟩ := fmod_nat (n := n) hne
      have hlen : (ms.map V.int).length = ms.length := List.length_map _
      refine ⟨_, rfl, _, rfl, .inl ⟨n, rfl, _, rfl, p, _, rfl, .inl hc, _, _, rfl, rfl, ?_, p, _, _, V.int ms[j], rfl, rfl, hc, ?_, ?_⟩⟩
      · rw [hlen]
        omega
      · rw [hlen, ej]
        exact atI_nat (by rw [List.getElem?_map, List.getElem?_eq_getElem hj]; rfl)
      refine ⟨_, rfl, _, rfl, p, _, rfl, .inl hc, _, _, rfl, rfl, ⟨?_, ?_⟩, _, _, rfl, rfl, .inl ⟨by decide, by decide⟩, _, _, rfl, rfl, ?_⟩
      · rw [hlen]
        omega
      · rw [hlen]
        omega
      -- low, high
      refine ⟨_, rfl, .inl ⟨_, rfl, _, _, rfl, rfl, (by decide : (1000003 : Int) ≠ 0), ?_⟩⟩
      refine ⟨_, rfl, _, _, rfl, rfl, ⟨by decide, by decide⟩, .inl ⟨_, rfl, _, _, rfl, rfl, (by decide : (999983 : Int) ≠ 0), _, _, rfl, ?_⟩⟩
      -- total
      refine ⟨_, rfl, p, ms, rfl, hc, .inl ⟨_, rfl, _, _, rfl, rfl, (by decide : (65521 : Int) ≠ 0), ?_⟩⟩
      -- blend
      refine ⟨_, rfl, _, rfl, _, _, rfl, rfl, .inl ⟨by decide, by decide⟩, _, _, rfl, rfl, _, _, rfl, rfl, .inr ⟨by decide, by decide⟩, _, rfl, _, _, rfl, rfl, .inl ⟨by decide, by decide⟩, _, _, rfl, rfl, _, rfl, _, _, rfl, rfl, .inl ⟨_, rfl, _, _, rfl, rfl, (by decide : (2147483647 : Int) ≠ 0), ?_⟩⟩
      refine ⟨_, rfl, _, rfl, _, rfl, _, _, rfl, rfl, .inl ⟨by decide, by decide⟩, _, _, rfl, rfl, _, _, rfl, rfl, _, _, rfl, rfl, .inl ⟨?_, ?_⟩, .inl ⟨_, rfl, _, _, rfl, rfl, (by decide : (2147483629 : Int) ≠ 0), _, _, rfl, rfl, .inr ⟨by decide, by decide⟩, _, rfl, _, _, rfl, rfl, q _ _ e2⟩⟩
      · exact Int.lt_of_lt_of_le (by decide) (Int.fmod_nonneg_of_pos _ (by decide))
      · exact Int.lt_trans (Int.fmod_lt_of_pos _ (by decide)) (by decide)
end
end TE

set_option Elab.async false
set_option linter.all false
set_option maxRecDepth 100000
set_option maxHeartbeats 4000000
/-! The law's own defs, three: ways and offers drawn. -/
namespace TE
open PySem PySem.Spec PyProof.Rows L2 TM
/-- the drawing list -/
structure DrawS (K : PySem.W.Frag) (ns : List Int) (da sa : Addr) (H : Hp) : Prop where
  at_ : ∃ n : Int, H da = some (.lst [.ref sa, .int n])
  sc : SqL K H sa (ns.map V.int)
  len : ns.length ≤ 63
def DrawTo (da : Addr) (H H' : Hp) : Prop := ∀ b o, b ≠ da → H b = some o → H' b = some o
theorem DrawTo.trans {da : Addr} {H H' H'' : Hp} (a : DrawTo da H H') (b : DrawTo da H' H'') : DrawTo da H H'' := fun c o n z => b c o n (a c o n z)
theorem DrawTo.of {da : Addr} {H H' : Hp} (e : Same H H') : DrawTo da H H' := fun c o _ z => e c o z
section
variable {K : PySem.W.Frag} {H H' : Hp} {ns : List Int} {da sa : Addr}
theorem DrawS.seq (d : DrawS K ns da sa H) (t : DrawTo da H H') : SqL K H' sa (ns.map V.int) := by
  obtain ⟨n, hn⟩ := d.at_
  rcases d.sc with (h | ⟨o, h⟩) | h
  · refine .inl (.inl (t _ _ (fun z => ?_) h))
    rw [z, hn] at h
    have e := Option.some.inj h
    injection e with e
    cases ns with
    | nil => cases e
    | cons a b =>
      rw [List.map_cons] at e
      injection e with e _
      cases e
  · refine .inl (.inr ⟨o, t _ _ (fun z => ?_) h⟩)
    rw [z, hn] at h
    cases Option.some.inj h
  · exact .inr h
theorem DrawS.ext (d : DrawS K ns da sa H) (e : Same H H') : DrawS K ns da sa H' :=
  let ⟨n, hn⟩ := d.at_
  ⟨⟨n, e _ _ hn⟩, e.seq d.sc, d.len⟩
/-- data without the drawing list -/
theorem tup_to {a : Addr} {xs : List V} (hd : ∃ ys, H da = some (.lst ys)) (t : DrawTo da H H') (h : SqT K H a xs) : SqT K H' a xs := by
  obtain ⟨ys, hd⟩ := hd
  rcases h with (h | ⟨o, h⟩) | h
  · exact .inl (.inl (t _ _ (fun z => by rw [z, hd] at h; cases h) h))
  · exact .inl (.inr ⟨o, t _ _ (fun z => by rw [z, hd] at h; cases h) h⟩)
  · exact .inr h
theorem dp_to {v : V} {d : PyData} (hd : ∃ ys, H da = some (.lst ys)) (t : DrawTo da H H') (f : flt d = true) (h : Dp K H v d) : Dp K H' v d := dp_keep (fun _ _ q => tup_to hd t q) d v f h
theorem DrawS.lst (d : DrawS K ns da sa H) : ∃ ys, H da = some (.lst ys) := let ⟨_, hn⟩ := d.at_; ⟨_, hn⟩
end
section
variable {P : Program} {w : World} {K : PySem.W.Frag} {mg : Str → Option Value} {base : Heap} {f : Addr} {fd : FuncData}
theorem sc_law_take : FnScope ["draw", "many"] ["draw", "many"] d__law_take.scope := ⟨rfl, rfl, rfl, by decide +kernel, rfl, by decide +kernel, by decide +kernel⟩
def sp_law_take (K : PySem.W.Frag) : Sp := fun vs H Q _ => ∃ (da sa : Addr) (ns : List Int) (many : Nat), vs = [.ref da, .int (many : Nat)] ∧ DrawS K ns da sa H ∧ 0 < many ∧ ∀ H' (r : Nat), r < many → DrawTo da H H' → DrawS K ns da sa H' → Q (.int (r : Nat)) H'
theorem ok_law_take (G : Glb K w mg) (c1 : Cal P w K mg base 1 "_law_number" ["script", "index"] (sp_law_number K)) (F : FnP K d__law_take f fd) : FnOk P w K mg base CX0 2 f fd ["draw", "many"] (sp_law_take K) := by
  refine F.ok sc_law_take (fun vs H Q E h => ?_) (fun cdv A outer s H vs Q E hr h => ?_)
  · obtain ⟨da, sa, ns, many, rfl, _⟩ := h
    rfl
  · obtain ⟨da, sa, ns, many, rfl, ds, hm, q⟩ := h
    refine ⟨_, PSs.nox (pss_cons (ps_asg (pe_op op_add (pe_ix (x_lst K) (pv 0) pe_int (fun _ _ => rfl)) pe_int) (pg_sub (pv 0) pe_int set_list))
      (pss_one (ps_ret (pe_op op_modN (pe_callTy call_int1 (by rfl) G.int b_int (pa_cons (pe_cal c1 hr (by decide) rfl (pa_cons (pe_ix (x_lst K) (pv 0) pe_int (fun _ _ => rfl)) (pa_cons (pe_callTy call_int1 (by rfl) G.int b_int (pa_cons (pe_ix (x_lst K) (pv 0) pe_int (fun _ _ => rfl)) pa_nil)) pa_nil))) pa_nil)) (pv 1))))), ?_⟩
    obtain ⟨n, hn⟩ := ds.at_
    refine ⟨_, rfl, da, _, 1, _, rfl, rfl, .inl (.inl hn), rfl, _, _, rfl, rfl, _, rfl, da, _, 1, 1, rfl, rfl, hn, rfl, ?_⟩
    have t1 : DrawTo da H (upd H da (.lst ([V.ref sa, .int n].set 1 (.int (n + 1))))) := fun b o hb z => (upd_ne hb).trans z
    have hs1 := ds.seq t1
    have hn1 : (upd H da (.lst ([V.ref sa, .int n].set 1 (.int (n + 1))))) da = some (.lst [V.ref sa, .int (n + 1)]) := upd_same
    generalize upd H da (.lst ([V.ref sa, .int n].set 1 (.int (n + 1)))) = H1 at *
    refine ⟨_, rfl, da, _, 0, _, rfl, rfl, .inl (.inl hn1), rfl, _, rfl, da, _, 1, _, rfl, rfl, .inl (.inl hn1), rfl, .inl ⟨_, rfl, sa, ns, _, rfl, hs1, ds.len, fun H2 r e2 => .inl ⟨_, rfl, _, rfl, _, _, rfl, rfl, ?_, ?_⟩⟩⟩
    · show ((many : Nat) : Int) ≠ 0
      omega
    · obtain ⟨j, ej, hj⟩ := fmod_nat (n := r) hm
      show Q (.int (r.fmod ((many : Nat) : Int))) H2
      rw [ej]
      exact q H2 j hj (t1.trans (DrawTo.of e2)) ⟨⟨_, e2 _ _ hn1⟩, e2.seq hs1, ds.len⟩
theorem sc_law_pick : FnScope ["draw", "things"] ["draw", "things"] d__law_pick.scope := ⟨rfl, rfl, rfl, by decide +kernel, rfl, by decide +kernel, by decide +kernel⟩
def sp_law_pick (K : PySem.W.Frag) : Sp := fun vs H Q _ => ∃ (da sa : Addr) (ns : List Int) (ta : Addr) (xs : List V), vs = [.ref da, .ref ta] ∧ DrawS K ns da sa H ∧ H ta = some (.lst xs) ∧ 0 < xs.length ∧ ta ≠ da ∧ ∀ H' v, v ∈ xs → DrawTo da H H' → DrawS K ns da sa H' → Q v H'
theorem ok_law_pick (G : Glb K w mg) (c1 : Cal P w K mg base 2 "_law_take" ["draw", "many"] (sp_law_take K)) (F : FnP K d__law_pick f fd) : FnOk P w K mg base CX0 3 f fd ["draw", "things"] (sp_law_pick K) := by
  refine F.ok sc_law_pick (fun vs H Q E h => ?_) (fun cdv A outer s H vs Q E hr h => ?_)
  · obtain ⟨da, sa, ns, ta, xs, rfl, _⟩ := h
    rfl
  · obtain ⟨da, sa, ns, ta, xs, rfl, ds, ht, hx, hne, q⟩ := h
    refine ⟨_, PSs.nox (pss_one (ps_ret (pe_ix (x_lst K) (pv 1) (pe_cal c1 hr (by decide) rfl (pa_cons (pv 0) (pa_cons (pe_callB (c_len K) (by rfl) G.len b_len (pa_cons (pv 1) pa_nil)) pa_nil))) (fun _ _ => rfl)))), ?_⟩
    refine ⟨_, rfl, _, rfl, _, rfl, ta, xs, rfl, .inl (.inl (.inl ht)), da, sa, ns, xs.length, rfl, ds, hx, fun H1 r hr1 t1 ds1 => ?_⟩
    exact ⟨ta, xs, r, xs[r], rfl, rfl, .inl (.inl (t1 _ _ hne ht)), atI_nat (List.getElem?_eq_getElem hr1), q H1 _ (List.getElem_mem hr1) t1 ds1⟩
theorem sc_law_way : FnScope ["draw", "most", "words", "place"] ["draw", "most"] d__law_way.scope := ⟨rfl, rfl, rfl, by decide +kernel, rfl, by decide +kernel, by decide +kernel⟩
def sp_law_way (K : PySem.W.Frag) : Sp := fun vs H Q _ => ∃ (da sa : Addr) (ns : List Int) (most : Nat), vs = [.ref da, .int (most : Nat)] ∧ DrawS K ns da sa H ∧ most ≤ 6 ∧ ∀ H' r (wy : List Cv), wy.length ≤ most → DrawTo da H H' → DrawS K ns da sa H' → Dp K H' r (wayD wy) → Q r H'
theorem words_cv {v : V} (h : v ∈ [V.str "all", .str "both", .str "care", .str "lone", .str "lones", .str "pairs"] ++ [V.str "pairs", .str "care"]) : ∃ c : Cv, v = .str (cvS c) := by
  simp only [List.cons_append, List.nil_append, List.mem_cons, List.not_mem_nil, or_false] at h
  rcases h with h | h | h | h | h | h | h | h
  · exact ⟨.all, h⟩
  · exact ⟨.both, h⟩
  · exact ⟨.care, h⟩
  · exact ⟨.lone, h⟩
  · exact ⟨.lones, h⟩
  · exact ⟨.pairs, h⟩
  · exact ⟨.pairs, h⟩
  · exact ⟨.care, h⟩
theorem ok_law_way (G : Glb K w mg) (c1 : Cal P w K mg base 2 "_law_take" ["draw", "many"] (sp_law_take K)) (c2 : Cal P w K mg base 3 "_law_pick" ["draw", "things"] (sp_law_pick K)) (F : FnP K d__law_way f fd) : FnOk P w K mg base CX0 4 f fd ["draw", "most"] (sp_law_way K) := by
  refine F.ok sc_law_way (fun vs H Q E h => ?_) (fun cdv A outer s H vs Q E hr h => ?_)
  · obtain ⟨da, sa, ns, most, rfl, _⟩ := h
    rfl
  · obtain ⟨da, sa, ns, most, rfl, ds, hm, q⟩ := h
    have sl := sizeLine_eq
    refine ⟨_, PSs.nox (pss_cons (ps_set (i := 2) sc_law_way.nd rfl (.inr rfl) (pe_lst (pa_cons pe_str (pa_cons pe_str (pa_cons pe_str (pa_cons pe_str (pa_cons pe_str (pa_cons pe_str pa_nil))))))))
      (pss_one (ps_ret (pe_callTy call_tuple_of (by rfl) G.tuple b_tuple (pa_cons (pe_lc (own := [("place", 3)]) (g := gName 3) (tt := tYes) rfl sc_law_way.nd (pi_range1 (by rfl) G.range (pa_cons (pe_cal c1 hr (by decide) rfl (pa_cons (pv 0) (pa_cons (pe_op op_add (pv 1) pe_int) pa_nil))) pa_nil)) (blkOk_by (own := [("place", 3)]) (N := ["draw", "most", "words", "place"]) (sc := d__law_way.scope) (by decide +kernel))
        (fun _ _ _ _ _ => pg_name (i := 3) sc_law_way.nd rfl (.inl rfl)) (fun _ _ _ _ _ => pts_nil) (fun _ _ _ _ _ => pe_cal c2 hr (by decide) rfl (pa_cons (pv 0) (pa_cons (pe_op op_cat (pv 2) (pe_lst (pa_cons pe_str (pa_cons pe_str pa_nil)))) pa_nil)))) pa_nil))))), ?_⟩
    refine ⟨by show 6 ≤ sizeLine; decide, fun wa nwa => ?_⟩
    have e1 := same_new (o := HO.lst [V.str "all", .str "both", .str "care", .str "lone", .str "lones", .str "pairs"]) nwa
    have hwa : (upd H wa (.lst [V.str "all", .str "both", .str "care", .str "lone", .str "lones", .str "pairs"])) wa = some (.lst [V.str "all", .str "both", .str "care", .str "lone", .str "lones", .str "pairs"]) := upd_same
    have ds1 := ds.ext e1
    have hwd : wa ≠ da := fun z => by
      obtain ⟨n, hn⟩ := ds.at_
      rw [z, hn] at nwa
      cases nwa
    generalize upd H wa (.lst [V.str "all", .str "both", .str "care", .str "lone", .str "lones", .str "pairs"]) = H1 at *
    refine ⟨_, rfl, _, rfl, _, _, rfl, rfl, da, sa, ns, most + 1, rfl, ds1, Nat.succ_pos _, fun H2 r hr2 t2 ds2 => ?_⟩
    refine ⟨_, rfl, by omega, by omega, fun D nD => ?_⟩
    have hDd : D ≠ da := fun z => by
      obtain ⟨n, hn⟩ := ds2.at_
      rw [z, hn] at nD
      cases nD
    have hDw : D ≠ wa := fun z => by
      rw [z, t2 _ _ hwd hwa] at nD
      cases nD
    have eT : ((r : Nat) : Int).toNat = r := rfl
    rw [eT]
    refine lc_it (walk_range (lo := 0) (n := r)) (fun i H' => DrawTo da H2 H' ∧ DrawS K ns da sa H' ∧ ∃ ws : List Cv, ws.length = i ∧ H' D = some (.lst (ws.map fun c => V.str (cvS c)))) ⟨DrawTo.of (same_new nD), ds2.ext (same_new nD), [], rfl, upd_same⟩ (fun _ _ _ _ => True.intro) ?_ ?_
    · rintro i x H3 H4 hi ⟨t3, ds3, ws, hws, hD3⟩ ⟨rfl, rfl⟩
      refine ⟨rfl, ?_⟩
      have hwa3 := t3 _ _ hwd (t2 _ _ hwd hwa)
      refine ⟨_, rfl, _, rfl, by show 2 ≤ sizeLine; decide, fun l2 nl2 => ?_⟩
      have e4 := same_new (o := HO.lst [V.str "pairs", .str "care"]) nl2
      refine ⟨wa, l2, _, _, rfl, rfl, e4 _ _ hwa3, upd_same, by show 8 ≤ sizeLine; decide, fun l3 nl3 => ?_⟩
      have e5 := same_new (o := HO.lst ([V.str "all", .str "both", .str "care", .str "lone", .str "lones", .str "pairs"] ++ [V.str "pairs", .str "care"])) nl3
      have e45 := same_trans e4 e5
      have ds5 := ds3.ext e45
      refine ⟨da, sa, ns, l3, _, rfl, ds5, upd_same, by show 0 < 8; decide, ?_, fun H6 v hv t6 ds6 => ?_⟩
      · intro z
        obtain ⟨n, hn⟩ := (ds3.ext e4).at_
        rw [z, hn] at nl3
        cases nl3
      · obtain ⟨c, rfl⟩ := words_cv hv
        have t36 := (DrawTo.of e45).trans t6
        have hD6 := t36 _ _ hDd hD3
        have tN : DrawTo da H2 (upd H6 D (.lst (ws.map (fun c => V.str (cvS c)) ++ [V.str (cvS c)]))) := fun b o hb z => (upd_ne (ne_of_none z nD)).trans ((t3.trans t36) b o hb z)
        obtain ⟨n6, hn6⟩ := ds6.at_
        refine ⟨_, hD6, by rw [List.length_map]; omega, tN, ⟨⟨n6, (upd_ne hDd.symm).trans hn6⟩, ds2.seq tN, ds2.len⟩, ws ++ [c], by rw [List.length_append, hws]; rfl, ?_⟩
        rw [upd_same, List.map_append]
        rfl
    · rintro H3 ⟨t3, ds3, ws, hws, hD3⟩
      refine ⟨D, _, rfl, .inl ⟨.inl (.inl hD3), fun p np => ?_⟩⟩
      have e4 := same_new (o := HO.tup (ws.map fun c => V.str (cvS c))) np
      refine q _ _ ws (by omega) (((DrawTo.of e1).trans (t2.trans t3)).trans (DrawTo.of e4)) (ds3.ext e4) (way_dp (.inl (.inl upd_same)))
theorem sc_law_offers : FnScope ["draw", "way", "every", "turn"] ["draw", "way"] d__law_offers.scope := ⟨rfl, rfl, rfl, by decide +kernel, rfl, by decide +kernel, by decide +kernel⟩
def sp_law_offers (K : PySem.W.Frag) : Sp := fun vs H Q _ => ∃ (da sa : Addr) (ns : List Int) (v : V) (wy : List Cv), vs = [.ref da, v] ∧ DrawS K ns da sa H ∧ Dp K H v (wayD wy) ∧ 0 < wy.length ∧ wy.length ≤ 6 ∧ ∀ H' r (l : List Nat), OffOk wy l → DrawTo da H H' → DrawS K ns da sa H' → Dp K H' r (lotD l) → Q r H'
theorem nat_list : ∀ (ns : List Int), (∀ z ∈ ns, 0 ≤ z) → ns = (ns.map Int.toNat).map fun n : Nat => (n : Int)
  | [], _ => rfl
  | a :: l, h => by
    rw [List.map_cons, List.map_cons, ← nat_list l fun z hz => h z (List.mem_cons_of_mem _ hz)]
    have := h a List.mem_cons_self
    congr 1
    omega
theorem ok_law_offers (G : Glb K w mg) (c1 : Cal P w K mg base 2 "_law_take" ["draw", "many"] (sp_law_take K)) (F : FnP K d__law_offers f fd) : FnOk P w K mg base CX0 3 f fd ["draw", "way"] (sp_law_offers K) := by
  refine F.ok sc_law_offers (fun vs H Q E h => ?_) (fun cdv A outer s H vs Q E hr h => ?_)
  · obtain ⟨da, sa, ns, v, wy, rfl, _⟩ := h
    rfl
  · obtain ⟨da, sa, ns, v, wy, rfl, ds, h1, hp, h6, q⟩ := h
    have sl := sizeLine_eq
    obtain ⟨wa, rfl, hwa⟩ := dp_way h1
    refine ⟨_, PSs.nox (pss_cons (ps_set (i := 2) sc_law_offers.nd rfl (.inl rfl) (pe_callB (cr_sortedSet rfl) (by rfl) G.sorted b_sorted (pa_cons (pe_callTy (call_setL rfl) (by rfl) G.set b_set (pa_cons
        (pe_lc (own := [("turn", 3)]) (g := gName 3) (tt := tYes) rfl sc_law_offers.nd (pi_range1 (by rfl) G.range (pa_cons (pe_op op_add pe_int (pe_cal c1 hr (by decide) rfl (pa_cons (pv 0) (pa_cons pe_int pa_nil)))) pa_nil)) (blkOk_by (own := [("turn", 3)]) (N := ["draw", "way", "every", "turn"]) (sc := d__law_offers.scope) (by decide +kernel))
          (fun _ _ _ _ _ => pg_name (i := 3) sc_law_offers.nd rfl (.inl rfl)) (fun _ _ _ _ _ => pts_nil) (fun _ _ _ _ _ => pe_cal c1 hr (by decide) rfl (pa_cons (pv 0) (pa_cons (pe_callB (c_len K) (by rfl) G.len b_len (pa_cons (pv 1) pa_nil)) pa_nil)))) pa_nil)) pa_nil)))
      (pss_one (ps_ret (pe_callTy call_tuple_of (by rfl) G.tuple b_tuple (pa_cons (pv 2) pa_nil))))), ?_⟩
    refine ⟨_, rfl, da, sa, ns, 4, rfl, ds, by decide, fun H2 r hr2 t2 ds2 => ?_⟩
    refine ⟨_, _, rfl, rfl, _, rfl, by omega, by omega, fun D nD => ?_⟩
    have hDd : D ≠ da := fun z => by
      obtain ⟨n, hn⟩ := ds2.at_
      rw [z, hn] at nD
      cases nD
    have eT : (1 + ((r : Nat) : Int)).toNat = r + 1 := by omega
    rw [eT]
    refine lc_it (walk_range (lo := 0) (n := r + 1)) (fun i H' => DrawTo da H2 H' ∧ DrawS K ns da sa H' ∧ ∃ zs : List Nat, zs.length = i ∧ (∀ z ∈ zs, z < wy.length) ∧ H' D = some (.lst (zs.map fun n => V.int (n : Nat)))) ⟨DrawTo.of (same_new nD), ds2.ext (same_new nD), [], rfl, fun z hz => (by cases hz), upd_same⟩ (fun _ _ _ _ => True.intro) ?_ ?_
    · rintro i x H3 H4 hi ⟨t3, ds3, zs, hzl, hzs, hD3⟩ ⟨rfl, rfl⟩
      refine ⟨rfl, ?_⟩
      have hwa3 := tup_to ds2.lst t3 (tup_to ds.lst t2 hwa)
      refine ⟨_, rfl, _, rfl, wa, _, rfl, .inr hwa3, da, sa, ns, wy.length, congrArg (fun n : Nat => [V.ref da, V.int (n : Int)]) (List.length_map _), ds3, hp, fun H5 z hz t5 ds5 => ?_⟩
      have hD5 := t5 _ _ hDd hD3
      have tN : DrawTo da H2 (upd H5 D (.lst (zs.map (fun n => V.int (n : Nat)) ++ [V.int (z : Nat)]))) := fun b o hb y => (upd_ne (ne_of_none y nD)).trans ((t3.trans t5) b o hb y)
      obtain ⟨n5, hn5⟩ := ds5.at_
      refine ⟨_, hD5, by rw [List.length_map]; omega, tN, ⟨⟨n5, (upd_ne hDd.symm).trans hn5⟩, ds2.seq tN, ds2.len⟩, zs ++ [z], by rw [List.length_append, hzl]; rfl, fun y hy => ?_, ?_⟩
      · rcases List.mem_append.mp hy with h | h
        · exact hzs y h
        · rw [List.mem_singleton.mp h]
          exact hz
      · rw [upd_same, List.map_append]
        rfl
    · rintro H3 ⟨t3, ds3, zs, hzl, hzs, hD3⟩
      have e1 : (zs.map fun n => V.int (n : Nat)) = (zs.map fun n : Nat => (n : Int)).map V.int := by rw [List.map_map]; rfl
      rw [e1] at hD3
      refine ⟨D, zs.map (fun n : Nat => (n : Int)), rfl, .inl (.inl hD3), by rw [List.length_map]; omega, fun p c np hc => ?_⟩
      have e4 := same_new (o := SetO w p (fun j => decide (j ∈ zs.map fun n : Nat => (n : Int))) c) np
      refine ⟨p, _, c, rfl, upd_same, by rw [List.length_map] at hc; omega, fun ms q2 hasc hmem hlen nq2 => ?_⟩
      have e5 := same_new (o := HO.lst (ms.map V.int)) nq2
      refine ⟨_, rfl, q2, _, rfl, .inl ⟨.inl (.inl upd_same), fun p3 np3 => ?_⟩⟩
      have e6 := same_new (o := HO.tup (ms.map V.int)) np3
      have e46 := same_trans e4 (same_trans e5 e6)
      have hpos : ∀ z ∈ ms, 0 ≤ z ∧ z < (wy.length : Int) := fun z hz => by
        have h := of_decide_eq_true ((hmem z).mp hz)
        obtain ⟨y, hy, rfl⟩ := List.mem_map.mp h
        have := hzs y hy
        omega
      have em := nat_list ms fun z hz => (hpos z hz).1
      have hml : 1 ≤ ms.length := by
        cases zs with
        | nil => cases hzl
        | cons a b =>
          have h : (a : Int) ∈ ms := (hmem a).mpr (decide_eq_true (List.mem_map.mpr ⟨a, List.mem_cons_self, rfl⟩))
          exact List.length_pos_of_mem h
      rw [List.length_map] at hc
      have ok : OffOk wy (ms.map Int.toNat) := by
        refine ⟨⟨?_, fun i hi => ?_, h6⟩, by rw [List.length_map]; exact hml, by rw [List.length_map]; omega⟩
        · refine List.pairwise_map.mpr ?_
          refine List.Pairwise.imp_of_mem (fun {a b} ha hb h => ?_) hasc
          have := (hpos a ha).1
          have := (hpos b hb).1
          omega
        · obtain ⟨z, hz, rfl⟩ := List.mem_map.mp hi
          have := hpos z hz
          omega
      refine q _ _ _ ok ((t2.trans t3).trans (DrawTo.of e46)) (ds3.ext e46) (lot_dp (.inl (.inl ?_)))
      rw [upd_same]
      have e7 : ms.map V.int = ((ms.map Int.toNat).map fun n : Nat => (n : Int)).map V.int := by rw [← em]
      rw [e7, List.map_map]
      rfl
end
end TE

set_option Elab.async false
set_option linter.all false
set_option maxRecDepth 100000
set_option maxHeartbeats 4000000
/-! The law's own defs, four: texts made its way. -/
namespace TE
open PySem PySem.Spec PyProof.Rows L2 TM
def prevB (t : Tx) : Nat → Bool
  | 0 => false
  | i + 1 => decide (t[i]? = some Sg.r)
theorem cut_mid (x : Tx) (i : Nat) (h : i < x.length) : cutS (txS x) (some ((i : Int) + 1)) (some ((i : Int) + 2)) = txS ((x.drop (i + 1)).take 1) := by
  have e1 : ((i : Int) + 1) = ((i + 1 : Nat) : Int) := by omega
  have e2 : ((i : Int) + 2) = ((i + 2 : Nat) : Int) := by omega
  unfold cutS
  rw [tx_cps, txS_len, e1, e2, HT.sIx_nat, HT.sIx_nat, Nat.min_eq_left (by omega : i + 1 ≤ x.length)]
  unfold txS
  rw [List.map_take, List.map_drop]
  congr 2
  by_cases h2 : i + 2 ≤ x.length
  · rw [Nat.min_eq_left h2]
    congr 1
    omega
  · have e3 : (x.map sgC).drop (i + 1) = [] := List.drop_of_length_le (by rw [List.length_map]; omega)
    rw [e3, List.take_nil, List.take_nil]
theorem head_n (y : Tx) : decide (V.str (txS (y.take 1)) = V.str "n") = isN y.head? := by
  rw [← txS_n, tx_eq]
  cases y with
  | nil => rfl
  | cons s y => cases s <;> rfl
theorem piece_len (c : Cv) (p : Bool) (s : Sg) (b : Bool) : (piece c p s b).length ≤ 2 := by
  cases c <;> cases p <;> cases s <;> cases b <;> decide
theorem lawRec_len (c : Cv) : ∀ (t : Tx) (p : Bool), (lawRec c p t).length ≤ 2 * t.length
  | [], _ => Nat.zero_le _
  | s :: t, p => by
    show (piece c p s _ ++ lawRec c _ t).length ≤ _
    rw [List.length_append, List.length_cons]
    have h1 := piece_len c p s (isN t.head?)
    have h2 := lawRec_len c t (decide (s = .r))
    omega
def pick3 {α : Type} (x : Cv) (a b c : α) : α := match x with | .both => a | .lones => b | _ => c
theorem some_get {a b c : Addr} {x : Cv} (h : holding x = true) : valV (mergeK [] [((Sum.inr ("both" : Str) : Key), V.ref a), (Sum.inr ("lones" : Str), V.ref b), (Sum.inr ("pairs" : Str), V.ref c)]) (Sum.inr (cvS x)) = some (.ref (pick3 x a b c)) := by
  have n12 : ¬ ((Sum.inr ("both" : Str) : Key) = Sum.inr ("lones" : Str)) := by decide +kernel
  have n13 : ¬ ((Sum.inr ("both" : Str) : Key) = Sum.inr ("pairs" : Str)) := by decide +kernel
  have n23 : ¬ ((Sum.inr ("lones" : Str) : Key) = Sum.inr ("pairs" : Str)) := by decide +kernel
  have e1 : mergeK [] [((Sum.inr ("both" : Str) : Key), V.ref a), (Sum.inr ("lones" : Str), V.ref b), (Sum.inr ("pairs" : Str), V.ref c)] = [((Sum.inr ("both" : Str) : Key), V.ref a), (Sum.inr ("lones" : Str), V.ref b), (Sum.inr ("pairs" : Str), V.ref c)] := by
    simp only [mergeK, List.foldl_cons, List.foldl_nil, putK, List.any_nil, List.any_cons, decide_eq_false n12, decide_eq_false n13, decide_eq_false n23, Bool.or_false, Bool.false_eq_true, if_false, List.nil_append, List.cons_append]
  rw [e1]
  cases x with
  | both => exact valV_pos rfl
  | lones => rw [valV_neg n12]; exact valV_pos rfl
  | pairs => rw [valV_neg n13, valV_neg n23]; exact valV_pos rfl
  | all => cases h
  | care => cases h
  | lone => cases h
section
variable {s : Sg} {c d : Cv} {A B : Prop}
theorem yes_n (h : s = .n) (hA : A) : if decide (V.str (sgS s) = V.str "n") = true then A else B := by
  rw [← txS_n, tx_eq, h]
  exact iteT hA
theorem no_n (h : s ≠ .n) (hB : B) : if decide (V.str (sgS s) = V.str "n") = true then A else B := by
  rw [← txS_n, tx_eq, decide_eq_false (fun z => h (by injection z))]
  exact iteF hB
theorem yes_r (h : s = .r) (hA : A) : if decide (V.str (sgS s) = V.str "r") = true then A else B := by
  rw [← txS_r, tx_eq, h]
  exact iteT hA
theorem no_r (h : s ≠ .r) (hB : B) : if decide (V.str (sgS s) = V.str "r") = true then A else B := by
  rw [← txS_r, tx_eq, decide_eq_false (fun z => h (by injection z))]
  exact iteF hB
theorem no_cv (h : c ≠ d) (hB : B) : if decide (V.str (cvS c) = V.str (cvS d)) = true then A else B := ite_cv (fun z => absurd z h) fun _ => hB
theorem yes_cv (h : c = d) (hA : A) : if decide (V.str (cvS c) = V.str (cvS d)) = true then A else B := ite_cv (fun _ => hA) fun z => absurd h z
end
section
variable {P : Program} {w : World} {K : PySem.W.Frag} {mg : Str → Option Value} {base : Heap} {f : Addr} {fd : FuncData}
abbrev nBy : List Str := ["word", "text", "found", "at", "sign", "is_ahead", "is_behind", "some"]
theorem sc_law_by : FnScope nBy ["word", "text"] d__law_by.scope := ⟨rfl, rfl, rfl, by decide +kernel, rfl, by decide +kernel, by decide +kernel⟩
def sp_law_by : Sp := fun vs H Q _ => ∃ (c : Cv) (t : Tx), vs = [.str (cvS c), .str (txS t)] ∧ t.length ≤ 1048576 ∧ ∀ H', Same H H' → Q (.str (txS (lawRec c false t))) H'
theorem ok_law_by (G : Glb K w mg) (F : FnP K d__law_by f fd) : FnOk P w K mg base CX0 1 f fd ["word", "text"] sp_law_by := by
  refine F.ok sc_law_by (fun vs H Q E h => ?_) (fun cdv A outer s H vs Q E hr h => ?_)
  · obtain ⟨c, t, rfl, _⟩ := h
    rfl
  · obtain ⟨c, t, rfl, hl, q⟩ := h
    have sl := sizeLine_eq
    have hu := hr.units
    have hu1 := hu_of hr
    refine ⟨_, PSs.nox (pss_cons (ps_set (i := 2) sc_law_by.nd rfl (.inl rfl) pe_str)
      (pss_cons (ps_for PassesOwn.never rfl (pi_enumS (by rfl) G.enumerate (pa_cons (pv 1) pa_nil)) (pg_tup rfl (pgs_cons (pg_name (i := 3) sc_law_by.nd rfl (.inl rfl)) (pgs_cons (pg_name (i := 4) sc_law_by.nd rfl (.inl rfl)) pgs_nil)))
        (pss_cons (ps_set (i := 5) sc_law_by.nd rfl (.inl rfl) (pe_cmpR op_eq (pe_slice sl_str (pv 1) (po_some (pe_op op_add (pv 3) pe_int)) (po_some (pe_op op_add (pv 3) pe_int))) pe_str (nomark _)))
        (pss_cons (ps_set (i := 6) sc_law_by.nd rfl (.inl rfl) (pe_and (pe_cmpR op_gt (pv 3) pe_int (nomark _)) (pe_one (pe_cmpR op_eq (pe_ix ix_str (pv 1) (pe_op op_sub (pv 3) pe_int) (fun _ _ => rfl)) pe_str (nomark _)))))
        (pss_one (ps_if (PW.pt (pw_and (pt_cmpR op_eq (pv 4) pe_str (nomark _)) (pw_and1 (PW.pt (pw_or (pt_cmpR op_eq (pv 0) pe_str (nomark _)) (pw_or1 (PW.pt (pw_and (pt_cmpR op_eq (pv 0) pe_str (nomark _)) (pw_and1 (pt_not (pt_val (pv 6)))))))))))) (pss_one (ps_set (i := 2) sc_law_by.nd rfl (.inl rfl) (pe_op op_add_str (pv 2) pe_str)))
          (pss_one (ps_if (PW.pt (pw_and (pt_cmpR op_eq (pv 4) pe_str (nomark _)) (pw_and1 (pt_cmpR op_eq (pv 0) pe_str (nomark _))))) (pss_one (ps_set (i := 2) sc_law_by.nd rfl (.inl rfl) (pe_op op_add_str (pv 2) pe_str)))
            (pss_one (ps_if (PW.pt (pw_and (pt_cmpR op_eq (pv 4) pe_str (nomark _)) (pw_and1 (pt_cmpR (o_in K) (pv 0) (pe_tup (pa_cons pe_str (pa_cons pe_str (pa_cons pe_str pa_nil)))) rfl))))
              (pss_cons (ps_set (i := 7) sc_law_by.nd rfl (.inl rfl) (pe_dget hu1 (pe_disp (pps_cons pe_str (pe_lst (pa_cons pe_str (pa_cons pe_str pa_nil))) (pps_cons pe_str (pe_lst (pa_cons pe_str (pa_cons pe_str pa_nil))) (pps_cons pe_str (pe_lst (pa_cons pe_str (pa_cons pe_str pa_nil))) pps_nil))) (by rfl) (by rfl) (fun z => by cases z) (by decide)) (pv 0) (fun _ _ => rfl)))
              (pss_one (ps_set (i := 2) sc_law_by.nd rfl (.inl rfl) (pe_op op_add_str (pv 2) (pe_ix ix_list (pv 7) (pe_ifExp (pt_val (pv 5)) pe_int pe_int) (fun _ _ => rfl))))))
              (pss_one (ps_set (i := 2) sc_law_by.nd rfl (.inl rfl) (pe_op op_add_str (pv 2) (pv 4)))))))))))))
      (pss_one (ps_ret (pv 2))))), ?_⟩
    have wk := walk_es (z := txS t)
    rw [tx_size] at wk
    refine ⟨_, rfl, _, rfl, for_it wk (fun i σ H' => ∃ (Fd : Tx) (v3 v4 v5 v6 v7 : Option V), Same H H' ∧ Fd.length ≤ 2 * i ∧ lawRec c false t = Fd ++ lawRec c (prevB t i) (t.drop i) ∧ σ = [some (.str (cvS c)), some (.str (txS t)), some (.str (txS Fd)), v3, v4, v5, v6, v7])
      ⟨[], none, none, none, none, none, fun _ _ z => z, Nat.zero_le _, rfl, ?_⟩ (fun _ _ _ _ _ => True.intro) ?_ ?_⟩
    · show [some (V.str (cvS c)), some (V.str (txS t)), some (V.str ""), none, none, none, none, none] = _
      rw [← txS_nil]
    · rintro i0 x σ H1 H2 hi ⟨Fd, v3, v4, v5, v6, v7, sm, hF, hrec, rfl⟩ ⟨T, cc, rfl, nT, rfl, hcc⟩
      obtain ⟨s1, hs1, es1⟩ := tx_at hcc
      rw [es1]
      have e2 := same_new (o := HO.tup [.int (i0 : Nat), .str (sgS s1)]) nT
      refine ⟨T, _, rfl, .inl (.inl upd_same), rfl, _, _, rfl, _, _, rfl, rfl, ?_⟩
      have sm2 := same_trans sm e2
      generalize upd H1 T (.tup [.int (i0 : Nat), .str (sgS s1)]) = H3 at *
      -- is_ahead
      refine ⟨_, rfl, _, rfl, _, _, rfl, rfl, _, rfl, _, rfl, _, _, rfl, rfl, _, rfl, txS t, rfl, by rw [txS_len]; omega, rfl, ?_⟩
      rw [cut_mid t i0 hi, head_n]
      -- is_behind
      have hdrop := drop_at hs1
      have hrec2 : lawRec c false t = (Fd ++ piece c (prevB t i0) s1 (isN (t.drop (i0 + 1)).head?)) ++ lawRec c (prevB t (i0 + 1)) (t.drop (i0 + 1)) := by
        rw [hrec, hdrop, List.append_assoc]
        show Fd ++ (piece c (prevB t i0) s1 _ ++ lawRec c (decide (s1 = .r)) _) = _
        have e3 : prevB t (i0 + 1) = decide (s1 = .r) := by
          show decide (t[i0]? = some Sg.r) = _
          rw [hs1]
          cases s1 <;> rfl
        rw [e3]
      generalize isN (t.drop (i0 + 1)).head? = ahead at *
      have hpl := piece_len c (prevB t i0) s1 ahead
      have fin : ∀ (H4 : Hp) (G2 : Tx) (u3 u4 u5 u6 u7 : Option V), Same H3 H4 → G2 = Fd ++ piece c (prevB t i0) s1 ahead → ∃ (Fd2 : Tx) (v3 v4 v5 v6 v7 : Option V), Same H H4 ∧ Fd2.length ≤ 2 * (i0 + 1) ∧ lawRec c false t = Fd2 ++ lawRec c (prevB t (i0 + 1)) (t.drop (i0 + 1)) ∧
          [some (V.str (cvS c)), some (V.str (txS t)), some (V.str (txS G2)), u3, u4, u5, u6, u7] = [some (.str (cvS c)), some (.str (txS t)), some (.str (txS Fd2)), v3, v4, v5, v6, v7] := fun H4 G2 u3 u4 u5 u6 u7 e4 eg =>
        ⟨G2, u3, u4, u5, u6, u7, same_trans sm2 e4, by rw [eg, List.length_append]; omega, by rw [eg]; exact hrec2, rfl⟩
      have hFl : Fd.length ≤ 2097152 := by omega
      have rest : ∀ σ2, σ2 = [some (V.str (cvS c)), some (.str (txS t)), some (.str (txS Fd)), some (.int (i0 : Nat)), some (.str (sgS s1)), some (.bl ahead), some (.bl (prevB t i0)), v7] → True := fun _ _ => True.intro
      have e_n : ("n" : Str) = txS [.n] := txS_n.symm
      have e_r : ("r" : Str) = txS [.r] := txS_r.symm
      have e_rn : ("rn" : Str) = txS [.r, .n] := txS_rn.symm
      have e_0 : ("" : Str) = txS [] := txS_nil.symm
      have hb : ∃ pb : Bool, pb = prevB t i0 := ⟨_, rfl⟩
      have behind : ∀ (N : V → Hp → Prop), N (.bl (prevB t i0)) H3 → tAndV (tOp (rI0 fun i j => .bl (decide (i > j))) (tVar 3) (tC (.int 0))) (tOp rEq (tOp rIxS (tVar 1) (tOp (rI0 fun i j => .int (i - j)) (tVar 3) (tC (.int 1)))) (tC (.str "r")))
          [some (V.str (cvS c)), some (.str (txS t)), some (.str (txS Fd)), some (.int (i0 : Nat)), some (.str (sgS s1)), some (.bl ahead), v6, v7] H3 N := fun N hN => by
        refine ⟨_, rfl, _, _, rfl, rfl, _, rfl, ?_⟩
        cases i0 with
        | zero => exact iteF hN
        | succ i =>
          refine ite_dec (fun _ => ?_) (fun hz => ?_)
          · have hi0 : t[i]? = some t[i] := List.getElem?_eq_getElem (by omega)
            refine ⟨_, rfl, _, rfl, _, _, rfl, rfl, txS t, _, sgC t[i], rfl, rfl, by rw [txS_len]; omega, ?_, rfl, ?_⟩
            · have e5 : (((i + 1 : Nat) : Int) - 1) = (i : Int) := by omega
              rw [e5]
              exact tx_atI hi0
            · show N (.bl (decide (V.str (txS [t[i]]) = V.str "r"))) H3
              rw [e_r, tx_eq]
              have e6 : decide ([t[i]] = [Sg.r]) = prevB t (i + 1) := by
                show _ = decide (t[i]? = some Sg.r)
                rw [hi0]
                cases t[i] <;> rfl
              rw [e6]
              exact hN
          · exact absurd (of_decide_eq_false hz) (by omega)
      refine behind _ ?_
      generalize prevB t i0 = pb at *
      -- the tests
      have b4 : piece c pb s1 ahead = [s1] → ∀ H4, Same H3 H4 → ∀ u7 : Option V, ∃ i j, V.str (txS Fd) = .str i ∧ V.str (sgS s1) = .str j ∧ i.length + j.length ≤ sizeLine ∧ (∃ (Fd2 : Tx) (v3 v4 v5 v6 v7 : Option V), Same H H4 ∧ Fd2.length ≤ 2 * (i0 + 1) ∧ lawRec c false t = Fd2 ++ lawRec c (prevB t (i0 + 1)) (t.drop (i0 + 1)) ∧
          [some (V.str (cvS c)), some (V.str (txS t)), some (V.str (i ++ j)), some (.int (i0 : Nat)), some (.str (sgS s1)), some (.bl ahead), some (.bl pb), u7] = [some (.str (cvS c)), some (.str (txS t)), some (.str (txS Fd2)), v3, v4, v5, v6, v7]) := fun hp H4 e4 u7 => by
        refine ⟨_, _, rfl, rfl, by rw [txS_len, txS_len, sizeLine_eq]; show _ + 1 ≤ _; omega, ?_⟩
        rw [txS_app]
        exact fin H4 _ _ _ _ _ _ e4 (by rw [hp])
      cases s1 with
      | n =>
        by_cases z1 : c = .all
        · subst z1
          refine ⟨_, rfl, rfl, _, rfl, yes_n rfl ⟨_, rfl, rfl, _, rfl, yes_cv (d := .all) rfl (iteT ⟨_, rfl, _, _, rfl, rfl, ?_, ?_⟩)⟩⟩
          · rw [txS_len, ← txS_rn, txS_len]; show _ + 2 ≤ _; omega
          · rw [← txS_rn, txS_app]
            exact fin _ _ _ _ _ _ _ (fun _ _ z => z) (by cases pb <;> cases ahead <;> rfl)
        by_cases z2 : c = .care
        · subst z2
          cases pb with
          | false =>
            refine ⟨_, rfl, rfl, _, rfl, yes_n rfl ⟨_, rfl, rfl, _, rfl, no_cv (d := .all) (by decide) ⟨_, rfl, rfl, _, rfl, yes_cv (d := .care) rfl ⟨_, rfl, _, rfl, iteT ⟨_, rfl, _, _, rfl, rfl, ?_, ?_⟩⟩⟩⟩⟩
            · rw [txS_len, ← txS_rn, txS_len]; show _ + 2 ≤ _; omega
            · rw [← txS_rn, txS_app]
              exact fin _ _ _ _ _ _ _ (fun _ _ z => z) (by cases ahead <;> rfl)
          | true =>
            refine ⟨_, rfl, rfl, _, rfl, yes_n rfl ⟨_, rfl, rfl, _, rfl, no_cv (d := .all) (by decide) ⟨_, rfl, rfl, _, rfl, yes_cv (d := .care) rfl ⟨_, rfl, _, rfl, iteF ?_⟩⟩⟩⟩
            refine ⟨_, rfl, rfl, _, rfl, yes_n rfl ⟨_, rfl, rfl, _, rfl, no_cv (d := .lone) (by decide) ?_⟩⟩
            refine ⟨_, rfl, rfl, _, rfl, no_r (by decide) (iteF ⟨_, rfl, _, rfl, b4 (by cases ahead <;> rfl) _ (fun _ _ z => z) _⟩)⟩
        refine ⟨_, rfl, rfl, _, rfl, yes_n rfl ⟨_, rfl, rfl, _, rfl, no_cv (d := .all) z1 ⟨_, rfl, rfl, _, rfl, no_cv (d := .care) z2 (iteF ?_)⟩⟩⟩
        by_cases z3 : c = .lone
        · subst z3
          refine ⟨_, rfl, rfl, _, rfl, yes_n rfl ⟨_, rfl, rfl, _, rfl, yes_cv (d := .lone) rfl ⟨_, rfl, _, _, rfl, rfl, ?_, ?_⟩⟩⟩
          · rw [txS_len, ← txS_r, txS_len]; show _ + 1 ≤ _; omega
          · rw [← txS_r, txS_app]
            exact fin _ _ _ _ _ _ _ (fun _ _ z => z) (by cases pb <;> cases ahead <;> rfl)
        refine ⟨_, rfl, rfl, _, rfl, yes_n rfl ⟨_, rfl, rfl, _, rfl, no_cv (d := .lone) z3 ?_⟩⟩
        refine ⟨_, rfl, rfl, _, rfl, no_r (by decide) (iteF ⟨_, rfl, _, rfl, b4 ?_ _ (fun _ _ z => z) _⟩)⟩
        cases c <;> first | exact absurd rfl z1 | exact absurd rfl z2 | exact absurd rfl z3 | (cases pb <;> cases ahead <;> rfl)
      | a =>
        refine ⟨_, rfl, rfl, _, rfl, no_n (by decide) (iteF ?_)⟩
        refine ⟨_, rfl, rfl, _, rfl, no_n (by decide) (iteF ?_)⟩
        refine ⟨_, rfl, rfl, _, rfl, no_r (by decide) (iteF ⟨_, rfl, _, rfl, b4 (by cases c <;> cases pb <;> cases ahead <;> rfl) _ (fun _ _ z => z) _⟩)⟩
      | r =>
        refine ⟨_, rfl, rfl, _, rfl, no_n (by decide) (iteF ?_)⟩
        refine ⟨_, rfl, rfl, _, rfl, no_n (by decide) (iteF ?_)⟩
        refine ⟨_, rfl, rfl, _, rfl, yes_r rfl ⟨_, rfl, by show 3 ≤ sizeLine; decide, fun p np => ?_⟩⟩
        have e4 := same_new (o := HO.tup [.str "both", .str "lones", .str "pairs"]) np
        refine ⟨p, _, rfl, .inr (.inl (.inl upd_same)), rfl, rfl, _, rfl, ?_⟩
        have z : inV (.str (cvS c)) [.str "both", .str "lones", .str "pairs"] = holding c := by cases c <;> decide +kernel
        have z2 : (if false = true then !inV (.str (cvS c)) [.str "both", .str "lones", .str "pairs"] else inV (.str (cvS c)) [.str "both", .str "lones", .str "pairs"]) = holding c := (if_neg Bool.false_ne_true).trans z
        rw [z2]
        generalize upd H3 p (.tup [.str "both", .str "lones", .str "pairs"]) = H4 at *
        cases hh : holding c with
        | false =>
          refine iteF ⟨_, rfl, _, rfl, b4 ?_ _ e4 _⟩
          cases c <;> first | (cases pb <;> cases ahead <;> rfl) | exact absurd hh (by decide)
        | true =>
          refine iteT ?_
          intro dd ndd
          refine ⟨two_line, fun q1 nq1 => ⟨two_line, fun q2 nq2 => ⟨two_line, fun q3 nq3 => ?_⟩⟩⟩
          clear b4 behind rest hrec2
          have g1 := same_new (o := HO.dK []) ndd
          generalize eA : upd H4 dd (HO.dK []) = HA at *
          have kA : HA dd = some (HO.dK []) := by rw [← eA]; exact upd_same
          have g2 := same_new (o := HO.lst [.str "n", .str ""]) nq1
          generalize eB : upd HA q1 (HO.lst [.str "n", .str ""]) = HB at *
          have kB : HB q1 = some (HO.lst [.str "n", .str ""]) := by rw [← eB]; exact upd_same
          have g3 := same_new (o := HO.lst [.str "n", .str "r"]) nq2
          generalize eC : upd HB q2 (HO.lst [.str "n", .str "r"]) = HC at *
          have kC : HC q2 = some (HO.lst [.str "n", .str "r"]) := by rw [← eC]; exact upd_same
          have g4 := same_new (o := HO.lst [.str "r", .str ""]) nq3
          generalize eD : upd HC q3 (HO.lst [.str "r", .str ""]) = HD at *
          have kD : HD q3 = some (HO.lst [.str "r", .str ""]) := by rw [← eD]; exact upd_same
          have m1 := g4 _ _ (g3 _ _ kB)
          have m2 := g4 _ _ kC
          have md := g4 _ _ (g3 _ _ (g2 _ _ kA))
          have sH := same_trans e4 (same_trans g1 (same_trans g2 (same_trans g3 g4)))
          have ne1 : q1 ≠ dd := fun z => by subst z; rw [kA] at nq1; cases nq1
          have ne2 : q2 ≠ dd := fun z => by subst z; rw [g2 _ _ kA] at nq2; cases nq2
          have ne3 : q3 ≠ dd := fun z => by subst z; rw [g3 _ _ (g2 _ _ kA)] at nq3; cases nq3
          have ndH3 : H3 dd = none := Same.none e4 ndd
          have hg := DGet.k (H := (upd HD dd (HO.dK (mergeK [] [((Sum.inr ("both" : Str) : Key), V.ref q1), (Sum.inr ("lones" : Str), .ref q2), (Sum.inr ("pairs" : Str), .ref q3)])))) (k := Sum.inr (cvS c)) upd_same
          rw [some_get hh] at hg
          refine ⟨md, [((Sum.inr ("both" : Str) : Key), V.ref q1), (Sum.inr ("lones" : Str), .ref q2), (Sum.inr ("pairs" : Str), .ref q3)], rfl, Nat.le_of_ble_eq_true rfl, _, rfl, dd, _, rfl, hg, ?_⟩
          have sE : Same H3 (upd HD dd (HO.dK (mergeK [] [((Sum.inr ("both" : Str) : Key), V.ref q1), (Sum.inr ("lones" : Str), .ref q2), (Sum.inr ("pairs" : Str), .ref q3)]))) := same_upd sH ndH3
          have l1 : (upd HD dd (HO.dK (mergeK [] [((Sum.inr ("both" : Str) : Key), V.ref q1), (Sum.inr ("lones" : Str), .ref q2), (Sum.inr ("pairs" : Str), .ref q3)]))) q1 = some (HO.lst [.str "n", .str ""]) := (upd_ne ne1).trans m1
          have l2 : (upd HD dd (HO.dK (mergeK [] [((Sum.inr ("both" : Str) : Key), V.ref q1), (Sum.inr ("lones" : Str), .ref q2), (Sum.inr ("pairs" : Str), .ref q3)]))) q2 = some (HO.lst [.str "n", .str "r"]) := (upd_ne ne2).trans m2
          have l3 : (upd HD dd (HO.dK (mergeK [] [((Sum.inr ("both" : Str) : Key), V.ref q1), (Sum.inr ("lones" : Str), .ref q2), (Sum.inr ("pairs" : Str), .ref q3)]))) q3 = some (HO.lst [.str "r", .str ""]) := (upd_ne ne3).trans kD
          generalize (upd HD dd (HO.dK (mergeK [] [((Sum.inr ("both" : Str) : Key), V.ref q1), (Sum.inr ("lones" : Str), .ref q2), (Sum.inr ("pairs" : Str), .ref q3)]))) = HE at *
          clear eA eB eC eD
          have hp : ∃ w1 w2 : Tx, HE (pick3 c q1 q2 q3) = some (HO.lst [.str (txS w1), .str (txS w2)]) ∧ w1.length ≤ 1 ∧ w2.length ≤ 1 ∧ piece c pb Sg.r ahead = (if ahead = true then w2 else w1) := by
            cases c with
            | both => exact ⟨[.n], [], by rw [txS_n, txS_nil]; exact l1, by decide, by decide, rfl⟩
            | lones => exact ⟨[.n], [.r], by rw [txS_n, txS_r]; exact l2, by decide, by decide, rfl⟩
            | pairs => exact ⟨[.r], [], by rw [txS_r, txS_nil]; exact l3, by decide, by decide, rfl⟩
            | all => exact absurd hh (by decide)
            | care => exact absurd hh (by decide)
            | lone => exact absurd hh (by decide)
          obtain ⟨w1, w2, hq, h1, h2, ep⟩ := hp
          refine ⟨_, rfl, _, rfl, _, rfl, ahead, rfl, ?_⟩
          cases ahead with
          | true =>
            refine ⟨pick3 c q1 q2 q3, [.str (txS w1), .str (txS w2)], 1, .str (txS w2), rfl, rfl, .inl (.inl hq), rfl, _, _, rfl, rfl, ?_, ?_⟩
            · rw [txS_len, txS_len]; omega
            · rw [txS_app]
              exact fin _ _ _ _ _ _ _ sE (by rw [ep]; rfl)
          | false =>
            refine ⟨pick3 c q1 q2 q3, [.str (txS w1), .str (txS w2)], 0, .str (txS w1), rfl, rfl, .inl (.inl hq), rfl, _, _, rfl, rfl, ?_, ?_⟩
            · rw [txS_len, txS_len]; omega
            · rw [txS_app]
              exact fin _ _ _ _ _ _ _ sE (by rw [ep]; rfl)
    · rintro σ H2 ⟨Fd, v3, v4, v5, v6, v7, sm, hF, hrec, rfl⟩
      rw [List.drop_length] at hrec
      have hrec : lawRec c false t = Fd ++ [] := hrec
      rw [List.append_nil] at hrec
      refine ⟨_, rfl, ?_⟩
      rw [← hrec]
      exact q _ sm
end
end TE

set_option Elab.async false
set_option linter.all false
set_option maxRecDepth 100000
set_option maxHeartbeats 4000000
/-! The law's own defs, five: of a kind, parted. -/
namespace TE
open PySem PySem.Spec PyProof.Rows L2 TM
theorem no_bare : ∀ {t : Tx} {o o' : Bool}, goesOn .bare o t = some o' → Sg.r ∉ t
  | [], _, _, _ => fun h => by cases h
  | s :: t, o, o', h => by
    unfold goesOn at h
    cases s with
    | r => rw [if_neg (fun z => by cases z)] at h; cases h
    | a =>
      rw [if_pos (by rfl)] at h
      intro hm
      rcases List.mem_cons.mp hm with z | z
      · cases z
      · exact no_bare h z
    | n =>
      rw [if_pos (by rfl)] at h
      intro hm
      rcases List.mem_cons.mp hm with z | z
      · cases z
      · exact no_bare h z
theorem no_lone : ∀ {t : Tx} {o o' : Bool}, goesOn .lone o t = some o' → Sg.n ∉ t
  | [], _, _, _ => fun h => by cases h
  | s :: t, o, o', h => by
    unfold goesOn at h
    cases s with
    | n => rw [if_neg (fun z => by cases z)] at h; cases h
    | a =>
      rw [if_pos (by rfl)] at h
      intro hm
      rcases List.mem_cons.mp hm with z | z
      · cases z
      · exact no_lone h z
    | r =>
      rw [if_pos (by rfl)] at h
      intro hm
      rcases List.mem_cons.mp hm with z | z
      · cases z
      · exact no_lone h z
/-- runs of a, and rn between them -/
def glue : List Nat → Tx
  | [] => []
  | [n] => List.replicate n .a
  | n :: m :: l => List.replicate n .a ++ ([.r, .n] ++ glue (m :: l))
theorem glue_a (n : Nat) (l : List Nat) : glue ((n + 1) :: l) = Sg.a :: glue (n :: l) := by
  cases l with
  | nil => rfl
  | cons m l => rfl
theorem pair_glue : ∀ (k : Nat) (t : Tx), t.length ≤ k → goesOn .paired false t = some false → ∃ n l, t = glue (n :: l)
  | _, [], _, _ => ⟨0, [], rfl⟩
  | 0, s :: t, hk, _ => absurd hk (Nat.not_succ_le_zero _)
  | k + 1, s :: t, hk, h => by
    have hk2 : t.length ≤ k := Nat.le_of_succ_le_succ hk
    unfold goesOn at h
    cases s with
    | n => rw [if_neg (by decide)] at h; cases h
    | a =>
      rw [if_pos (by rfl)] at h
      obtain ⟨n, l, e⟩ := pair_glue k t hk2 h
      exact ⟨n + 1, l, by rw [glue_a, e]⟩
    | r =>
      rw [if_pos (by rfl)] at h
      cases t with
      | nil => cases h
      | cons s2 t =>
        have h : goesOn .paired true (s2 :: t) = some false := h
        unfold goesOn at h
        cases s2 with
        | a => rw [if_neg (by decide)] at h; cases h
        | r => rw [if_neg (by decide)] at h; cases h
        | n =>
          rw [if_pos (by rfl)] at h
          obtain ⟨n, l, e⟩ := pair_glue k t (by have : t.length + 1 ≤ k := hk2; omega) h
          exact ⟨0, n :: l, by rw [e]; rfl⟩
def runA (n : Nat) : Tx := List.replicate n .a
theorem glue_join : ∀ l : List Nat, txS (glue l) = Str.join (txS [Sg.r, Sg.n]) (l.map fun n => txS (runA n))
  | [] => rfl
  | [_] => rfl
  | n :: m :: l => by
    show txS (runA n ++ ([.r, .n] ++ glue (m :: l))) = txS (runA n) ++ txS [.r, .n] ++ Str.join _ _
    rw [← txS_app, ← txS_app, glue_join (m :: l)]
    refine TL.ext_tl ?_
    rw [TL.tl_append, TL.tl_append, TL.tl_append, TL.tl_append, List.append_assoc]
theorem glue_len : ∀ l : List Nat, (l.map fun n => (txS (runA n)).length).sum ≤ (glue l).length
  | [] => Nat.zero_le _
  | [n] => by
    show (txS (runA n)).length + 0 ≤ (runA n).length
    rw [txS_len]
    exact Nat.le_refl _
  | n :: m :: l => by
    have h := glue_len (m :: l)
    show (txS (runA n)).length + ((m :: l).map fun n => (txS (runA n)).length).sum ≤ (runA n ++ ([Sg.r, Sg.n] ++ glue (m :: l))).length
    rw [List.length_append, List.length_append, txS_len]
    omega
theorem bare_join : ∀ l : List Nat, Str.join (txS []) (l.map fun n => txS (runA n)) = txS (runA l.sum)
  | [] => rfl
  | [n] => by
    show txS (runA n) = txS (runA (n + 0))
    rfl
  | n :: m :: l => by
    show txS (runA n) ++ txS [] ++ Str.join (txS []) ((m :: l).map fun n => txS (runA n)) = _
    rw [bare_join (m :: l), txS_app, txS_app, List.append_nil]
    show txS (List.replicate n .a ++ List.replicate (m :: l).sum .a) = txS (List.replicate (n + (m :: l).sum) .a)
    rw [List.replicate_append_replicate]
theorem sum_len : ∀ l : List Nat, (l.map fun n => (txS (runA n)).length).sum = l.sum
  | [] => rfl
  | n :: l => by
    rw [List.map_cons, List.sum_cons, List.sum_cons, sum_len l, txS_len]
    show (List.replicate n _).length + _ = _
    rw [List.length_replicate]
theorem split_glue (l : List Nat) (h : l ≠ []) : Txt.split (txS (glue l)) (txS [Sg.r, Sg.n]) = l.map fun n => txS (runA n) := by
  rw [glue_join, ← TL.join_eq]
  refine TL.split_join (s := sgC .r) (S := [sgC .n]) rfl (by decide +kernel) (fun e => h (List.map_eq_nil_iff.mp e)) fun p hp => ?_
  obtain ⟨n, _, rfl⟩ := List.mem_map.mp hp
  show sgC .r ∉ (runA n).map sgC
  intro hm
  obtain ⟨s, hs, e⟩ := List.mem_map.mp hm
  have := List.eq_of_mem_replicate hs
  subst this
  cases e
theorem in_sgs (s : Sg) (t : Tx) : inV (.str (sgS s)) (t.map fun s => V.str (sgS s)) = decide (s ∈ t) := by
  unfold inV
  rw [List.any_map, Bool.eq_iff_iff, List.any_eq_true, decide_eq_true_eq]
  have key : ∀ x y : Sg, eqV (.str (sgS x)) (.str (sgS y)) = decide (x = y) := fun x y => by cases x <;> cases y <;> decide +kernel
  constructor
  · rintro ⟨x, hx, e⟩
    have e2 : eqV (.str (sgS x)) (.str (sgS s)) = true := e
    rw [key, decide_eq_true_eq] at e2
    rw [← e2]
    exact hx
  · intro h
    exact ⟨s, h, by show eqV (.str (sgS s)) (.str (sgS s)) = true; rw [key]; exact decide_eq_true rfl⟩
section
variable {P : Program} {w : World} {K : PySem.W.Frag} {mg : Str → Option Value} {base : Heap} {f : Addr} {fd : FuncData}
theorem lawRec_made : ∀ (wy : List Cv) (t : Tx), (lawMade wy t).length ≤ 2 ^ wy.length * t.length
  | [], t => by
    show t.length ≤ 2 ^ 0 * t.length
    omega
  | c :: wy, t => by
    have h1 := lawRec_made wy (lawRec c false t)
    have h2 := lawRec_len c t false
    show (lawMade wy (lawRec c false t)).length ≤ 2 ^ (wy.length + 1) * t.length
    have h3 : 2 ^ (wy.length + 1) * t.length = 2 ^ wy.length * (2 * t.length) := by rw [Nat.pow_succ, Nat.mul_assoc]
    rw [h3]
    exact Nat.le_trans h1 (Nat.mul_le_mul_left _ h2)
theorem lawMade_snoc : ∀ (wy : List Cv) (c : Cv) (t : Tx), lawMade (wy ++ [c]) t = lawRec c false (lawMade wy t)
  | [], _, _ => rfl
  | d :: wy, c, t => lawMade_snoc wy c (lawRec d false t)
theorem sc_law_made : FnScope ["way", "text", "word"] ["way", "text"] d__law_made.scope := ⟨rfl, rfl, rfl, by decide +kernel, rfl, by decide +kernel, by decide +kernel⟩
def sp_law_made (K : PySem.W.Frag) : Sp := fun vs H Q _ => ∃ (v : V) (wy : List Cv) (t : Tx), vs = [v, .str (txS t)] ∧ Dp K H v (wayD wy) ∧ wy.length ≤ 6 ∧ t.length ≤ 8192 ∧ ∀ H', Same H H' → Q (.str (txS (lawMade wy t))) H'
theorem ok_law_made (c1 : Cal P w K mg base 1 "_law_by" ["word", "text"] sp_law_by) (F : FnP K d__law_made f fd) : FnOk P w K mg base CX0 2 f fd ["way", "text"] (sp_law_made K) := by
  refine F.ok sc_law_made (fun vs H Q E h => ?_) (fun cdv A outer s H vs Q E hr h => ?_)
  · obtain ⟨v, wy, t, rfl, _⟩ := h
    rfl
  · obtain ⟨v, wy, t, rfl, hv, hl, ht, q⟩ := h
    obtain ⟨a, rfl, ha⟩ := dp_way hv
    refine ⟨_, PSs.nox (pss_cons (ps_for PassesOwn.never rfl (pi_tup (pv 0)) (pg_name (i := 2) sc_law_made.nd rfl (.inl rfl))
      (pss_one (ps_set (i := 1) sc_law_made.nd rfl (.inl rfl) (pe_cal c1 hr (by decide) rfl (pa_cons (pv 2) (pa_cons (pv 1) pa_nil))))))
      (pss_one (ps_ret (pv 1)))), ?_⟩
    refine ⟨_, rfl, a, rfl, ⟨_, ha⟩, for_it (walk_tupD (K := K) (a := a) (L := wy) (g := fun c => .str (cvS c))) (fun i σ H' => ∃ (v2 : Option V), Same H H' ∧ σ = [some (.ref a), some (.str (txS (lawMade (wy.take i) t))), v2])
      ⟨none, fun _ _ z => z, rfl⟩ (fun i σ H' _ ⟨_, e, _⟩ => Same.dp e hv) ?_ ?_⟩
    · rintro i x σ H1 H2 hi ⟨v2, e1, rfl⟩ ⟨rfl, y⟩
      have hz : wy[i]? = some wy[i] := List.getElem?_eq_getElem hi
      obtain rfl := dp_str (y _ hz)
      have h2 := lawRec_made (wy.take i) t
      have h3 : 2 ^ (wy.take i).length ≤ 64 := Nat.le_trans (Nat.pow_le_pow_right (by decide) (by rw [List.length_take]; omega : (wy.take i).length ≤ 6)) (by decide)
      have h4 : 2 ^ (wy.take i).length * t.length ≤ 64 * 8192 := Nat.mul_le_mul h3 ht
      refine ⟨_, rfl, _, rfl, wy[i], _, rfl, by omega, fun H3 e3 => ⟨some (.str (cvS wy[i])), same_trans e1 e3, ?_⟩⟩
      have e5 : wy.take (i + 1) = wy.take i ++ [wy[i]] := by rw [List.take_succ, hz]; rfl
      rw [e5, lawMade_snoc]
      rfl
    · rintro σ H1 ⟨v2, e1, rfl⟩
      rw [List.take_length]
      exact ⟨_, rfl, q _ e1⟩
theorem sc_law_is_of : FnScope ["text", "kind", "pieces", "sign"] ["text", "kind"] d__law_is_of.scope := ⟨rfl, rfl, rfl, by decide +kernel, rfl, by decide +kernel, by decide +kernel⟩
def sp_law_is_of : Sp := fun vs H Q _ => ∃ (t : Tx) (k : Kd), vs = [.str (txS t), .str (kdS k)] ∧ t.length ≤ 8192 ∧ goesOn k false t = some false ∧ ∀ H', Same H H' → Q (.bl true) H'
theorem ok_law_is_of (G : Glb K w mg) (F : FnP K d__law_is_of f fd) : FnOk P w K mg base CX0 1 f fd ["text", "kind"] sp_law_is_of := by
  refine F.ok sc_law_is_of (fun vs H Q E h => ?_) (fun cdv A outer s H vs Q E hr h => ?_)
  · obtain ⟨t, k, rfl, _⟩ := h
    rfl
  · obtain ⟨t, k, rfl, ht, hk, q⟩ := h
    have sl := sizeLine_eq
    refine ⟨_, PSs.nox (pss_cons (ps_if (pt_cmpR (o_in K) (pv 1) (pe_tup (pa_cons pe_str (pa_cons pe_str pa_nil))) rfl)
        (pss_one (ps_ret (pe_cmpR (o_notin K) (pe_ifExp (pt_cmpR op_eq (pv 1) pe_str (nomark _)) pe_str pe_str) (pe_callTy (call_listTx rfl) (by rfl) G.list b_list (pa_cons (pv 0) pa_nil)) rfl))) pss_nil)
      (pss_cons (ps_if (pt_cmpR op_eq (pv 1) pe_str (nomark _)) (pss_one (ps_ret pe_bl)) pss_nil)
      (pss_cons (ps_set (i := 2) sc_law_is_of.nd rfl (.inl rfl) (pe_split (pv 0) pe_str))
      (pss_one (ps_ret (pe_not (pe_callB (c_any K rfl) (by rfl) G.any b_any (pa_cons (pe_lc (own := [("sign", 3)]) (g := gName 3) (tt := tYes) rfl sc_law_is_of.nd (pi_list (pe_callTy (call_listTx rfl) (by rfl) G.list b_list (pa_cons (pe_join pe_str (pv 2)) pa_nil))) (blkOk_by (own := [("sign", 3)]) (N := ["text", "kind", "pieces", "sign"]) (sc := d__law_is_of.scope) (by decide +kernel))
        (fun _ _ _ _ _ => pg_name (i := 3) sc_law_is_of.nd rfl (.inl rfl)) (fun _ _ _ _ _ => pts_nil) (fun _ _ _ _ _ => pe_cmpR (o_in K) (pv 3) (pe_tup (pa_cons pe_str (pa_cons pe_str pa_nil))) rfl)) pa_nil)))))))), ?_⟩
    refine ⟨_, rfl, by show 2 ≤ sizeLine; decide, fun p np => ?_⟩
    have e0 := same_new (o := HO.tup [.str "bare", .str "lone"]) np
    refine ⟨p, _, rfl, .inr (.inl (.inl upd_same)), rfl, rfl, _, rfl, ?_⟩
    generalize upd H p (.tup [.str "bare", .str "lone"]) = H1 at *
    cases k with
    | bare =>
      have z : inV (.str (kdS .bare)) [.str "bare", .str "lone"] = true := by decide +kernel
      rw [if_neg Bool.false_ne_true, z]
      refine iteT ⟨_, rfl, rfl, _, rfl, iteT ⟨_, rfl, t, rfl, by omega, fun p2 np2 => ?_⟩⟩
      refine ⟨p2, _, rfl, .inl (.inl (.inl upd_same)), rfl, by simp [flatV], ?_⟩
      rw [if_pos rfl, ← txS_r, in_sgs, decide_eq_false (no_bare hk)]
      exact q _ (same_trans e0 (same_new np2))
    | lone =>
      have z : inV (.str (kdS .lone)) [.str "bare", .str "lone"] = true := by decide +kernel
      rw [if_neg Bool.false_ne_true, z]
      refine iteT ⟨_, rfl, rfl, _, rfl, iteF ⟨_, rfl, t, rfl, by omega, fun p2 np2 => ?_⟩⟩
      refine ⟨p2, _, rfl, .inl (.inl (.inl upd_same)), rfl, by simp [flatV], ?_⟩
      rw [if_pos rfl, ← txS_n, in_sgs, decide_eq_false (no_lone hk)]
      exact q _ (same_trans e0 (same_new np2))
    | any =>
      have z : inV (.str (kdS .any)) [.str "bare", .str "lone"] = false := by decide +kernel
      rw [if_neg Bool.false_ne_true, z]
      exact iteF ⟨_, rfl, rfl, _, rfl, iteT (q _ e0)⟩
    | paired =>
      have z : inV (.str (kdS .paired)) [.str "bare", .str "lone"] = false := by decide +kernel
      rw [if_neg Bool.false_ne_true, z]
      obtain ⟨n, l, rfl⟩ := pair_glue _ t (Nat.le_refl _) hk
      have gl := glue_len (n :: l)
      refine iteF ⟨_, rfl, rfl, _, rfl, iteF ?_⟩
      refine ⟨_, rfl, ⟨_, rfl⟩, _, _, rfl, rfl, rfl, by rw [txS_len]; omega, fun p2 np2 => ?_⟩
      rw [← txS_rn, split_glue _ (fun h => by cases h)]
      have e2 := same_new (o := HO.lst (((n :: l).map fun n => txS (runA n)).map V.str)) np2
      refine ⟨⟨_, rfl⟩, _, rfl, "", p2, (n :: l).map (fun n => txS (runA n)), rfl, rfl, .inl (.inl (.inl upd_same)), ?_, ?_⟩
      · rw [List.map_map]
        have e5 : ("" : Str).length = 0 := rfl
        rw [e5, Nat.mul_zero]
        exact Nat.le_trans gl (by omega)
      rw [← txS_nil, TL.join_eq, bare_join]
      have hs := sum_len (n :: l)
      have hr2 : (runA (n :: l).sum).length ≤ 8192 := by
        show (List.replicate _ _).length ≤ _
        rw [List.length_replicate]
        omega
      refine ⟨runA (n :: l).sum, rfl, by omega, fun p3 np3 => ?_⟩
      have e3 := same_new (o := HO.lst ((runA (n :: l).sum).map fun s => V.str (sgS s))) np3
      refine ⟨p3, rfl, ⟨_, .inl (.inl upd_same)⟩, fun D nD => lc_bools (K := K) (L := runA (n :: l).sum) (p := fun _ => false) (walk_lstD (g := fun s => .str (sgS s))) nD (by omega) (fun H' e => ?_) ?_ gName_mono ?_⟩
      · exact Same.dp e (.lst (.inl (.inl upd_same)) (strs_dpAll _))
      · rintro i z x H2 H3 Nx hz e ⟨rfl, y⟩ kk
        obtain rfl := dp_str (y z hz)
        have hz2 : z = .a := List.eq_of_mem_replicate (List.mem_of_getElem? hz)
        subst hz2
        refine ⟨rfl, _, rfl, by show 2 ≤ sizeLine; decide, fun p4 np4 => ?_⟩
        refine ⟨p4, _, rfl, .inr (.inl (.inl upd_same)), rfl, rfl, ?_⟩
        have e6 : inV (.str (sgS .a)) [.str "n", .str "r"] = false := by decide +kernel
        rw [if_neg Bool.false_ne_true, e6]
        exact kk _ (same_new np4)
      · intro H2 e hD
        refine ⟨D, _, rfl, hD, ?_⟩
        rw [any_map]
        have e7 : ((runA (n :: l).sum).any fun _ => false) = false := by simp
        rw [e7]
        exact ⟨_, rfl, q _ (same_trans e0 (same_trans e2 (same_trans e3 e)))⟩
theorem sc_law_parts : FnScope ["one", "other", "kind", "text", "sign"] ["one", "other", "kind", "text"] d__law_parts.scope := ⟨rfl, rfl, rfl, by decide +kernel, rfl, by decide +kernel, by decide +kernel⟩
theorem ok_law_parts (G : Glb K w mg) (c1 : Cal P w K mg base 1 "_law_is_of" ["text", "kind"] sp_law_is_of) (c2 : Cal P w K mg base 2 "_law_made" ["way", "text"] (sp_law_made K)) (F : FnP K d__law_parts f fd) : FnOk P w K mg base CX0 3 f fd ["one", "other", "kind", "text"] (sp_is_parting K) := by
  refine F.ok sc_law_parts (fun vs H Q E h => ?_) (fun cdv A outer s H vs Q E hr h => ?_)
  · obtain ⟨v1, v2, w1, w2, k, t, rfl, _⟩ := h
    rfl
  · obtain ⟨v1, v2, w1, w2, k, t, rfl, h1, h2, l1, l2, lt, pt, q⟩ := h
    have sl := sizeLine_eq
    refine ⟨_, PSs.nox (pss_cons (ps_if (PW.pt (pw_or (pt_not (pt_val (pe_callB (c_all K rfl) (by rfl) G.all b_all (pa_cons
        (pe_lc (own := [("sign", 4)]) (g := gName 4) (tt := tYes) rfl sc_law_parts.nd (pi_list (pe_callTy (call_listTx rfl) (by rfl) G.list b_list (pa_cons (pv 3) pa_nil))) (blkOk_by (own := [("sign", 4)]) (N := ["one", "other", "kind", "text", "sign"]) (sc := d__law_parts.scope) (by decide +kernel)) (fun _ _ _ _ _ => pg_name (i := 4) sc_law_parts.nd rfl (.inl rfl)) (fun _ _ _ _ _ => pts_nil)
          (fun _ _ _ _ _ => pe_cmpR op_in_sign (pv 4) pe_str rfl)) pa_nil)))) (pw_or1 (pt_not (pt_val (pe_cal c1 hr (by decide) rfl (pa_cons (pv 3) (pa_cons (pv 2) pa_nil)))))))) (pss_one (ps_ret pe_bl)) pss_nil)
      (pss_one (ps_ret (pe_cmpR op_ne (pe_cal c2 hr (by decide) rfl (pa_cons (pv 0) (pa_cons (pv 3) pa_nil))) (pe_cal c2 hr (by decide) rfl (pa_cons (pv 1) (pa_cons (pv 3) pa_nil))) (nomark _))))), ?_⟩
    refine ⟨_, rfl, t, rfl, by omega, fun p np => ?_⟩
    have e0 : Same H (upd H p (.lst (t.map fun s => V.str (sgS s)))) := same_new np
    refine ⟨p, rfl, ⟨_, .inl (.inl upd_same)⟩, fun D nD => lc_bools (K := K) (L := t) (p := fun _ => true) (walk_lstD (g := fun s => .str (sgS s))) nD (by omega) (fun H' e => ?_) ?_ gName_mono ?_⟩
    · exact Same.dp e (.lst (.inl (.inl upd_same)) (strs_dpAll t))
    · rintro i z x H1 H2 Nx hz e ⟨rfl, y⟩ kk
      obtain rfl := dp_str (y z hz)
      refine ⟨rfl, _, rfl, sgC z, _, rfl, rfl, ?_⟩
      have e : decide (sgC z ∈ ("anr" : Str).cps.toList) = true := by cases z <;> decide +kernel
      rw [e]
      exact kk _ fun _ _ z => z
    · intro H1 e hD
      refine ⟨D, _, rfl, hD, _, rfl, ?_⟩
      rw [all_map]
      have e2 : (t.all fun _ => true) = true := by simp
      rw [e2]
      have e01 := same_trans e0 e
      refine iteF ⟨_, rfl, _, rfl, t, k, rfl, lt, pt.kind, fun H4 e4 => ⟨_, rfl, iteF ?_⟩⟩
      have e01 := same_trans e01 e4
      refine ⟨_, rfl, _, rfl, v1, w1, t, rfl, Same.dp e01 h1, l1, lt, fun H2 e2 => ⟨_, rfl, _, rfl, v2, w2, t, rfl, Same.dp (same_trans e01 e2) h2, l2, lt, fun H3 e3 => ⟨rfl, ?_⟩⟩⟩
      rw [tx_eq, decide_eq_false (fun h => pt.ne (by rw [made_law, made_law, h]))]
      exact q _ (same_trans e01 (same_trans e2 e3))
end
end TE

set_option Elab.async false
set_option linter.all false
set_option maxRecDepth 100000
set_option maxHeartbeats 4000000
/-! The law. -/
namespace TE
open PySem PySem.Spec PyProof.Rows L2 TM
theorem join_if {b : Bool} {A : Prop} {N : L2.St → Hp → Prop} {σ : L2.St} {H : Hp} (J : L2.St → Hp → Prop) (rest : ∀ σ' H', J σ' H' → N σ' H') (hA : b = true → (∀ σ' H', J σ' H' → N σ' H') → A) (hB : b = false → J σ H) : if b = true then A else N σ H := by
  cases b with
  | true => exact iteT (hA rfl rest)
  | false => exact iteF (rest _ _ (hB rfl))
theorem lk_shows {a b : V} : ([("good", a), ("fails", b)] : List (Str × V)).lookup ("shows" : Str) = none := by
  have e : (("shows" : Str) == ("good" : Str)) = false := by decide +kernel
  have e2 : (("shows" : Str) == ("fails" : Str)) = false := by decide +kernel
  show (match (("shows" : Str) == ("good" : Str)) with | true => some a | false => (match (("shows" : Str) == ("fails" : Str)) with | true => some b | false => none)) = none
  rw [e, e2]
theorem lk_shows1 {a : V} : ([("rows", a)] : List (Str × V)).lookup ("shows" : Str) = none := by
  have e : (("shows" : Str) == ("rows" : Str)) = false := by decide +kernel
  show (match (("shows" : Str) == ("rows" : Str)) with | true => some a | false => none) = none
  rw [e]
theorem eqv_way_nil (wy : List Cv) : PyData.eqv (wayD wy) (.tuple []) = decide (wy = []) := by
  cases wy with
  | nil => rfl
  | cons c wy => rfl
theorem cut_last {xs : List V} (h : 0 < xs.length) : cutV xs (some (-1)) none = xs.drop (xs.length - 1) := by
  have e : HT.sIx xs.length 0 (some (-1)) = xs.length - 1 := by
    show (if (-1 : Int) < 0 then ((-1 : Int) + (xs.length : Int)).toNat else min (-1 : Int).toNat xs.length) = _
    rw [if_pos (by omega)]
    omega
  unfold cutV
  rw [e, HT.sIx_none]
  exact List.take_of_length_le (by rw [List.length_drop]; exact Nat.le_refl _)
theorem slA_last {K : PySem.W.Frag} {H : Hp} {a : Addr} {xs : List V} {Q : VK} (hx : 0 < xs.length) (ha : SqT K H a xs) (hq : ∀ H' b, Same H H' → SqT K H' b (xs.drop (xs.length - 1)) → Q (.ref b) H') : rSlA K (.ref a) (some (-1)) none H Q := by
  refine ⟨a, xs, rfl, ha, fun hw => hq H a (fun _ _ z => z) ?_, fun hn p np => hq _ p (same_new np) (.inl (.inl (by rw [upd_same, cut_last hx])))⟩
  have e : HT.sIx xs.length 0 (some (-1)) = xs.length - 1 := by
    show (if (-1 : Int) < 0 then ((-1 : Int) + (xs.length : Int)).toNat else min (-1 : Int).toNat xs.length) = _
    rw [if_pos (by omega)]
    omega
  rw [e] at hw
  rw [hw.1]
  exact ha
section
variable {K : PySem.W.Frag} {H H' : Hp} {ns : List Int} {da sa : Addr} {T : List (Addr × Str)}
theorem DrawS.extN (d : DrawS K ns da sa H) (e : LamX.ExtN H H') : DrawS K ns da sa H' :=
  let ⟨n, hn⟩ := d.at_
  ⟨⟨n, e _ _ hn fun _ z => nomatch z⟩, ExtN.lst e d.sc, d.len⟩
theorem tabs_to (t : LamX.Tabs T H) (d : DrawS K ns da sa H) (e : DrawTo da H H') : LamX.Tabs T H' := fun p hp => by
  obtain ⟨n, hn⟩ := d.at_
  obtain ⟨ps, h1, h2, h3⟩ := t p hp
  refine ⟨ps, e _ _ (fun z => ?_) h1, h2, fun pos cv hc => ?_⟩
  · rw [z, hn] at h1
    cases h1
  · obtain ⟨c, e1, e2⟩ := h3 pos cv hc
    refine ⟨c, e1, e _ _ (fun z => ?_) e2⟩
    rw [z, hn] at e2
    have e3 := Option.some.inj e2
    unfold LamX.CodeO at e3
    cases e3
end
section
variable {P : Program} {w : World} {K : PySem.W.Frag} {mg : Str → Option Value} {base : Heap} {f : Addr} {fd : FuncData}
abbrev nLaw : List Str := ["script", "draw", "turn", "way", "kind", "offers", "every", "good", "some", "found", "others", "lot", "one"]
theorem sc_law : FnScope nLaw ["script"] d_law.scope := ⟨rfl, rfl, rfl, by decide +kernel, rfl, by decide +kernel, by decide +kernel⟩
def sp_law (K : PySem.W.Frag) (T : List (Addr × Str)) : Sp := fun vs H Q _ => ∃ (sa : Addr) (ns : List Int), vs = [.ref sa] ∧ SqL K H sa (ns.map V.int) ∧ ns.length ≤ 63 ∧ LamX.Tabs T H ∧ ∀ H', Q (.bl true) H'
theorem kind_of {v : V} (h : v ∈ [V.str "any", .str "bare", .str "lone", .str "paired"]) : ∃ k : Kd, v = .str (kdS k) := by
  simp only [List.mem_cons, List.not_mem_nil, or_false] at h
  rcases h with h | h | h | h
  · exact ⟨.any, h⟩
  · exact ⟨.bare, h⟩
  · exact ⟨.lone, h⟩
  · exact ⟨.paired, h⟩
theorem ok_law {T : List (Addr × Str)} {CA CS : Addr} (G : Glb K w mg) (gS : mg "Spared" = some (.ref CS)) (clS : ClsI K CS) (gI : GetI K) (kS : PySem.W.kitOne K (.ref CS) (.ref CS) = some true) (na : NoAttr K CS "good") (na2 : NoAttr K CS "fails")
    (cWay : Cal P w K mg base 4 "_law_way" ["draw", "most"] (sp_law_way K)) (cPick : Cal P w K mg base 3 "_law_pick" ["draw", "things"] (sp_law_pick K)) (cTake : Cal P w K mg base 2 "_law_take" ["draw", "many"] (sp_law_take K))
    (cOff : Cal P w K mg base 3 "_law_offers" ["draw", "way"] (sp_law_offers K)) (cLL : Cal P w K mg base 4 "_law_lots" ["offers"] (sp_lots_of K T)) (cLo : Cal P w K mg base 5 "lots" ["way", "offers"] (sp_lots K T))
    (cWo : Cal P w K mg base 3 "without" ["way", "lot"] (sp_without K)) (cLe : Cal P w K mg base 1 "_law_left" ["way", "lot"] (sp_left_of K)) (cAl : Cal P w K mg base 8 "are_alike" ["one", "other", "kind"] (sp_are_alike K))
    (cIn : Cal P w K mg base 1 "_law_in" ["one", "lot"] (sp_is_within K)) (cGr : Cal P w K mg base 8 "greatest_lots" ["way", "offers", "kind"] (sp_greatest_lots K T)) (cSp : Cal P w K mg base 7 "spare" ["way", "offers", "kind"] (sp_spare K w T CS))
    (cSh : CalT P w K mg base 7 CS "shows" ["self", "way", "offers", "kind"] (sp_Spared_shows K w T CS)) (mA : CalM P w K mg base 1 "Alike" CA ["self", "rows"] (sp_Alike_init K CA)) (cAs : CalT P w K mg base 7 CA "shows" ["self", "one", "other", "kind"] (sp_Alike_shows K CA))
    (cPa : Cal P w K mg base 3 "_law_parts" ["one", "other", "kind", "text"] (sp_is_parting K)) (F : FnP K d_law f fd) : FnOk P w K mg base CX0 9 f fd ["script"] (sp_law K T) := by
  refine F.ok sc_law (fun vs H Q E h => ?_) (fun cdv A outer s H vs Q E hr h => ?_)
  · obtain ⟨sa, ns, rfl, _⟩ := h
    rfl
  · obtain ⟨sa, ns, rfl, hs, hl, hT, q⟩ := h
    have sl := sizeLine_eq
    have hu := hr.units
    refine ⟨_, PSs.nox (pss_cons (ps_set (i := 1) sc_law.nd rfl (.inl rfl) (pe_lst (pa_cons (pv 0) (pa_cons pe_int pa_nil))))
      (pss_cons (ps_for PassesOwn.never rfl (pi_range1 (by rfl) G.range (pa_cons pe_int pa_nil)) (pg_name (i := 2) sc_law.nd rfl (.inl rfl))
        (pss_cons (ps_asg (pe_tup (pa_cons (pe_cal cWay hr (by decide) rfl (pa_cons (pv 1) (pa_cons pe_int pa_nil))) (pa_cons (pe_cal cPick hr (by decide) rfl (pa_cons (pv 1) (pa_cons (pe_lst (pa_cons pe_str (pa_cons pe_str (pa_cons pe_str (pa_cons pe_str pa_nil))))) pa_nil))) pa_nil)))
          (pg_tup rfl (pgs_cons (pg_name (i := 3) sc_law.nd rfl (.inr rfl)) (pgs_cons (pg_name (i := 4) sc_law.nd rfl (.inr rfl)) pgs_nil))))
        (pss_cons (ps_if (pt_cmpR (o_eqD K hu) (pv 3) (pe_tup pa_nil) (nomark _)) (pss_one (ps_set (i := 3) sc_law.nd rfl (.inr rfl) (pe_tup (pa_cons pe_str (pa_cons pe_str pa_nil))))) pss_nil)
        (pss_cons (ps_if (pt_cmpR op_eq (pe_cal cTake hr (by decide) rfl (pa_cons (pv 1) (pa_cons pe_int pa_nil))) pe_int (nomark _)) (pss_one (ps_set (i := 3) sc_law.nd rfl (.inr rfl) (pe_op (o_catA K) (pv 3) (pe_slice sl_tupA (pv 3) (po_some (pe_un un_neg pe_int)) po_none)))) pss_nil)
        (pss_cons (ps_set (i := 5) sc_law.nd rfl (.inl rfl) (pe_cal cOff hr (by decide) rfl (pa_cons (pv 1) (pa_cons (pv 3) pa_nil))))
        (pss_cons (ps_set (i := 6) sc_law.nd rfl (.inl rfl) (pe_cal cLL hr (by decide) rfl (pa_cons (pv 5) pa_nil)))
        (pss_cons (ps_if (pt_cmpR (o_neD K hu) (pe_cal cLo hr (by decide) rfl (pa_cons (pv 3) (pa_cons (pv 5) pa_nil))) (pv 6) (nomark _)) (pss_one (ps_ret pe_bl)) pss_nil)
        (pss_cons (ps_if (pt_not (pt_val (pe_callB (c_all K rfl) (by rfl) G.all b_all (pa_cons (pe_lc (own := [("lot", 11)]) (g := gName 11) (tt := tYes) rfl sc_law.nd (pi_list (pv 6)) (blkOk_by (own := [("lot", 11)]) (N := nLaw) (sc := d_law.scope) (by decide +kernel))
            (fun _ _ _ _ _ => pg_name (i := 11) sc_law.nd rfl (.inl rfl)) (fun _ _ _ _ _ => pts_nil) (fun _ _ _ _ _ => pe_cmpR (o_eqD K hu) (pe_cal cWo hr (by decide) rfl (pa_cons (pv 3) (pa_cons (pv 11) pa_nil))) (pe_cal cLe hr (by decide) rfl (pa_cons (pv 3) (pa_cons (pv 11) pa_nil))) (nomark _))) pa_nil)))) (pss_one (ps_ret pe_bl)) pss_nil)
        (pss_cons (ps_set (i := 7) sc_law.nd rfl (.inr rfl) (pe_lc (own := [("lot", 11)]) (g := gName 11) rfl sc_law.nd (pi_list (pv 6)) (blkOk_by (own := [("lot", 11)]) (N := nLaw) (sc := d_law.scope) (by decide +kernel))
            (fun _ _ _ _ _ => pg_name (i := 11) sc_law.nd rfl (.inl rfl)) (fun _ _ _ _ _ => pts_one (pt_val (pe_cal cAl hr (by decide) rfl (pa_cons (pv 3) (pa_cons (pe_cal cLe hr (by decide) rfl (pa_cons (pv 3) (pa_cons (pv 11) pa_nil))) (pa_cons (pv 4) pa_nil)))))) (fun _ _ _ _ _ => pv 11)))
        (pss_cons (ps_set (i := 8) sc_law.nd rfl (.inr rfl) (pe_lc (own := [("lot", 11)]) (g := gName 11) rfl sc_law.nd (pi_list (pv 7)) (blkOk_by (own := [("lot", 11)]) (N := nLaw) (sc := d_law.scope) (by decide +kernel))
            (fun _ _ _ _ _ => pg_name (i := 11) sc_law.nd rfl (.inr rfl))
            (fun _ _ _ _ _ => pts_one (pt_not (pt_val (pe_callB (c_any K rfl) (by rfl) G.any b_any (pa_cons (pe_lc (own := [("one", 12)]) (g := gName 12) (tt := tYes) rfl sc_law.nd (w_list K (pv 7)) (blk_in (own := [("one", 12)]) (N := nLaw) d_law.scope (by decide +kernel))
              (fun _ _ _ _ _ => pg_name (i := 12) sc_law.nd rfl (.inl rfl)) (fun _ _ _ _ _ => pts_nil) (fun _ _ _ _ _ => pe_and (pe_cmpR (o_neD K hu) (pv 12) (pv 11) (nomark _)) (pe_one (pe_cal cIn hr (by decide) rfl (pa_cons (pv 11) (pa_cons (pv 12) pa_nil)))))) pa_nil))))) (fun _ _ _ _ _ => pv 11)))
        (pss_cons (ps_if (pt_cmpR (o_neD K hu) (pe_cal cGr hr (by decide) rfl (pa_cons (pv 3) (pa_cons (pv 5) (pa_cons (pv 4) pa_nil)))) (pv 8) (nomark _)) (pss_one (ps_ret pe_bl)) pss_nil)
        (pss_cons (ps_asg (pe_tup (pa_cons (pe_cal cSp hr (by decide) rfl (pa_cons (pv 3) (pa_cons (pv 5) (pa_cons (pv 4) pa_nil)))) (pa_cons (pe_lc (own := [("lot", 11)]) (g := gName 11) rfl sc_law.nd (pi_list (pv 6)) (blkOk_by (own := [("lot", 11)]) (N := nLaw) (sc := d_law.scope) (by decide +kernel))
            (fun _ _ _ _ _ => pg_name (i := 11) sc_law.nd rfl (.inr rfl))
            (fun _ _ _ _ _ => pts_one (pt_not (pt_val (pe_callB (c_any K rfl) (by rfl) G.any b_any (pa_cons (pe_lc (own := [("one", 12)]) (g := gName 12) (tt := tYes) rfl sc_law.nd (w_list K (pv 8)) (blk_in (own := [("one", 12)]) (N := nLaw) d_law.scope (by decide +kernel))
              (fun _ _ _ _ _ => pg_name (i := 12) sc_law.nd rfl (.inl rfl)) (fun _ _ _ _ _ => pts_nil) (fun _ _ _ _ _ => pe_cal cIn hr (by decide) rfl (pa_cons (pv 11) (pa_cons (pv 12) pa_nil)))) pa_nil))))) (fun _ _ _ _ _ => pv 11)) pa_nil)))
          (pg_tup rfl (pgs_cons (pg_name (i := 9) sc_law.nd rfl (.inr rfl)) (pgs_cons (pg_name (i := 10) sc_law.nd rfl (.inl rfl)) pgs_nil))))
        (pss_cons (ps_if (PW.pt (pw_or (pt_not (pt_val (pe_callB (c_isi K) (by rfl) G.isinstance b_isinstance (pa_cons (pv 9) (pa_cons (pe_glob (v := .ref CS) (by rfl) gS rfl) pa_nil))))) (pw_or1 (pt_cmpR op_notBl (pe_mt cSh (pv 9) hr (by decide) (pa_cons (pv 3) (pa_cons (pv 5) (pa_cons (pv 4) pa_nil)))) pe_bl (nomark _))))) (pss_one (ps_ret pe_bl)) pss_nil)
        (pss_cons (ps_if (PW.pt (pw_or (pt_cmpR (o_neD K hu) (pe_callTy (c_dcList K (w := w) rfl) (by rfl) G.list b_list (pa_cons (p_fld K (pv 9)) pa_nil)) (pv 8) (nomark _)) (pw_or1 (pt_cmpR (o_neD K hu) (pe_callTy (c_dcList K (w := w) rfl) (by rfl) G.list b_list (pa_cons (p_fld K (pv 9)) pa_nil)) (pv 10) (nomark _))))) (pss_one (ps_ret pe_bl)) pss_nil)
        (pss_cons (ps_if (pt_not (pt_val (pe_callB (c_all K rfl) (by rfl) G.all b_all (pa_cons (pe_lc (own := [("lot", 11)]) (g := gName 11) (tt := tYes) rfl sc_law.nd (pi_list (pv 8)) (blkOk_by (own := [("lot", 11)]) (N := nLaw) (sc := d_law.scope) (by decide +kernel))
            (fun _ _ _ _ _ => pg_name (i := 11) sc_law.nd rfl (.inl rfl)) (fun _ _ _ _ _ => pts_nil) (fun _ _ _ _ _ => pe_mt cAs (pe_mk mA hr (by decide) rfl (pa_cons (pe_ix (x_dc K (w := w) hu) (p_fld K (pv 9)) (pv 11) (fun _ _ => rfl)) pa_nil)) hr (by decide) (pa_cons (pv 3) (pa_cons (pe_cal cLe hr (by decide) rfl (pa_cons (pv 3) (pa_cons (pv 11) pa_nil))) (pa_cons (pv 4) pa_nil))))) pa_nil)))) (pss_one (ps_ret pe_bl)) pss_nil)
        (pss_one (ps_if (pt_not (pt_val (pe_callB (c_all K rfl) (by rfl) G.all b_all (pa_cons (pe_lc (own := [("lot", 11)]) (g := gName 11) (tt := tYes) rfl sc_law.nd (pi_list (pv 10)) (blkOk_by (own := [("lot", 11)]) (N := nLaw) (sc := d_law.scope) (by decide +kernel))
            (fun _ _ _ _ _ => pg_name (i := 11) sc_law.nd rfl (.inl rfl)) (fun _ _ _ _ _ => pts_nil) (fun _ _ _ _ _ => pe_cal cPa hr (by decide) rfl (pa_cons (pv 3) (pa_cons (pe_cal cLe hr (by decide) rfl (pa_cons (pv 3) (pa_cons (pv 11) pa_nil))) (pa_cons (pv 4) (pa_cons (pe_ix (x_dc K (w := w) hu) (p_fld K (pv 9)) (pv 11) (fun _ _ => rfl)) pa_nil)))))) pa_nil)))) (pss_one (ps_ret pe_bl)) pss_nil)))))))))))))))))
      (pss_one (ps_ret pe_bl)))), ?_⟩
    refine ⟨_, rfl, two_line, fun da nda => ?_⟩
    have e0 := same_new (o := HO.lst [V.ref sa, .int 0]) nda
    have ds0 : DrawS K ns da sa (upd H da (.lst [V.ref sa, .int 0])) := ⟨⟨0, upd_same⟩, e0.seq hs, hl⟩
    have t0 := hT.ext e0
    refine ⟨3, rfl, by omega, by omega, for_it (walk_range (lo := 0) (n := 3)) (fun i σ H' => ∃ v2 v3 v4 v5 v6 v7 v8 v9 v10 v11 v12, DrawS K ns da sa H' ∧ LamX.Tabs T H' ∧ σ = [some (.ref sa), some (.ref da), v2, v3, v4, v5, v6, v7, v8, v9, v10, v11, v12])
      ⟨none, none, none, none, none, none, none, none, none, none, none, ds0, t0, rfl⟩ (fun _ _ _ _ _ => True.intro) ?_ ?_⟩
    · rintro i x σ H1 H2 hi ⟨v2, v3, v4, v5, v6, v7, v8, v9, v10, v11, v12, ds1, t1, rfl⟩ ⟨rfl, rfl⟩
      -- way, kind
      refine ⟨_, rfl, da, sa, ns, 4, rfl, ds1, by decide, fun H2 r wy hwy d2 ds2 dw2 => ?_⟩
      have t2 := tabs_to t1 ds1 d2
      refine ⟨_, rfl, by show 4 ≤ sizeLine; decide, fun ta nta => ?_⟩
      have e3 := same_new (o := HO.lst [V.str "any", .str "bare", .str "lone", .str "paired"]) nta
      have ds3 := ds2.ext e3
      refine ⟨da, sa, ns, ta, _, rfl, ds3, upd_same, by show 0 < 4; decide, ?_, fun H4 v hv d4 ds4 => ?_⟩
      · intro z
        obtain ⟨n, hn⟩ := ds2.at_
        rw [z, hn] at nta
        cases nta
      obtain ⟨k, rfl⟩ := kind_of hv
      have t4 := tabs_to (t2.ext e3) ds3 d4
      have dw4 : Dp K H4 r (wayD wy) := dp_to ds3.lst d4 (flt_way _) (Same.dp e3 dw2)
      refine ⟨two_line, fun T5 nT5 => ?_⟩
      have e5 := same_new (o := HO.tup [r, .str (kdS k)]) nT5
      refine ⟨T5, _, rfl, .inl (.inl upd_same), rfl, _, _, rfl, _, _, rfl, rfl, ?_⟩
      have ds5 := ds4.ext e5
      have t5 := t4.ext e5
      have dw5 := Same.dp e5 dw4
      generalize upd H4 T5 (.tup [r, .str (kdS k)]) = H5 at *
      clear e3 e5 dw4 dw2 ds4 t4 ds3 t2 ds2
      -- way == ()
      refine ⟨_, rfl, Nat.zero_le _, fun e0 ne0 => ?_⟩
      have e6 := same_new (o := HO.tup []) ne0
      refine ⟨_, _, Same.dp e6 dw5, .tup (.inl (.inl upd_same)) .nil, sh_way _, by decide, _, rfl, ?_⟩
      rw [eqv_way_nil]
      have ds6 := ds5.ext e6
      have t6 := t5.ext e6
      have dw6 := Same.dp e6 dw5
      generalize upd H5 e0 (.tup []) = H6 at *
      refine join_if (fun σ' H' => ∃ r wy, wy ≠ [] ∧ wy.length ≤ 4 ∧ DrawS K ns da sa H' ∧ LamX.Tabs T H' ∧ Dp K H' r (wayD wy) ∧ σ' = [some (.ref sa), some (.ref da), some (.int (0 + (i : Nat))), some r, some (.str (kdS k)), v5, v6, v7, v8, v9, v10, v11, v12]) ?_ (fun hb rest => ?_) (fun hb => ?_)
      rotate_left
      · refine ⟨two_line, fun p np => rest _ _ ⟨_, [.care, .care], by decide, by decide, ds6.ext (same_new np), t6.ext (same_new np), way_dp (.inl (.inl upd_same)), rfl⟩⟩
      · refine ⟨r, wy, of_decide_eq_false hb, hwy, ds6, t6, dw6, rfl⟩
      clear hwy dw5 dw6 ds5 ds6 t5 t6 e6
      rintro σ7 H7 ⟨r, wy, hne, hwy, ds7, t7, dw7, rfl⟩
      -- _law_take(draw, 2) == 0
      refine ⟨_, rfl, da, sa, ns, 2, rfl, ds7, by decide, fun H8 r2 hr2 d8 ds8 => ⟨rfl, _, rfl, ?_⟩⟩
      have t8 := tabs_to t7 ds7 d8
      have dw8 : Dp K H8 r (wayD wy) := dp_to ds7.lst d8 (flt_way _) dw7
      refine join_if (fun σ' H' => ∃ r wy, wy ≠ [] ∧ wy.length ≤ 5 ∧ DrawS K ns da sa H' ∧ LamX.Tabs T H' ∧ Dp K H' r (wayD wy) ∧ σ' = [some (.ref sa), some (.ref da), some (.int (0 + (i : Nat))), some r, some (.str (kdS k)), v5, v6, v7, v8, v9, v10, v11, v12]) ?_ (fun hb rest => ?_) (fun hb => ?_)
      rotate_left
      · obtain ⟨a, rfl, ha⟩ := dp_way dw8
        refine ⟨_, rfl, _, rfl, 1, rfl, -1, rfl, ?_⟩
        dsimp only [tNoPart]
        refine slA_last (by rw [List.length_map]; exact List.length_pos_iff.mpr hne) ha fun H9 b e9 hb9 => ?_
        have ha9 := Same.tup e9 ha
        rw [List.length_map, ← List.map_drop] at hb9
        have hdl : (wy.drop (wy.length - 1)).length ≤ 1 := by rw [List.length_drop]; omega
        refine ⟨a, b, _, _, rfl, rfl, ha9, hb9, by rw [List.length_map, List.length_map]; omega, fun hx => ?_, fun _ hy => ?_, fun _ _ p np => ?_⟩
        · exact absurd (List.map_eq_nil_iff.mp hx) hne
        · have hz := congrArg List.length (List.map_eq_nil_iff.mp hy)
          rw [List.length_drop] at hz
          have hp := List.length_pos_iff.mpr hne
          have hz2 : wy.length - (wy.length - 1) = 0 := hz
          omega
        · have e10 := same_new (o := HO.tup ((wy.map fun c => V.str (cvS c)) ++ ((wy.drop (wy.length - 1)).map fun c => V.str (cvS c)))) np
          have e810 := same_trans e9 e10
          refine rest _ _ ⟨.ref p, wy ++ wy.drop (wy.length - 1), by simp [hne], by rw [List.length_append]; omega, ds8.ext e810, t8.ext e810, way_dp (.inl (.inl ?_)), rfl⟩
          rw [upd_same, List.map_append]
      · exact ⟨r, wy, hne, by omega, ds8, t8, dw8, rfl⟩
      clear hwy hne dw7 dw8 ds7 ds8 t7 t8 d8
      rintro σ9 H9 ⟨v1, wy, hne, hwy, ds9, t9, dw9, rfl⟩
      -- offers, every
      refine ⟨_, rfl, _, rfl, da, sa, ns, v1, wy, rfl, ds9, dw9, List.length_pos_iff.mpr hne, by omega, fun H10 ro l ok d10 ds10 dl10 => ?_⟩
      have t10 := tabs_to t9 ds9 d10
      have dw10 : Dp K H10 v1 (wayD wy) := dp_to ds9.lst d10 (flt_way _) dw9
      refine ⟨_, rfl, ro, l, rfl, dl10, ok.few, t10, fun H11 p11 e11 t11 dE11 => ?_⟩
      have dw11 := ExtN.dp e11 dw10
      have dl11 := ExtN.dp e11 dl10
      have ds11 := ds10.extN e11
      have hsub := every_sub ok
      have hel := every_len ok
      have hsl := some_len (k := k) ok
      have hrl := rest_len (k := k) ok
      have hgl : (goodL wy k l).length ≤ 16 := Nat.le_trans (List.length_filter_le _ _) hel
      clear t9 t10 dw9 dw10 dl10 ds9 ds10 d10 e11
      -- lots(way, offers) != every
      refine ⟨_, rfl, _, rfl, v1, ro, wy, l, rfl, dw11, dl11, ok, t11, fun H12 p12 e12 t12 dL12 => ?_⟩
      have dw12 := ExtN.dp e12 dw11
      have dl12 := ExtN.dp e12 dl11
      have dE12 := ExtN.dp e12 dE11
      have ds12 := ds11.extN e12
      refine ⟨_, rfl, _, _, dL12, dE12, sh_lots _, sh_lots _, _, rfl, ?_⟩
      have sameL : ∀ m : List (List Nat), (!PyData.eqv (lotsD m) (lotsD m)) = false := fun m => by rw [eqv_self _ (lay_lots _)]; rfl
      rw [sameL]
      refine iteF ?_
      clear dw11 dl11 dE11 ds11 e12 t11 dL12
      -- without == _law_left
      obtain ⟨_, es, ep, hes, _⟩ := dp_lst dE12
      cases ep
      refine ⟨_, rfl, p11, rfl, ⟨_, hes⟩, fun D nD => lc_bools (K := K) (L := everyL l) (p := fun _ => true) (walk_lstD (K := K) (a := p11) (L := everyL l) (g := lotD)) nD (by omega) (fun H' e => Same.dp e dE12) ?_ gName_mono ?_⟩
      · rintro j lot y2 H13 H14 Nx hz e ⟨rfl, y⟩ kk
        have dlot := y lot hz
        have hlot := every_lot ok (List.mem_of_getElem? hz)
        refine ⟨rfl, _, rfl, _, rfl, v1, y2, wy, lot, rfl, Same.dp e dw12, dlot, hlot, fun H15 r3 e15 dr3 => ?_⟩
        refine ⟨_, rfl, _, rfl, v1, y2, wy, lot, rfl, Same.dp (same_trans e e15) dw12, Same.dp e15 dlot, hlot.wl, fun H16 r4 e16 dr4 => ?_⟩
        refine ⟨_, _, Same.dp e16 dr3, dr4, sh_way _, sh_way _, ?_⟩
        rw [eqv_self _ (lay_way _)]
        exact kk _ (same_trans e15 e16)
      intro H13 e13 hD13
      refine ⟨D, _, rfl, hD13, _, rfl, ?_⟩
      rw [all_map, all_true]
      refine iteF ?_
      have dw13 := Same.dp e13 dw12
      have dl13 := Same.dp e13 dl12
      have dE13 := Same.dp e13 dE12
      have ds13 := ds12.ext e13
      have t13 := t12.ext e13
      clear dw12 dl12 dE12 ds12 t12 e13 hD13 nD D
      -- good
      obtain ⟨_, es, ep, hes, _⟩ := dp_lst dE13
      cases ep
      refine ⟨_, rfl, p11, rfl, ⟨_, hes⟩, fun D nD => lc_data (K := K) (L := everyL l) (f := lotD) (sel := fun lot => alikeB wy (leftOf wy lot) k) (walk_lstD (K := K) (a := p11) (L := everyL l) (g := lotD)) nD flt_lot (by omega) (fun H' e => Same.dp e dE13) ?_ ?_⟩
      · rintro j lot y2 H14 H15 Nx hz e ⟨rfl, y⟩ hyes hno
        have dlot := y lot hz
        have hlot := every_lot ok (List.mem_of_getElem? hz)
        refine ⟨rfl, ?_⟩
        refine ⟨_, rfl, _, rfl, _, rfl, v1, y2, wy, lot, rfl, Same.dp e dw13, dlot, hlot.wl, fun H15 r3 e15 dr3 => ?_⟩
        refine ⟨_, rfl, v1, r3, wy, leftOf wy lot, k, rfl, Same.dp (same_trans e e15) dw13, dr3, hlot.wl, Nat.le_trans (leftOf_len _ _) hlot.wl, fun H16 e16 => ⟨_, rfl, ?_⟩⟩
        have e1516 := same_trans e15 e16
        cases hal : alikeB wy (leftOf wy lot) k with
        | true => exact iteT ⟨_, rfl, hyes hal _ _ e1516 (Same.dp e1516 dlot)⟩
        | false => exact iteF (hno hal _ e1516)
      intro H14 ysG e14 hD14 dallG
      have dG14 : Dp K H14 (.ref D) (lotsD (goodL wy k l)) := .lst (.inl (.inl hD14)) dallG
      have dw14 := Same.dp e14 dw13
      have dl14 := Same.dp e14 dl13
      have dE14 := Same.dp e14 dE13
      have ds14 := ds13.ext e14
      have t14 := t13.ext e14
      clear dw13 dl13 dE13 ds13 t13 e14 hD14 dallG nD
      -- some
      obtain ⟨_, gs, ep, hgs, _⟩ := dp_lst dG14
      cases ep
      refine ⟨_, rfl, D, rfl, ⟨_, hgs⟩, fun D7 nD7 => ?_⟩
      refine lc_data (K := K) (L := goodL wy k l) (f := lotD) (sel := fun lot => !((goodL wy k l).any fun one => !decide (lot = one) && within lot one)) (walk_lstD (K := K) (a := D) (L := goodL wy k l) (g := lotD)) nD7 flt_lot (by omega) (fun H' e => Same.dp e dG14) ?_ ?_
      · rintro j lot x H7 H8 Nx hz e ⟨rfl, y⟩ hyes hno
        have dlot := y lot hz
        obtain ⟨la, rfl, hla⟩ := dp_lot dlot
        have hlot := every_lot ok (good_mem.mp (List.mem_of_getElem? hz)).1
        have dE8 := Same.dp e dG14
        obtain ⟨_, es8, ep, hes8, _⟩ := dp_lst dE8
        cases ep
        refine ⟨rfl, ?_⟩
        refine ⟨_, rfl, D, rfl, ⟨_, hes8⟩, fun D9 nD9 => lc_bools (K := K) (L := goodL wy k l) (p := fun one => !decide (lot = one) && within lot one) (walk_lstD (K := K) (a := D) (L := goodL wy k l) (g := lotD)) nD9 (by omega) (fun H' e' => Same.dp e' dE8) ?_ gName_mono ?_⟩
        · rintro i9 one x9 H9 H10 Nx9 hz9 e9 ⟨rfl, y9⟩ kk
          have done_ := y9 one hz9
          obtain ⟨oa, rfl, hoa⟩ := dp_lot done_
          have dlot9 := Same.dp e9 dlot
          refine ⟨rfl, ?_⟩
          refine ⟨_, rfl, _, rfl, lotD one, lotD lot, done_, dlot9, sh_lot _, sh_lot _, _, rfl, ?_⟩
          rw [eqv_lot]
          have esym : decide (one = lot) = decide (lot = one) := by
            by_cases h : lot = one
            · rw [h]
            · rw [decide_eq_false h, decide_eq_false (fun z => h z.symm)]
          rw [esym]
          cases hdec : decide (lot = one) with
          | true =>
            rw [hdec] at kk
            exact iteF (kk _ fun _ _ z => z)
          | false =>
            rw [hdec] at kk
            refine iteT ⟨_, rfl, _, rfl, .ref la, .ref oa, lot, one, rfl, dlot9, done_, by have := hlot.len; omega, fun H11 e11 => ?_⟩
            exact kk _ e11
        · intro H10 e10 hD9
          refine ⟨D9, _, rfl, hD9, _, rfl, ?_⟩
          rw [any_map]
          cases hany : (goodL wy k l).any (fun one => !decide (lot = one) && within lot one) with
          | true => exact iteF (hno (by show (!_) = false; rw [hany]; rfl) _ e10)
          | false => exact iteT ⟨_, rfl, hyes (by show (!_) = true; rw [hany]; rfl) _ _ e10 (Same.dp e10 dlot)⟩
      intro H15 ysS e15 hD15 dallS
      have dS15 : Dp K H15 (.ref D7) (lotsD (someL wy k l)) := .lst (.inl (.inl hD15)) dallS
      have dw15 := Same.dp e15 dw14
      have dl15 := Same.dp e15 dl14
      have dE15 := Same.dp e15 dE14
      have ds15 := ds14.ext e15
      have t15 := t14.ext e15
      clear dw14 dl14 dE14 ds14 t14 e15 hD15 dallS nD7 dG14
      -- greatest_lots != some
      refine ⟨_, rfl, _, rfl, _, rfl, v1, ro, wy, l, k, rfl, dw15, dl15, ok, t15, fun H16 p16 e16 t16 dP16 => ?_⟩
      have dw16 := ExtN.dp e16 dw15
      have dl16 := ExtN.dp e16 dl15
      have dE16 := ExtN.dp e16 dE15
      have dS16 := ExtN.dp e16 dS15
      have ds16 := ds15.extN e16
      refine ⟨_, rfl, _, _, dP16, dS16, sh_lots _, sh_lots _, _, rfl, ?_⟩
      rw [sameL]
      refine iteF ?_
      clear dw15 dl15 dE15 dS15 ds15 t15 e16 dP16
      -- found, others
      refine ⟨_, rfl, _, rfl, _, rfl, v1, ro, wy, l, k, rfl, dw16, dl16, ok, t16, fun H17 xS e17 t17 hsp17 => ?_⟩
      have dw17 := ExtN.dp e17 dw16
      have dl17 := ExtN.dp e17 dl16
      have dE17 := ExtN.dp e17 dE16
      have dS17 := ExtN.dp e17 dS16
      have ds17 := ds16.extN e17
      clear dw16 dl16 dE16 dS16 ds16 t16 e17
      obtain ⟨_, es, ep, hes, _⟩ := dp_lst dE17
      cases ep
      refine ⟨_, rfl, p11, rfl, ⟨_, hes⟩, fun D10 nD10 => ?_⟩
      refine lc_data (K := K) (L := everyL l) (f := lotD) (sel := fun lot => !((someL wy k l).any fun one => within lot one)) (walk_lstD (K := K) (a := p11) (L := everyL l) (g := lotD)) nD10 flt_lot (by omega) (fun H' e => Same.dp e dE17) ?_ ?_
      · rintro j lot x H10 H11 Nx hz e ⟨rfl, y⟩ hyes hno
        have dlot := y lot hz
        obtain ⟨ak, rfl, hak⟩ := dp_lot dlot
        have hlot := every_lot ok (List.mem_of_getElem? hz)
        have dS11 := Same.dp e dS17
        obtain ⟨_, es8, ep, hes8, _⟩ := dp_lst dS11
        cases ep
        refine ⟨rfl, ?_⟩
        refine ⟨_, rfl, D7, rfl, ⟨_, hes8⟩, fun D12 nD12 => lc_bools (K := K) (L := someL wy k l) (p := fun one => within lot one) (walk_lstD (K := K) (a := D7) (L := someL wy k l) (g := lotD)) nD12 (by omega) (fun H' e' => Same.dp e' dS11) ?_ gName_mono ?_⟩
        · rintro i9 one x9 H12 H13 Nx9 hz9 e12 ⟨rfl, y9⟩ kk
          have done_ := y9 one hz9
          obtain ⟨oa, rfl, hoa⟩ := dp_lot done_
          refine ⟨rfl, ?_⟩
          exact ⟨_, rfl, _, rfl, .ref ak, .ref oa, lot, one, rfl, Same.dp e12 dlot, done_, by have := hlot.len; omega, fun H14 e14 => kk _ e14⟩
        · intro H12 e12 hD12
          refine ⟨D12, _, rfl, hD12, _, rfl, ?_⟩
          rw [any_map]
          cases hany : (someL wy k l).any (fun one => within lot one) with
          | true => exact iteF (hno (by show (!_) = false; rw [hany]; rfl) _ e12)
          | false => exact iteT ⟨_, rfl, hyes (by show (!_) = true; rw [hany]; rfl) _ _ e12 (Same.dp e12 dlot)⟩
      intro H18 ysR e18 hD18 dallR
      refine ⟨two_line, fun T18 nT18 => ?_⟩
      have eT := same_new (o := HO.tup [.ref xS, .ref D10]) nT18
      refine ⟨T18, _, rfl, .inl (.inl upd_same), rfl, _, _, rfl, _, _, rfl, rfl, ?_⟩
      have dR0 : Dp K H18 (.ref D10) (lotsD (restL wy k l)) := .lst (.inl (.inl hD18)) dallR
      have dR19 := Same.dp eT dR0
      have e19 := same_trans e18 eT
      have dw19 := Same.dp e19 dw17
      have dl19 := Same.dp e19 dl17
      have dS19 := Same.dp e19 dS17
      have ds19 := ds17.ext e19
      have t19 := t17.ext e19
      have hsp19 := hsp17.ext e19
      generalize upd H18 T18 (.tup [.ref xS, .ref D10]) = H19 at *
      clear dw17 dl17 dE17 dS17 ds17 t17 hsp17 dR0 eT e19 e18 hD18 dallR nD10
      -- isinstance, shows
      have hspC := hsp19
      obtain ⟨dx, d1, d2, gk, fk, hx, dc1, ga, dc2, fb⟩ := hspC
      refine ⟨_, rfl, _, _, .ref CS, _, true, rfl, .own CS, tyX_ins clS gI hx, kS, _, rfl, iteF ?_⟩
      refine ⟨_, rfl, xS, dx, _, rfl, hx, lk_shows, _, rfl, _, rfl, _, rfl, xS, v1, ro, wy, l, k, rfl, dw19, dl19, ok, t19, hsp19, fun H20 e20 t20 => ⟨_, _, rfl, rfl, _, rfl, iteF ?_⟩⟩
      have dw20 := ExtN.dp e20 dw19
      have dl20 := ExtN.dp e20 dl19
      have dS20 := ExtN.dp e20 dS19
      have dR20 := ExtN.dp e20 dR19
      have ds20 := ds19.extN e20
      have hsp20 := hsp19.extN e20
      clear dw19 dl19 dS19 dR19 ds19 t19 hsp19 hx dc1 ga dc2 fb e20
      obtain ⟨dx, d1, d2, gk, fk, hx, dc1, ga, dc2, fb⟩ := hsp20
      -- list(found.good) != some or list(found.fails) != others
      refine ⟨_, rfl, xS, CS, dx, _, _, rfl, hx, clS.cl, na, lk_good, d1, gk, rfl, dc1, fun la xs nla dall => ?_⟩
      rw [paired_keys (fun _ _ z => z.1) ga] at dall
      have ea := same_new (o := HO.lst xs) nla
      have dX : Dp K (upd H20 la (.lst xs)) (.ref la) (lotsD (someL wy k l)) := .lst (.inl (.inl upd_same)) dall
      refine ⟨_, rfl, _, _, dX, Same.dp ea dS20, sh_lots _, sh_lots _, _, rfl, ?_⟩
      rw [sameL]
      refine iteF ?_
      refine ⟨_, rfl, xS, CS, dx, _, _, rfl, ea _ _ hx, clS.cl, na2, lk_fails, d2, fk, rfl, dc2.same ea, fun lb xs2 nlb dall2 => ?_⟩
      rw [paired_keys (fun _ _ z => z.1) fb] at dall2
      have eb := same_new (o := HO.lst xs2) nlb
      have eab := same_trans ea eb
      have dY : Dp K (upd (upd H20 la (.lst xs)) lb (.lst xs2)) (.ref lb) (lotsD (restL wy k l)) := .lst (.inl (.inl upd_same)) dall2
      refine ⟨_, rfl, _, _, dY, Same.dp eab dR20, sh_lots _, sh_lots _, _, rfl, ?_⟩
      rw [sameL]
      refine iteF ?_
      have dw21 := Same.dp eab dw20
      have dS21 := Same.dp eab dS20
      have dR21 := Same.dp eab dR20
      have ds21 := ds20.ext eab
      have t21 := t20.ext eab
      have hx21 := eab _ _ hx
      have dc21 := dc1.same eab
      have ga21 := ga.ext eab
      have dd21 := dc2.same eab
      clear dX dY dall dall2
      generalize upd (upd H20 la (.lst xs)) lb (.lst xs2) = H21 at *
      clear dw20 dl20 dS20 dR20 ds20 t20 hx dc1 dc2 ga ea eb eab
      -- Alike(found.good[lot]).shows
      obtain ⟨_, ss, ep, hss, _⟩ := dp_lst dS21
      cases ep
      refine ⟨_, rfl, D7, rfl, ⟨_, hss⟩, fun D5 nD5 => lc_bools (K := K) (L := someL wy k l) (p := fun _ => true) (walk_lstD (K := K) (a := D7) (L := someL wy k l) (g := lotD)) nD5 (by omega) (fun H' e => Same.dp e dS21) ?_ gName_mono ?_⟩
      · rintro j lot y2 H5 H6 Nx hz e ⟨rfl, y⟩ kk
        have dlot := y lot hz
        obtain ⟨ak, rfl, hak⟩ := dp_lot dlot
        obtain ⟨v, hv, _, ar, rs, ev, dr2, rok⟩ := lot_lk (fun _ _ z => z.1) (ga21.ext e) (some_nd ok) (List.mem_of_getElem? hz)
        obtain rfl : v = .ref ar := ev
        obtain ⟨_, rws, ep, hrw, dall⟩ := dp_lst dr2
        cases ep
        refine ⟨rfl, _, rfl, xS, CS, dx, _, _, rfl, e _ _ hx21, clS.cl, na, lk_good, _, rfl, ak, d1, gk, lotD lot, .ref ar, rfl, rfl, dc21.same e, dlot, ok_lot _, hv, ?_⟩
        intro x dx2 nx ndx nex
        have e15 := same_new (o := HO.own x) ndx
        have nx9 : (upd H6 dx2 (.own x)) x = none := (upd_ne nex.symm).trans nx
        have e16 := same_new (o := HO.ins CA dx2 []) nx9
        have e1516 := same_trans e15 e16
        refine ⟨x, dx2, ar, rws, rfl, upd_same, e1516.seq hrw, fun lq nlq => ⟨rfl, ?_⟩⟩
        have e17 := same_new (o := HO.lst rws) nlq
        have nlx : lq ≠ x := fun z => by
          rw [z, upd_same] at nlq
          cases nlq
        have e18 := same_upd (o := HO.ins CA dx2 [("rows", .ref lq)]) (same_trans e1516 e17) nx
        have hAl : AlikeAt K CA (upd (upd (upd (upd H6 dx2 (.own x)) x (.ins CA dx2 [])) lq (.lst rws)) x (.ins CA dx2 [("rows", .ref lq)])) x wy (leftOf wy lot) k := by
          refine ⟨dx2, lq, rs, upd_same, .lst (.inl (.inl ?_)) (Same.dpAll e18 dall), rok⟩
          rw [upd_ne nlx, upd_same]
        generalize upd (upd (upd (upd H6 dx2 (.own x)) x (.ins CA dx2 [])) lq (.lst rws)) x (.ins CA dx2 [("rows", .ref lq)]) = H7 at *
        have e07 := same_trans e e18
        obtain ⟨dx3, l3, rs3, h31, h32, h33⟩ := id hAl
        refine ⟨x, dx3, _, rfl, h31, lk_shows1, ?_⟩
        refine ⟨_, rfl, _, rfl, _, rfl, v1, .ref ak, wy, lot, rfl, Same.dp e07 dw21, Same.dp e18 dlot, ok.lot.wl, fun H8 r8 e8 dr8 => ?_⟩
        exact ⟨_, rfl, x, v1, r8, wy, leftOf wy lot, k, rfl, Same.dp (same_trans e07 e8) dw21, dr8, ok.lot.wl, Nat.le_trans (leftOf_len _ _) ok.lot.wl, hAl.ext e8, fun H9 e9 => kk _ (same_trans e18 (same_trans e8 e9))⟩
      intro H22 e22 hD22
      refine ⟨D5, _, rfl, hD22, _, rfl, ?_⟩
      rw [all_map, all_true]
      refine iteF ?_
      have dw22 := Same.dp e22 dw21
      have dR22 := Same.dp e22 dR21
      have ds22 := ds21.ext e22
      have t22 := t21.ext e22
      have hx22 := e22 _ _ hx21
      have dd22 := dd21.same e22
      clear dw21 dS21 dR21 ds21 t21 hx21 dc21 ga21 dd21 e22 hD22 nD5
      -- _law_parts
      obtain ⟨_, rr, ep, hrr, _⟩ := dp_lst dR22
      cases ep
      refine ⟨_, rfl, D10, rfl, ⟨_, hrr⟩, fun D6 nD6 => lc_bools (K := K) (L := restL wy k l) (p := fun _ => true) (walk_lstD (K := K) (a := D10) (L := restL wy k l) (g := lotD)) nD6 (by omega) (fun H' e => Same.dp e dR22) ?_ gName_mono ?_⟩
      · rintro j lot y2 H6 H7 Nx hz e ⟨rfl, y⟩ kk
        have dlot := y lot hz
        obtain ⟨ak, rfl, hak⟩ := dp_lot dlot
        refine ⟨rfl, _, rfl, _, rfl, _, rfl, v1, .ref ak, wy, lot, rfl, Same.dp e dw22, dlot, ok.lot.wl, fun H8 r e7 dr => ?_⟩
        have e07 := same_trans e e7
        obtain ⟨v, hv, _, t, ev, hpt, htl⟩ := lot_lk (fun _ _ z => z.1) fb (rest_nd ok) (List.mem_of_getElem? hz)
        obtain rfl : v = .str (txS t) := ev
        refine ⟨_, rfl, _, rfl, xS, CS, dx, _, _, rfl, e07 _ _ hx22, clS.cl, na2, lk_fails, _, rfl, ak, d2, fk, lotD lot, _, rfl, rfl, dd22.same e07, Same.dp e7 dlot, ok_lot _, hv, ?_⟩
        exact ⟨v1, r, wy, leftOf wy lot, k, t, rfl, Same.dp e07 dw22, dr, ok.lot.wl, Nat.le_trans (leftOf_len _ _) ok.lot.wl, htl, hpt, fun H9 e8 => kk _ (same_trans e7 e8)⟩
      intro H23 e23 hD23
      refine ⟨D6, _, rfl, hD23, _, rfl, ?_⟩
      rw [all_map, all_true]
      refine iteF ?_
      exact ⟨_, _, _, _, _, _, _, _, _, _, _, ds22.ext e23, t22.ext e23, rfl⟩
    · rintro σ H1 ⟨v2, v3, v4, v5, v6, v7, v8, v9, v10, v11, v12, ds1, t1, rfl⟩
      exact q _
end
end TE

set_option Elab.async false
set_option linter.all false
set_option maxRecDepth 100000
set_option maxHeartbeats 4000000
/-! The facts of the program's top, joined. -/
namespace TE
open PySem PySem.Spec PyProof.Rows L2 TM
theorem code_at {K : PySem.W.Frag} {x qual : Str} {params : Arguments} {body : List Stmt} {scope : Scope} {dvs : List V} {kws : List (Str × V)} {p : Str × Option Str} {fd : FuncData} (F : FunD K x qual params body scope dvs kws (He.fAd K p) fd) : fd.code = .ref (He.cT K p).1 := by
  obtain ⟨oc, od, dV, kV, doc, pm, an, cdv, ct, osl, rfl, lk, hcd, _, _⟩ := F.ex
  obtain ⟨c, rfl⟩ := He.codeIn_ref hcd
  show Value.ref c = .ref (He.codeOf K p)
  rw [He.codeOf_eq lk rfl]
def csOf (K : PySem.W.Frag) : List (Addr × Addr) := [He.cT K ("lots_of", none), He.cT K ("_law_lots", none)]
def tabOfK (K : PySem.W.Frag) : List (Addr × Str) := [((He.cT K ("lots_of", none)).2, ("lots_of" ++ ".<locals>." : Str) ++ "<lambda>"), ((He.cT K ("_law_lots", none)).2, ("_law_lots" ++ ".<locals>." : Str) ++ "<lambda>")]
theorem kdct_of {K : PySem.W.Frag} {w : World} {a : Addr} {es : Array DictEntry} {n : Nat} (D : KDict K w a es n) {kvs : List (Str × He.Dv)} (h : He.valsB K a kvs = true) {x : Str} {v : He.Dv} (hq : (x, v) ∈ kvs) : KDct K w a x (v.v K) :=
  let ⟨u, h1, h2⟩ := He.valsB_ok h hq
  ⟨es, n, u, D.at_, D.lit, h1, h2⟩
section
variable {P : Program} {w : World} {K : PySem.W.Frag} {h base : Heap} {mg : Str → Option Value} {fd : FuncData} {k : Nat} {N : List Str} {sp : Sp}
abbrev Says (w : World) (h : Heap) (K : PySem.W.Frag) : Prop := He.SaysX fa fn ts tf ex w h K
theorem glb_of (KX : K.In h) (G : h.Ns mainGlobals mg) (c : Says w h K) : Glb K w mg := by
  obtain ⟨x1, y⟩ := He.ba c.more
  obtain ⟨x2, y⟩ := He.ba y
  obtain ⟨x3, y⟩ := He.ba y
  obtain ⟨x4, _⟩ := He.ba y
  obtain ⟨es, n, D⟩ := c.t.tab 0 (t := (fun K => He.ga K "BARRED", ["any", "bare", "lone", "paired"])) rfl
  exact {
    isinstance := He.free_ok KX G (c.t.d.fact 58 (f := .free "isinstance") rfl)
    len := He.free_ok KX G (c.t.d.fact 59 (f := .free "len") rfl)
    all := He.free_ok KX G (c.t.d.fact 60 (f := .free "all") rfl)
    any := He.free_ok KX G (c.t.d.fact 61 (f := .free "any") rfl)
    zip := He.free_ok KX G (c.t.d.fact 62 (f := .free "zip") rfl)
    tuple := He.free_ok KX G (c.t.d.fact 63 (f := .free "tuple") rfl)
    list := He.free_ok KX G (c.t.d.fact 64 (f := .free "list") rfl)
    enumerate := He.free_ok KX G (c.t.d.fact 65 (f := .free "enumerate") rfl)
    sorted := He.free_ok KX G (c.t.d.fact 66 (f := .free "sorted") rfl)
    set := He.free_ok KX G (c.t.d.fact 67 (f := .free "set") rfl)
    sum := He.free_ok KX G (c.t.d.fact 68 (f := .free "sum") rfl)
    int := He.free_ok KX G (c.t.d.fact 69 (f := .free "int") rfl)
    str := He.free_ok KX G (c.t.d.fact 70 (f := .free "str") rfl)
    bool := He.free_ok KX G (c.t.d.fact 71 (f := .free "bool") rfl)
    min := He.free_ok KX G (c.t.d.fact 72 (f := .free "min") rfl)
    range := He.free_ok KX G (c.t.d.fact 73 (f := .free "range") rfl)
    dict := He.free_ok KX G (c.t.d.fact 74 (f := .free "dict") rfl)
    kinds := ⟨_, He.glo_ok KX G (c.t.d.fact 48 (f := .glo "KINDS") rfl), fun H => He.tupB_ok x1 H⟩
    convs := ⟨_, He.glo_ok KX G (c.t.d.fact 50 (f := .glo "CONVERSIONS") rfl), fun H => He.tupB_ok x2 H⟩
    hold := ⟨_, He.glo_ok KX G (c.t.d.fact 51 (f := .glo "HOLDING") rfl), fun H => He.tupB_ok x3 H⟩
    barred := ⟨_, He.glo_ok KX G (c.t.d.fact 49 (f := .glo "BARRED") rfl), kdct_of D x4 (x := "any") (v := .str "") (by simp), kdct_of D x4 (x := "bare") (v := .str "r") (by simp), kdct_of D x4 (x := "lone") (v := .str "n") (by simp), kdct_of D x4 (x := "paired") (v := .str "") (by simp)⟩
    signs := He.str_ok KX G (c.t.d.fact 77 (f := .str "SIGNS" "anr") rfl)
    mostC := He.int_ok KX G (c.t.d.fact 75 (f := .int "MOST_CONVERSIONS" 6) rfl)
    mostO := He.int_ok KX G (c.t.d.fact 76 (f := .int "MOST_OFFERS" 4) rfl) }
theorem cls_of (c : Says w h K) : ClsI K (He.ga K "Alike") ∧ ClsI K (He.ga K "Parted") ∧ ClsI K (He.ga K "Spared") ∧ GetI K ∧ PySem.W.kitOne K (.ref (He.ga K "Alike")) (.ref (He.ga K "Alike")) = some true ∧ PySem.W.kitOne K (.ref (He.ga K "Parted")) (.ref (He.ga K "Alike")) = some false ∧
    PySem.W.kitOne K (.ref (He.ga K "Spared")) (.ref (He.ga K "Spared")) = some true ∧ (He.cT K ("lots_of", none)).2 ≠ (He.cT K ("_law_lots", none)).2 := by
  obtain ⟨x1, y⟩ := He.ba c.more
  obtain ⟨x2, y⟩ := He.ba y
  obtain ⟨x3, y⟩ := He.ba y
  obtain ⟨x4, y⟩ := He.ba y
  obtain ⟨x5, y⟩ := He.ba y
  obtain ⟨x6, y⟩ := He.ba y
  obtain ⟨x7, y⟩ := He.ba y
  obtain ⟨x8, y⟩ := He.ba y
  obtain ⟨x9, y⟩ := He.ba y
  obtain ⟨x10, y⟩ := He.ba y
  obtain ⟨x11, y⟩ := He.ba y
  obtain ⟨x12, x13⟩ := He.ba y
  exact ⟨⟨He.cls_ok (c.t.d.fact 78 (f := .cls "Alike") rfl), He.eqO_ok (He.ba x5).1, of_decide_eq_true (He.ba x5).2⟩, ⟨He.cls_ok (c.t.d.fact 82 (f := .cls "Parted") rfl), He.eqO_ok (He.ba x6).1, of_decide_eq_true (He.ba x6).2⟩, ⟨He.cls_ok (c.t.d.fact 86 (f := .cls "Spared") rfl), He.eqO_ok (He.ba x7).1, of_decide_eq_true (He.ba x7).2⟩,
    ⟨He.eqO_ok x8, of_decide_eq_true x9⟩, of_decide_eq_true x10, of_decide_eq_true x11, of_decide_eq_true x12, of_decide_eq_true x13⟩
theorem facts_law {f : Addr} (KX : K.In h) (G : h.Ns mainGlobals mg) (hfa : mg "law" = some (.ref f)) (c : Says w h K) : ∃ fd : FuncData, (∀ (s : Shared) (u : Value), BindsTo s fd ⟨[u], []⟩ [("script", u)]) ∧
    ∀ base : Heap, (∀ p ∈ csOf K, LamX.TabB base mg p.1 p.2) → FnOk P w K mg base CX0 9 f fd ["script"] (sp_law K (tabOfK K)) := by
  have gl := glb_of KX G c
  obtain ⟨clA, clP, clS, gI, kA, kP, kS, tne⟩ := cls_of c
  have kt : Kits K (He.ga K "Alike") (He.ga K "Parted") := ⟨clA, clP, gI, kA, kP⟩
  have gA := He.glo_ok KX G (c.t.d.fact 52 (f := .glo "Alike") rfl)
  have gP := He.glo_ok KX G (c.t.d.fact 53 (f := .glo "Parted") rfl)
  have gS := He.glo_ok KX G (c.t.d.fact 54 (f := .glo "Spared") rfl)
  have naA := He.noat_ok (c.t.d.fact 81 (f := .noat "Alike" "rows") rfl)
  have naP := He.noat_ok (c.t.d.fact 85 (f := .noat "Parted" "text") rfl)
  have naS := He.noat_ok (c.t.d.fact 89 (f := .noat "Spared" "good") rfl)
  have naS2 := He.noat_ok (c.t.d.fact 90 (f := .noat "Spared" "fails") rfl)
  obtain ⟨fd_is_number, F_is_number⟩ : ∃ fd, FnP K d_is_number (He.fAd K d_is_number.at_) fd := c.t.d.def_ 0 (d := d_is_number) rfl
  have b_is_number : Binds K fd_is_number ["thing", "low", "high"] [] := F_is_number.bindsN fun _ _ _ _ _ _ us hl => match us, hl with | [_, _, _], _ => rfl
  obtain ⟨fd_check_kind, F_check_kind⟩ : ∃ fd, FnP K d_check_kind (He.fAd K d_check_kind.at_) fd := c.t.d.def_ 1 (d := d_check_kind) rfl
  have b_check_kind : Binds K fd_check_kind ["kind"] [] := F_check_kind.bindsN fun _ _ _ _ _ _ us hl => match us, hl with | [_], _ => rfl
  obtain ⟨fd_can_come, F_can_come⟩ : ∃ fd, FnP K d_can_come (He.fAd K d_can_come.at_) fd := c.t.d.def_ 2 (d := d_can_come) rfl
  have b_can_come : Binds K fd_can_come ["kind", "is_open", "sign"] [] := F_can_come.bindsN fun _ _ _ _ _ _ us hl => match us, hl with | [_, _, _], _ => rfl
  obtain ⟨fd_is_open_behind, F_is_open_behind⟩ : ∃ fd, FnP K d_is_open_behind (He.fAd K d_is_open_behind.at_) fd := c.t.d.def_ 3 (d := d_is_open_behind) rfl
  have b_is_open_behind : Binds K fd_is_open_behind ["kind", "sign"] [] := F_is_open_behind.bindsN fun _ _ _ _ _ _ us hl => match us, hl with | [_, _], _ => rfl
  obtain ⟨fd_goes_on, F_goes_on⟩ : ∃ fd, FnP K d_goes_on (He.fAd K d_goes_on.at_) fd := c.t.d.def_ 4 (d := d_goes_on) rfl
  have b_goes_on : Binds K fd_goes_on ["kind", "is_open", "text"] [] := F_goes_on.bindsN fun _ _ _ _ _ _ us hl => match us, hl with | [_, _, _], _ => rfl
  obtain ⟨fd_is_kind_of, F_is_kind_of⟩ : ∃ fd, FnP K d_is_kind_of (He.fAd K d_is_kind_of.at_) fd := c.t.d.def_ 5 (d := d_is_kind_of) rfl
  have b_is_kind_of : Binds K fd_is_kind_of ["text", "kind"] [] := F_is_kind_of.bindsN fun _ _ _ _ _ _ us hl => match us, hl with | [_, _], _ => rfl
  obtain ⟨fd_check_way, F_check_way⟩ : ∃ fd, FnP K d_check_way (He.fAd K d_check_way.at_) fd := c.t.d.def_ 6 (d := d_check_way) rfl
  have b_check_way : Binds K fd_check_way ["way"] [] := F_check_way.bindsN fun _ _ _ _ _ _ us hl => match us, hl with | [_], _ => rfl
  obtain ⟨fd_start_of, F_start_of⟩ : ∃ fd, FnP K d_start_of (He.fAd K d_start_of.at_) fd := c.t.d.def_ 7 (d := d_start_of) rfl
  have b_start_of : Binds K fd_start_of ["way"] [] := F_start_of.bindsN fun _ _ _ _ _ _ us hl => match us, hl with | [_], _ => rfl
  obtain ⟨fd_left, F_left⟩ : ∃ fd, FnP K d_left (He.fAd K d_left.at_) fd := c.t.d.def_ 8 (d := d_left) rfl
  have b_left : Binds K fd_left ["word"] [] := F_left.bindsN fun _ _ _ _ _ _ us hl => match us, hl with | [_], _ => rfl
  obtain ⟨fd_sign_by, F_sign_by⟩ : ∃ fd, FnP K d_sign_by (He.fAd K d_sign_by.at_) fd := c.t.d.def_ 9 (d := d_sign_by) rfl
  have b_sign_by : Binds K fd_sign_by ["word", "is_held", "sign"] [] := F_sign_by.bindsN fun _ _ _ _ _ _ us hl => match us, hl with | [_, _, _], _ => rfl
  obtain ⟨fd_text_by, F_text_by⟩ : ∃ fd, FnP K d_text_by (He.fAd K d_text_by.at_) fd := c.t.d.def_ 10 (d := d_text_by) rfl
  have b_text_by : Binds K fd_text_by ["word", "is_held", "text"] [] := F_text_by.bindsN fun _ _ _ _ _ _ us hl => match us, hl with | [_, _, _], _ => rfl
  obtain ⟨fd_read_by, F_read_by⟩ : ∃ fd, FnP K d_read_by (He.fAd K d_read_by.at_) fd := c.t.d.def_ 11 (d := d_read_by) rfl
  have b_read_by : Binds K fd_read_by ["way", "standing", "text"] [] := F_read_by.bindsN fun _ _ _ _ _ _ us hl => match us, hl with | [_, _, _], _ => rfl
  obtain ⟨fd_ended, F_ended⟩ : ∃ fd, FnP K d_ended (He.fAd K d_ended.at_) fd := c.t.d.def_ 12 (d := d_ended) rfl
  have b_ended : Binds K fd_ended ["way", "standing"] [] := F_ended.bindsN fun _ _ _ _ _ _ us hl => match us, hl with | [_, _], _ => rfl
  obtain ⟨fd_made, F_made⟩ : ∃ fd, FnP K d_made (He.fAd K d_made.at_) fd := c.t.d.def_ 13 (d := d_made) rfl
  have b_made : Binds K fd_made ["way", "text"] [] := F_made.bindsN fun _ _ _ _ _ _ us hl => match us, hl with | [_, _], _ => rfl
  obtain ⟨fd_without_common, F_without_common⟩ : ∃ fd, FnP K d_without_common (He.fAd K d_without_common.at_) fd := c.t.d.def_ 14 (d := d_without_common) rfl
  have b_without_common : Binds K fd_without_common ["mine", "theirs"] [] := F_without_common.bindsN fun _ _ _ _ _ _ us hl => match us, hl with | [_, _], _ => rfl
  obtain ⟨fd_start_row, F_start_row⟩ : ∃ fd, FnP K d_start_row (He.fAd K d_start_row.at_) fd := c.t.d.def_ 15 (d := d_start_row) rfl
  have b_start_row : Binds K fd_start_row ["one", "other"] [] := F_start_row.bindsN fun _ _ _ _ _ _ us hl => match us, hl with | [_, _], _ => rfl
  obtain ⟨fd_row_behind, F_row_behind⟩ : ∃ fd, FnP K d_row_behind (He.fAd K d_row_behind.at_) fd := c.t.d.def_ 16 (d := d_row_behind) rfl
  have b_row_behind : Binds K fd_row_behind ["one", "other", "kind", "row", "sign"] [] := F_row_behind.bindsN fun _ _ _ _ _ _ us hl => match us, hl with | [_, _, _, _, _], _ => rfl
  obtain ⟨fd_is_even, F_is_even⟩ : ∃ fd, FnP K d_is_even (He.fAd K d_is_even.at_) fd := c.t.d.def_ 17 (d := d_is_even) rfl
  have b_is_even : Binds K fd_is_even ["one", "other", "row"] [] := F_is_even.bindsN fun _ _ _ _ _ _ us hl => match us, hl with | [_, _, _], _ => rfl
  obtain ⟨fd_check_both, F_check_both⟩ : ∃ fd, FnP K d_check_both (He.fAd K d_check_both.at_) fd := c.t.d.def_ 24 (d := d_check_both) rfl
  have b_check_both : Binds K fd_check_both ["one", "other", "kind"] [] := F_check_both.bindsN fun _ _ _ _ _ _ us hl => match us, hl with | [_, _, _], _ => rfl
  obtain ⟨fd_is_parting, F_is_parting⟩ : ∃ fd, FnP K d_is_parting (He.fAd K d_is_parting.at_) fd := c.t.d.def_ 19 (d := d_is_parting) rfl
  have b_is_parting : Binds K fd_is_parting ["one", "other", "kind", "text"] [] := F_is_parting.bindsN fun _ _ _ _ _ _ us hl => match us, hl with | [_, _, _, _], _ => rfl
  obtain ⟨fd_are_rows, F_are_rows⟩ : ∃ fd, FnP K d_are_rows (He.fAd K d_are_rows.at_) fd := c.t.d.def_ 18 (d := d_are_rows) rfl
  have b_are_rows : Binds K fd_are_rows ["one", "other", "kind", "rows"] [] := F_are_rows.bindsN fun _ _ _ _ _ _ us hl => match us, hl with | [_, _, _, _], _ => rfl
  obtain ⟨fd_Alike_init, F_Alike_init⟩ : ∃ fd, FnP K d_Alike_init (He.fAd K d_Alike_init.at_) fd := c.t.d.def_ 20 (d := d_Alike_init) rfl
  have b_Alike_init : Binds K fd_Alike_init ["self", "rows"] [] := F_Alike_init.bindsN fun _ _ _ _ _ _ us hl => match us, hl with | [_, _], _ => rfl
  obtain ⟨fd_Parted_init, F_Parted_init⟩ : ∃ fd, FnP K d_Parted_init (He.fAd K d_Parted_init.at_) fd := c.t.d.def_ 22 (d := d_Parted_init) rfl
  have b_Parted_init : Binds K fd_Parted_init ["self", "text"] [] := F_Parted_init.bindsN fun _ _ _ _ _ _ us hl => match us, hl with | [_, _], _ => rfl
  obtain ⟨fd_Alike_shows, F_Alike_shows⟩ : ∃ fd, FnP K d_Alike_shows (He.fAd K d_Alike_shows.at_) fd := c.t.d.def_ 21 (d := d_Alike_shows) rfl
  have b_Alike_shows : Binds K fd_Alike_shows ["self", "one", "other", "kind"] [] := F_Alike_shows.bindsN fun _ _ _ _ _ _ us hl => match us, hl with | [_, _, _, _], _ => rfl
  obtain ⟨fd_compared, F_compared⟩ : ∃ fd, FnP K d_compared (He.fAd K d_compared.at_) fd := c.t.d.def_ 25 (d := d_compared) rfl
  have b_compared : Binds K fd_compared ["one", "other", "kind"] [] := F_compared.bindsN fun _ _ _ _ _ _ us hl => match us, hl with | [_, _, _], _ => rfl
  obtain ⟨fd_compare, F_compare⟩ : ∃ fd, FnP K d_compare (He.fAd K d_compare.at_) fd := c.t.d.def_ 26 (d := d_compare) rfl
  have b_compare : Binds K fd_compare ["one", "other", "kind"] [] := F_compare.bindsN fun _ _ _ _ _ _ us hl => match us, hl with | [_, _, _], _ => rfl
  obtain ⟨fd_are_alike, F_are_alike⟩ : ∃ fd, FnP K d_are_alike (He.fAd K d_are_alike.at_) fd := c.t.d.def_ 27 (d := d_are_alike) rfl
  have b_are_alike : Binds K fd_are_alike ["one", "other", "kind"] [] := F_are_alike.bindsN fun _ _ _ _ _ _ us hl => match us, hl with | [_, _, _], _ => rfl
  obtain ⟨fd_are_indices, F_are_indices⟩ : ∃ fd, FnP K d_are_indices (He.fAd K d_are_indices.at_) fd := c.t.d.def_ 28 (d := d_are_indices) rfl
  have b_are_indices : Binds K fd_are_indices ["way", "thing"] [] := F_are_indices.bindsN fun _ _ _ _ _ _ us hl => match us, hl with | [_, _], _ => rfl
  obtain ⟨fd_check_offers, F_check_offers⟩ : ∃ fd, FnP K d_check_offers (He.fAd K d_check_offers.at_) fd := c.t.d.def_ 29 (d := d_check_offers) rfl
  have b_check_offers : Binds K fd_check_offers ["way", "offers"] [] := F_check_offers.bindsN fun _ _ _ _ _ _ us hl => match us, hl with | [_, _], _ => rfl
  obtain ⟨fd_check_three, F_check_three⟩ : ∃ fd, FnP K d_check_three (He.fAd K d_check_three.at_) fd := c.t.d.def_ 30 (d := d_check_three) rfl
  have b_check_three : Binds K fd_check_three ["way", "offers", "kind"] [] := F_check_three.bindsN fun _ _ _ _ _ _ us hl => match us, hl with | [_, _, _], _ => rfl
  obtain ⟨fd_left_of, F_left_of⟩ : ∃ fd, FnP K d_left_of (He.fAd K d_left_of.at_) fd := c.t.d.def_ 32 (d := d_left_of) rfl
  have b_left_of : Binds K fd_left_of ["way", "lot"] [] := F_left_of.bindsN fun _ _ _ _ _ _ us hl => match us, hl with | [_, _], _ => rfl
  obtain ⟨fd_is_within, F_is_within⟩ : ∃ fd, FnP K d_is_within (He.fAd K d_is_within.at_) fd := c.t.d.def_ 33 (d := d_is_within) rfl
  have b_is_within : Binds K fd_is_within ["one", "lot"] [] := F_is_within.bindsN fun _ _ _ _ _ _ us hl => match us, hl with | [_, _], _ => rfl
  obtain ⟨fd_without, F_without⟩ : ∃ fd, FnP K d_without (He.fAd K d_without.at_) fd := c.t.d.def_ 37 (d := d_without) rfl
  have b_without : Binds K fd_without ["way", "lot"] [] := F_without.bindsN fun _ _ _ _ _ _ us hl => match us, hl with | [_, _], _ => rfl
  obtain ⟨fd_lots_of, F_lots_of⟩ : ∃ fd, FnP K d_lots_of (He.fAd K d_lots_of.at_) fd := c.t.d.def_ 31 (d := d_lots_of) rfl
  have b_lots_of : Binds K fd_lots_of ["offers"] [] := F_lots_of.bindsN fun _ _ _ _ _ _ us hl => match us, hl with | [_], _ => rfl
  obtain ⟨fd_Spared_init, F_Spared_init⟩ : ∃ fd, FnP K d_Spared_init (He.fAd K d_Spared_init.at_) fd := c.t.d.def_ 34 (d := d_Spared_init) rfl
  have b_Spared_init : Binds K fd_Spared_init ["self", "good", "fails"] [] := F_Spared_init.bindsN fun _ _ _ _ _ _ us hl => match us, hl with | [_, _, _], _ => rfl
  obtain ⟨fd_text_in, F_text_in⟩ : ∃ fd, FnP K d_text_in (He.fAd K d_text_in.at_) fd := c.t.d.def_ 39 (d := d_text_in) rfl
  have b_text_in : Binds K fd_text_in ["answer"] [] := F_text_in.bindsN fun _ _ _ _ _ _ us hl => match us, hl with | [_], _ => rfl
  obtain ⟨fd_lots, F_lots⟩ : ∃ fd, FnP K d_lots (He.fAd K d_lots.at_) fd := c.t.d.def_ 36 (d := d_lots) rfl
  have b_lots : Binds K fd_lots ["way", "offers"] [] := F_lots.bindsN fun _ _ _ _ _ _ us hl => match us, hl with | [_, _], _ => rfl
  obtain ⟨fd_spare, F_spare⟩ : ∃ fd, FnP K d_spare (He.fAd K d_spare.at_) fd := c.t.d.def_ 38 (d := d_spare) rfl
  have b_spare : Binds K fd_spare ["way", "offers", "kind"] [] := F_spare.bindsN fun _ _ _ _ _ _ us hl => match us, hl with | [_, _, _], _ => rfl
  obtain ⟨fd_Spared_shows, F_Spared_shows⟩ : ∃ fd, FnP K d_Spared_shows (He.fAd K d_Spared_shows.at_) fd := c.t.d.def_ 35 (d := d_Spared_shows) rfl
  have b_Spared_shows : Binds K fd_Spared_shows ["self", "way", "offers", "kind"] [] := F_Spared_shows.bindsN fun _ _ _ _ _ _ us hl => match us, hl with | [_, _, _, _], _ => rfl
  obtain ⟨fd_greatest_lots, F_greatest_lots⟩ : ∃ fd, FnP K d_greatest_lots (He.fAd K d_greatest_lots.at_) fd := c.t.d.def_ 40 (d := d_greatest_lots) rfl
  have b_greatest_lots : Binds K fd_greatest_lots ["way", "offers", "kind"] [] := F_greatest_lots.bindsN fun _ _ _ _ _ _ us hl => match us, hl with | [_, _, _], _ => rfl
  obtain ⟨fd__law_left, F__law_left⟩ : ∃ fd, FnP K d__law_left (He.fAd K d__law_left.at_) fd := c.t.d.def_ 51 (d := d__law_left) rfl
  have b__law_left : Binds K fd__law_left ["way", "lot"] [] := F__law_left.bindsN fun _ _ _ _ _ _ us hl => match us, hl with | [_, _], _ => rfl
  obtain ⟨fd__law_in, F__law_in⟩ : ∃ fd, FnP K d__law_in (He.fAd K d__law_in.at_) fd := c.t.d.def_ 50 (d := d__law_in) rfl
  have b__law_in : Binds K fd__law_in ["one", "lot"] [] := F__law_in.bindsN fun _ _ _ _ _ _ us hl => match us, hl with | [_, _], _ => rfl
  obtain ⟨fd__law_lots, F__law_lots⟩ : ∃ fd, FnP K d__law_lots (He.fAd K d__law_lots.at_) fd := c.t.d.def_ 49 (d := d__law_lots) rfl
  have b__law_lots : Binds K fd__law_lots ["offers"] [] := F__law_lots.bindsN fun _ _ _ _ _ _ us hl => match us, hl with | [_], _ => rfl
  obtain ⟨fd__law_number, F__law_number⟩ : ∃ fd, FnP K d__law_number (He.fAd K d__law_number.at_) fd := c.t.d.def_ 41 (d := d__law_number) rfl
  have b__law_number : Binds K fd__law_number ["script", "index"] [] := F__law_number.bindsN fun _ _ _ _ _ _ us hl => match us, hl with | [_, _], _ => rfl
  obtain ⟨fd__law_take, F__law_take⟩ : ∃ fd, FnP K d__law_take (He.fAd K d__law_take.at_) fd := c.t.d.def_ 42 (d := d__law_take) rfl
  have b__law_take : Binds K fd__law_take ["draw", "many"] [] := F__law_take.bindsN fun _ _ _ _ _ _ us hl => match us, hl with | [_, _], _ => rfl
  obtain ⟨fd__law_pick, F__law_pick⟩ : ∃ fd, FnP K d__law_pick (He.fAd K d__law_pick.at_) fd := c.t.d.def_ 43 (d := d__law_pick) rfl
  have b__law_pick : Binds K fd__law_pick ["draw", "things"] [] := F__law_pick.bindsN fun _ _ _ _ _ _ us hl => match us, hl with | [_, _], _ => rfl
  obtain ⟨fd__law_way, F__law_way⟩ : ∃ fd, FnP K d__law_way (He.fAd K d__law_way.at_) fd := c.t.d.def_ 44 (d := d__law_way) rfl
  have b__law_way : Binds K fd__law_way ["draw", "most"] [] := F__law_way.bindsN fun _ _ _ _ _ _ us hl => match us, hl with | [_, _], _ => rfl
  obtain ⟨fd__law_offers, F__law_offers⟩ : ∃ fd, FnP K d__law_offers (He.fAd K d__law_offers.at_) fd := c.t.d.def_ 52 (d := d__law_offers) rfl
  have b__law_offers : Binds K fd__law_offers ["draw", "way"] [] := F__law_offers.bindsN fun _ _ _ _ _ _ us hl => match us, hl with | [_, _], _ => rfl
  obtain ⟨fd__law_by, F__law_by⟩ : ∃ fd, FnP K d__law_by (He.fAd K d__law_by.at_) fd := c.t.d.def_ 45 (d := d__law_by) rfl
  have b__law_by : Binds K fd__law_by ["word", "text"] [] := F__law_by.bindsN fun _ _ _ _ _ _ us hl => match us, hl with | [_, _], _ => rfl
  obtain ⟨fd__law_made, F__law_made⟩ : ∃ fd, FnP K d__law_made (He.fAd K d__law_made.at_) fd := c.t.d.def_ 46 (d := d__law_made) rfl
  have b__law_made : Binds K fd__law_made ["way", "text"] [] := F__law_made.bindsN fun _ _ _ _ _ _ us hl => match us, hl with | [_, _], _ => rfl
  obtain ⟨fd__law_is_of, F__law_is_of⟩ : ∃ fd, FnP K d__law_is_of (He.fAd K d__law_is_of.at_) fd := c.t.d.def_ 47 (d := d__law_is_of) rfl
  have b__law_is_of : Binds K fd__law_is_of ["text", "kind"] [] := F__law_is_of.bindsN fun _ _ _ _ _ _ us hl => match us, hl with | [_, _], _ => rfl
  obtain ⟨fd__law_parts, F__law_parts⟩ : ∃ fd, FnP K d__law_parts (He.fAd K d__law_parts.at_) fd := c.t.d.def_ 48 (d := d__law_parts) rfl
  have b__law_parts : Binds K fd__law_parts ["one", "other", "kind", "text"] [] := F__law_parts.bindsN fun _ _ _ _ _ _ us hl => match us, hl with | [_, _, _, _], _ => rfl
  obtain ⟨fd_law, F_law⟩ : ∃ fd, FnP K d_law (He.fAd K d_law.at_) fd := c.t.d.def_ 53 (d := d_law) rfl
  have b_law : Binds K fd_law ["script"] [] := F_law.bindsN fun _ _ _ _ _ _ us hl => match us, hl with | [_], _ => rfl
  have efa := hfa.symm.trans (He.glo_ok KX G (c.t.d.fact 47 (f := .glo "law") rfl))
  have efa2 := Value.ref.inj (Option.some.inj efa)
  subst efa2
  refine ⟨fd_law, fun s v => FunD.bindsA (ps := ["script"]) F_law (fun _ _ _ _ _ _ us hl => match us, hl with | [_], _ => rfl) s [v] rfl, fun base hTB => ?_⟩
  · have TB1 := hTB (He.cT K ("lots_of", none)) (List.mem_cons_self ..)
    have TB2 := hTB (He.cT K ("_law_lots", none)) (List.mem_cons_of_mem _ (List.mem_cons_self ..))
    have hcode1 : fd_lots_of.code = .ref (He.cT K ("lots_of", none)).1 := code_at F_lots_of
    have hcode2 : fd__law_lots.code = .ref (He.cT K ("_law_lots", none)).1 := code_at F__law_lots
    have hm1 : ((He.cT K ("lots_of", none)).2, ("lots_of" ++ ".<locals>." : Str) ++ "<lambda>") ∈ tabOfK K := List.mem_cons_self ..
    have hm2 : ((He.cT K ("_law_lots", none)).2, ("_law_lots" ++ ".<locals>." : Str) ++ "<lambda>") ∈ tabOfK K := List.mem_cons_of_mem _ (List.mem_cons_self ..)
    have hu1 : ∀ p ∈ tabOfK K, p.1 = (He.cT K ("lots_of", none)).2 → p.2 = ("lots_of" ++ ".<locals>." : Str) ++ "<lambda>" := fun p hp e => by
      rcases List.mem_cons.mp hp with z | z
      · rw [z]
      · rw [List.mem_singleton.mp z] at e
        exact absurd e.symm tne
    have hu2 : ∀ p ∈ tabOfK K, p.1 = (He.cT K ("_law_lots", none)).2 → p.2 = ("_law_lots" ++ ".<locals>." : Str) ++ "<lambda>" := fun p hp e => by
      rcases List.mem_cons.mp hp with z | z
      · rw [z] at e
        exact absurd e tne
      · rw [List.mem_singleton.mp z]
    have C_is_number : Cal P w K mg base 1 "is_number" ["thing", "low", "high"] sp_is_number := ⟨⟨_, fd_is_number, ok_is_number gl F_is_number, F_is_number.kp, He.glo_ok KX G (c.t.d.fact 0 (f := .glo "is_number") rfl), b_is_number⟩⟩
    have C_check_kind : Cal P w K mg base 1 "check_kind" ["kind"] sp_check_kind := ⟨⟨_, fd_check_kind, ok_check_kind gl F_check_kind, F_check_kind.kp, He.glo_ok KX G (c.t.d.fact 1 (f := .glo "check_kind") rfl), b_check_kind⟩⟩
    have C_can_come : Cal P w K mg base 1 "can_come" ["kind", "is_open", "sign"] sp_can_come := ⟨⟨_, fd_can_come, ok_can_come gl F_can_come, F_can_come.kp, He.glo_ok KX G (c.t.d.fact 2 (f := .glo "can_come") rfl), b_can_come⟩⟩
    have C_is_open_behind : Cal P w K mg base 1 "is_open_behind" ["kind", "sign"] sp_is_open_behind := ⟨⟨_, fd_is_open_behind, ok_is_open_behind F_is_open_behind, F_is_open_behind.kp, He.glo_ok KX G (c.t.d.fact 3 (f := .glo "is_open_behind") rfl), b_is_open_behind⟩⟩
    have C_goes_on : Cal P w K mg base 2 "goes_on" ["kind", "is_open", "text"] sp_goes_on := ⟨⟨_, fd_goes_on, ok_goes_on C_can_come C_is_open_behind F_goes_on, F_goes_on.kp, He.glo_ok KX G (c.t.d.fact 4 (f := .glo "goes_on") rfl), b_goes_on⟩⟩
    have C_is_kind_of : Cal P w K mg base 3 "is_kind_of" ["text", "kind"] sp_is_kind_of := ⟨⟨_, fd_is_kind_of, ok_is_kind_of C_goes_on F_is_kind_of, F_is_kind_of.kp, He.glo_ok KX G (c.t.d.fact 5 (f := .glo "is_kind_of") rfl), b_is_kind_of⟩⟩
    have C_check_way : Cal P w K mg base 1 "check_way" ["way"] (sp_check_way K) := ⟨⟨_, fd_check_way, ok_check_way gl F_check_way, F_check_way.kp, He.glo_ok KX G (c.t.d.fact 6 (f := .glo "check_way") rfl), b_check_way⟩⟩
    have C_start_of : Cal P w K mg base 1 "start_of" ["way"] (sp_start_of K) := ⟨⟨_, fd_start_of, ok_start_of gl F_start_of, F_start_of.kp, He.glo_ok KX G (c.t.d.fact 7 (f := .glo "start_of") rfl), b_start_of⟩⟩
    have C_left : Cal P w K mg base 1 "left" ["word"] sp_left := ⟨⟨_, fd_left, ok_left F_left, F_left.kp, He.glo_ok KX G (c.t.d.fact 8 (f := .glo "left") rfl), b_left⟩⟩
    have C_sign_by : Cal P w K mg base 2 "sign_by" ["word", "is_held", "sign"] sp_sign_by := ⟨⟨_, fd_sign_by, ok_sign_by C_left F_sign_by, F_sign_by.kp, He.glo_ok KX G (c.t.d.fact 9 (f := .glo "sign_by") rfl), b_sign_by⟩⟩
    have C_text_by : Cal P w K mg base 3 "text_by" ["word", "is_held", "text"] (sp_text_by K) := ⟨⟨_, fd_text_by, ok_text_by C_sign_by F_text_by, F_text_by.kp, He.glo_ok KX G (c.t.d.fact 10 (f := .glo "text_by") rfl), b_text_by⟩⟩
    have C_read_by : Cal P w K mg base 4 "read_by" ["way", "standing", "text"] (sp_read_by K) := ⟨⟨_, fd_read_by, ok_read_by gl C_text_by F_read_by, F_read_by.kp, He.glo_ok KX G (c.t.d.fact 11 (f := .glo "read_by") rfl), b_read_by⟩⟩
    have C_ended : Cal P w K mg base 4 "ended" ["way", "standing"] (sp_ended K) := ⟨⟨_, fd_ended, ok_ended gl C_text_by C_left F_ended, F_ended.kp, He.glo_ok KX G (c.t.d.fact 12 (f := .glo "ended") rfl), b_ended⟩⟩
    have C_made : Cal P w K mg base 5 "made" ["way", "text"] (sp_made K) := ⟨⟨_, fd_made, ok_made C_read_by C_start_of C_ended F_made, F_made.kp, He.glo_ok KX G (c.t.d.fact 13 (f := .glo "made") rfl), b_made⟩⟩
    have C_without_common : Cal P w K mg base 1 "without_common" ["mine", "theirs"] sp_without_common := ⟨⟨_, fd_without_common, ok_without_common gl F_without_common, F_without_common.kp, He.glo_ok KX G (c.t.d.fact 14 (f := .glo "without_common") rfl), b_without_common⟩⟩
    have C_start_row : Cal P w K mg base 2 "start_row" ["one", "other"] (sp_start_row K) := ⟨⟨_, fd_start_row, ok_start_row C_start_of F_start_row, F_start_row.kp, He.glo_ok KX G (c.t.d.fact 15 (f := .glo "start_row") rfl), b_start_row⟩⟩
    have C_row_behind : Cal P w K mg base 5 "row_behind" ["one", "other", "kind", "row", "sign"] (sp_row_behind K) := ⟨⟨_, fd_row_behind, ok_row_behind C_read_by C_without_common C_is_open_behind F_row_behind, F_row_behind.kp, He.glo_ok KX G (c.t.d.fact 16 (f := .glo "row_behind") rfl), b_row_behind⟩⟩
    have C_is_even : Cal P w K mg base 5 "is_even" ["one", "other", "row"] (sp_is_even K) := ⟨⟨_, fd_is_even, ok_is_even C_ended F_is_even, F_is_even.kp, He.glo_ok KX G (c.t.d.fact 17 (f := .glo "is_even") rfl), b_is_even⟩⟩
    have C_check_both : Cal P w K mg base 2 "check_both" ["one", "other", "kind"] (sp_check_both K) := ⟨⟨_, fd_check_both, ok_check_both C_check_way C_check_kind F_check_both, F_check_both.kp, He.glo_ok KX G (c.t.d.fact 20 (f := .glo "check_both") rfl), b_check_both⟩⟩
    have C_is_parting : Cal P w K mg base 6 "is_parting" ["one", "other", "kind", "text"] (sp_is_parting K) := ⟨⟨_, fd_is_parting, ok_is_parting gl C_is_kind_of C_made F_is_parting, F_is_parting.kp, He.glo_ok KX G (c.t.d.fact 19 (f := .glo "is_parting") rfl), b_is_parting⟩⟩
    have C_are_rows : Cal P w K mg base 6 "are_rows" ["one", "other", "kind", "rows"] (sp_are_rows K) := ⟨⟨_, fd_are_rows, ok_are_rows gl C_start_row C_is_even C_can_come C_row_behind F_are_rows, F_are_rows.kp, He.glo_ok KX G (c.t.d.fact 18 (f := .glo "are_rows") rfl), b_are_rows⟩⟩
    have M_Alike : CalM P w K mg base 1 "Alike" (He.ga K "Alike") ["self", "rows"] (sp_Alike_init K (He.ga K "Alike")) := ⟨⟨_, fd_Alike_init, He.mkr_ok (c.t.d.fact 79 (f := .mkr "Alike") rfl), ok_Alike_init gl clA.cl naA F_Alike_init, gA, b_Alike_init⟩⟩
    have M_Parted : CalM P w K mg base 1 "Parted" (He.ga K "Parted") ["self", "text"] (sp_Parted_init (He.ga K "Parted")) := ⟨⟨_, fd_Parted_init, He.mkr_ok (c.t.d.fact 83 (f := .mkr "Parted") rfl), ok_Parted_init clP.cl naP F_Parted_init, gP, b_Parted_init⟩⟩
    have T_Alike : CalT P w K mg base 7 (He.ga K "Alike") "shows" ["self", "one", "other", "kind"] (sp_Alike_shows K (He.ga K "Alike")) := ⟨⟨_, fd_Alike_shows, He.meth_ok (c.t.d.fact 80 (f := .meth "Alike" "shows") rfl), ok_Alike_shows clA.cl naA C_check_both C_are_rows F_Alike_shows, b_Alike_shows⟩, clA.cl⟩
    have C_compared : Cal P w K mg base 6 "compared" ["one", "other", "kind"] (sp_compared K (He.ga K "Alike") (He.ga K "Parted")) := ⟨⟨_, fd_compared, ok_compared gl C_start_row C_is_even C_can_come C_row_behind C_is_open_behind M_Alike M_Parted F_compared, F_compared.kp, He.glo_ok KX G (c.t.d.fact 21 (f := .glo "compared") rfl), b_compared⟩⟩
    have C_compare : Cal P w K mg base 7 "compare" ["one", "other", "kind"] (sp_compared K (He.ga K "Alike") (He.ga K "Parted")) := ⟨⟨_, fd_compare, ok_compare C_check_both C_compared F_compare, F_compare.kp, He.glo_ok KX G (c.t.d.fact 22 (f := .glo "compare") rfl), b_compare⟩⟩
    have C_are_alike : Cal P w K mg base 8 "are_alike" ["one", "other", "kind"] (sp_are_alike K) := ⟨⟨_, fd_are_alike, ok_are_alike gl kt gA C_compare F_are_alike, F_are_alike.kp, He.glo_ok KX G (c.t.d.fact 23 (f := .glo "are_alike") rfl), b_are_alike⟩⟩
    have C_are_indices : Cal P w K mg base 2 "are_indices" ["way", "thing"] (sp_are_indices K) := ⟨⟨_, fd_are_indices, ok_are_indices gl C_is_number F_are_indices, F_are_indices.kp, He.glo_ok KX G (c.t.d.fact 24 (f := .glo "are_indices") rfl), b_are_indices⟩⟩
    have C_check_offers : Cal P w K mg base 3 "check_offers" ["way", "offers"] (sp_check_offers K) := ⟨⟨_, fd_check_offers, ok_check_offers gl C_check_way C_are_indices F_check_offers, F_check_offers.kp, He.glo_ok KX G (c.t.d.fact 25 (f := .glo "check_offers") rfl), b_check_offers⟩⟩
    have C_check_three : Cal P w K mg base 4 "check_three" ["way", "offers", "kind"] (sp_check_three K) := ⟨⟨_, fd_check_three, ok_check_three C_check_offers C_check_kind F_check_three, F_check_three.kp, He.glo_ok KX G (c.t.d.fact 26 (f := .glo "check_three") rfl), b_check_three⟩⟩
    have C_left_of : Cal P w K mg base 1 "left_of" ["way", "lot"] (sp_left_of K) := ⟨⟨_, fd_left_of, ok_left_of gl F_left_of, F_left_of.kp, He.glo_ok KX G (c.t.d.fact 28 (f := .glo "left_of") rfl), b_left_of⟩⟩
    have C_is_within : Cal P w K mg base 1 "is_within" ["one", "lot"] (sp_is_within K) := ⟨⟨_, fd_is_within, ok_is_within gl F_is_within, F_is_within.kp, He.glo_ok KX G (c.t.d.fact 29 (f := .glo "is_within") rfl), b_is_within⟩⟩
    have C_without : Cal P w K mg base 3 "without" ["way", "lot"] (sp_without K) := ⟨⟨_, fd_without, ok_without C_check_way C_are_indices C_left_of F_without, F_without.kp, He.glo_ok KX G (c.t.d.fact 31 (f := .glo "without") rfl), b_without⟩⟩
    have C_lots_of : Cal P w K mg base 4 "lots_of" ["offers"] (sp_lots_of K (tabOfK K)) := ⟨⟨_, fd_lots_of, ok_lots_of gl TB1 hcode1 hm1 hu1 F_lots_of, F_lots_of.kp, He.glo_ok KX G (c.t.d.fact 27 (f := .glo "lots_of") rfl), b_lots_of⟩⟩
    have M_Spared : CalM P w K mg base 1 "Spared" (He.ga K "Spared") ["self", "good", "fails"] (sp_Spared_init K w (He.ga K "Spared")) := ⟨⟨_, fd_Spared_init, He.mkr_ok (c.t.d.fact 87 (f := .mkr "Spared") rfl), ok_Spared_init gl clS.cl naS naS2 F_Spared_init, gS, b_Spared_init⟩⟩
    have C_text_in : Cal P w K mg base 1 "text_in" ["answer"] (sp_text_in (He.ga K "Parted")) := ⟨⟨_, fd_text_in, ok_text_in clP.cl naP F_text_in, F_text_in.kp, He.glo_ok KX G (c.t.d.fact 33 (f := .glo "text_in") rfl), b_text_in⟩⟩
    have C_lots : Cal P w K mg base 5 "lots" ["way", "offers"] (sp_lots K (tabOfK K)) := ⟨⟨_, fd_lots, ok_lots C_check_offers C_lots_of F_lots, F_lots.kp, He.glo_ok KX G (c.t.d.fact 30 (f := .glo "lots") rfl), b_lots⟩⟩
    have C_spare : Cal P w K mg base 7 "spare" ["way", "offers", "kind"] (sp_spare K w (tabOfK K) (He.ga K "Spared")) := ⟨⟨_, fd_spare, ok_spare gl kt gA naA C_check_three C_lots_of C_left_of C_compared C_is_within C_text_in M_Spared F_spare, F_spare.kp, He.glo_ok KX G (c.t.d.fact 32 (f := .glo "spare") rfl), b_spare⟩⟩
    have T_Spared : CalT P w K mg base 7 (He.ga K "Spared") "shows" ["self", "way", "offers", "kind"] (sp_Spared_shows K w (tabOfK K) (He.ga K "Spared")) := ⟨⟨_, fd_Spared_shows, He.meth_ok (c.t.d.fact 88 (f := .meth "Spared" "shows") rfl), ok_Spared_shows gl clS.cl naS naS2 C_check_three C_lots_of C_left_of C_is_within C_are_rows C_is_parting F_Spared_shows, b_Spared_shows⟩, clS.cl⟩
    have C_greatest_lots : Cal P w K mg base 8 "greatest_lots" ["way", "offers", "kind"] (sp_greatest_lots K (tabOfK K)) := ⟨⟨_, fd_greatest_lots, ok_greatest_lots gl clS.cl naS C_spare F_greatest_lots, F_greatest_lots.kp, He.glo_ok KX G (c.t.d.fact 34 (f := .glo "greatest_lots") rfl), b_greatest_lots⟩⟩
    have C__law_left : Cal P w K mg base 1 "_law_left" ["way", "lot"] (sp_left_of K) := ⟨⟨_, fd__law_left, ok_law_left gl F__law_left, F__law_left.kp, He.glo_ok KX G (c.t.d.fact 45 (f := .glo "_law_left") rfl), b__law_left⟩⟩
    have C__law_in : Cal P w K mg base 1 "_law_in" ["one", "lot"] (sp_is_within K) := ⟨⟨_, fd__law_in, ok_law_in gl F__law_in, F__law_in.kp, He.glo_ok KX G (c.t.d.fact 44 (f := .glo "_law_in") rfl), b__law_in⟩⟩
    have C__law_lots : Cal P w K mg base 4 "_law_lots" ["offers"] (sp_lots_of K (tabOfK K)) := ⟨⟨_, fd__law_lots, ok_law_lots gl TB2 hcode2 hm2 hu2 F__law_lots, F__law_lots.kp, He.glo_ok KX G (c.t.d.fact 43 (f := .glo "_law_lots") rfl), b__law_lots⟩⟩
    have C__law_number : Cal P w K mg base 1 "_law_number" ["script", "index"] (sp_law_number K) := ⟨⟨_, fd__law_number, ok_law_number gl F__law_number, F__law_number.kp, He.glo_ok KX G (c.t.d.fact 35 (f := .glo "_law_number") rfl), b__law_number⟩⟩
    have C__law_take : Cal P w K mg base 2 "_law_take" ["draw", "many"] (sp_law_take K) := ⟨⟨_, fd__law_take, ok_law_take gl C__law_number F__law_take, F__law_take.kp, He.glo_ok KX G (c.t.d.fact 36 (f := .glo "_law_take") rfl), b__law_take⟩⟩
    have C__law_pick : Cal P w K mg base 3 "_law_pick" ["draw", "things"] (sp_law_pick K) := ⟨⟨_, fd__law_pick, ok_law_pick gl C__law_take F__law_pick, F__law_pick.kp, He.glo_ok KX G (c.t.d.fact 37 (f := .glo "_law_pick") rfl), b__law_pick⟩⟩
    have C__law_way : Cal P w K mg base 4 "_law_way" ["draw", "most"] (sp_law_way K) := ⟨⟨_, fd__law_way, ok_law_way gl C__law_take C__law_pick F__law_way, F__law_way.kp, He.glo_ok KX G (c.t.d.fact 38 (f := .glo "_law_way") rfl), b__law_way⟩⟩
    have C__law_offers : Cal P w K mg base 3 "_law_offers" ["draw", "way"] (sp_law_offers K) := ⟨⟨_, fd__law_offers, ok_law_offers gl C__law_take F__law_offers, F__law_offers.kp, He.glo_ok KX G (c.t.d.fact 46 (f := .glo "_law_offers") rfl), b__law_offers⟩⟩
    have C__law_by : Cal P w K mg base 1 "_law_by" ["word", "text"] sp_law_by := ⟨⟨_, fd__law_by, ok_law_by gl F__law_by, F__law_by.kp, He.glo_ok KX G (c.t.d.fact 39 (f := .glo "_law_by") rfl), b__law_by⟩⟩
    have C__law_made : Cal P w K mg base 2 "_law_made" ["way", "text"] (sp_law_made K) := ⟨⟨_, fd__law_made, ok_law_made C__law_by F__law_made, F__law_made.kp, He.glo_ok KX G (c.t.d.fact 40 (f := .glo "_law_made") rfl), b__law_made⟩⟩
    have C__law_is_of : Cal P w K mg base 1 "_law_is_of" ["text", "kind"] sp_law_is_of := ⟨⟨_, fd__law_is_of, ok_law_is_of gl F__law_is_of, F__law_is_of.kp, He.glo_ok KX G (c.t.d.fact 41 (f := .glo "_law_is_of") rfl), b__law_is_of⟩⟩
    have C__law_parts : Cal P w K mg base 3 "_law_parts" ["one", "other", "kind", "text"] (sp_is_parting K) := ⟨⟨_, fd__law_parts, ok_law_parts gl C__law_is_of C__law_made F__law_parts, F__law_parts.kp, He.glo_ok KX G (c.t.d.fact 42 (f := .glo "_law_parts") rfl), b__law_parts⟩⟩
    exact ok_law gl gS clS gI kS naS naS2 C__law_way C__law_pick C__law_take C__law_offers C__law_lots C_lots C_without C__law_left C_are_alike C__law_in C_greatest_lots C_spare T_Spared M_Alike T_Alike C__law_parts F_law
end
end TE

set_option Elab.async false
set_option linter.all false
set_option maxRecDepth 100000
set_option maxHeartbeats 0
open PySem PySem.W PySem.Calls PyProof.Rows
theorem PySem.Challenge.cw_turnedends_k32_whole_spared_holds : PySem.Challenge.rw_turnedends_k32_whole_spared.Holds := by
  w_on; o_law
  refine HandSHeadRun.head_any (r := OpenLaw.row PySem.Challenge.rw_turnedends_k32_whole_spared) (q := view (OpenLaw.row PySem.Challenge.rw_turnedends_k32_whole_spared).prog [69]) (H := TE.hk) (ob := TE.ob) (M := 4000) (loose := TE.loose) (d := HandSHeadRun.topDef (OpenLaw.row PySem.Challenge.rw_turnedends_k32_whole_spared).prog 69) (kwd := []) TE.ob_eq
    (by kernel_rfl) (fun s => by kernel_rfl) TE.run (by kernel_rfl) (by kernel_rfl) (by kernel_rfl) (by rfl) (by first | assumption | decide +kernel) (by decide +kernel) ⟨rfl, rfl, rfl, rfl, rfl, by decide +kernel⟩ ?hw ?hc
  case hw => w_witness2
  case hc =>
    refine LamX.walk_ofTsE (l := PySem.Challenge.rw_turnedends_k32_whole_spared) (n := 63) (k := 9) (x := "script") (CX := fun _ => L2.CX0) rfl (by decide) (by kernel_rfl) ⟨rfl, by decide, by decide⟩ ?F (fun _ _ _ _ _ z => z)
    intro w mg fa h Y G hmg0
    obtain ⟨K, KX, c⟩ := Y
    have hmg : mg ("law" : PySem.Str) = some (.ref fa) := by
      have e : (HandSHeadRun.topDef (OpenLaw.row PySem.Challenge.rw_turnedends_k32_whole_spared).prog 69).name = ("law" : PySem.Str) := by kernel_rfl
      rw [← e]
      exact hmg0
    obtain ⟨fd, hb, hF⟩ := TE.facts_law (P := (PySem.Challenge.rw_turnedends_k32_whole_spared).prog) (w := w) KX G hmg c
    have tfp : ∀ p ∈ TE.csOf K, ∃ q ∈ TE.tf, p = He.cT K q := fun p hp => by
      rcases List.mem_cons.mp hp with z | z
      · exact ⟨("lots_of", none), List.mem_cons_self .., z⟩
      · exact ⟨("_law_lots", none), List.mem_cons_of_mem _ (List.mem_cons_self ..), List.mem_singleton.mp z⟩
    refine ⟨K, KX, fd, TE.csOf K, TE.sp_law K (TE.tabOfK K), ?_, ?_, ?_, hb, ?_, fun base _ _ ht => hF base ht⟩
    · intro p hp
      obtain ⟨q, hq, rfl⟩ := tfp p hp
      exact c.empty q hq
    · intro p hp
      obtain ⟨q, hq, rfl⟩ := tfp p hp
      exact c.out q hq
    · intro p hp
      obtain ⟨q, hq, rfl⟩ := tfp p hp
      exact PySem.W.codeHd_of_K KX (c.hd q hq)
    · intro H a ns hlen _ hH hS
      refine ⟨a, ns, rfl, hS, hlen, fun p hp => ?_, fun _ => rfl⟩
      rcases List.mem_cons.mp hp with z | z
      · rw [z]
        exact LamX.TabS.nil (hH _ (List.mem_cons_self ..))
      · rw [List.mem_singleton.mp z]
        exact LamX.TabS.nil (hH _ (List.mem_cons_of_mem _ (List.mem_cons_self ..)))
